import PyProof.Rows.All
import Wide.All
import OpenK.AllK
import Wide.FinOn
import HandS.ForMost
import HandS.IsInst
import HandS.Conv
import HandS.Wide
import HandS.WideBits
import HandS.Evl
import HandS.Walk
import HandS.SortInts
import HandS.SetFor
import HandS.Style
import HandS.Rev
import HandS.RevTup
import HandS.ForExc
import HandS.ExcIs
import HandS.HotCalls
import PyProof.Rows.CountFlat
import KE.SortKeyHeap
import KE.SortLaws
import HandS.Lambda
import HandS.EndTab
import HandS.SortKw
import HandS.Conv
import KE.DataCmp
import PySem.Challenge.RW_riftcarry_k25_all_ways
set_option Elab.async false
set_option linter.all false
set_option maxRecDepth 100000
set_option maxHeartbeats 4000000
namespace Rc
open PySem PySem.Spec PyProof.Rows L2

/-! frames: H grew out of H0; own lists the objects that are new since then -/
structure Fr (H0 H : Hp) (own : List (Addr × HO)) : Prop where
  same : Same H0 H
  frs : ∀ p ∈ own, H0 p.1 = none ∧ H p.1 = some p.2
  nd : (own.map (·.1)).Nodup

section
variable {H0 H H' : Hp} {own : List (Addr × HO)} {p q r t : Addr} {o o' u v x : HO}
theorem same_new (h : H p = none) : Same H (upd H p o) := fun b x e => by
  rw [upd_ne (ne_of_none e h)]; exact e
theorem Fr.nil (H : Hp) : Fr H H [] := ⟨Same.refl H, (fun _ h => nomatch h), List.nodup_nil⟩
theorem Fr.fresh (f : Fr H0 H own) (h : H p = none) : H0 p = none := f.same.free h
theorem Fr.notin (f : Fr H0 H own) (h : H p = none) : p ∉ own.map (·.1) := fun hm => by
  obtain ⟨z, hz, rfl⟩ := List.mem_map.mp hm
  rw [(f.frs z hz).2] at h; cases h
theorem Fr.call (f : Fr H0 H own) (s : Same H H') : Fr H0 H' own :=
  ⟨f.same.trans s, fun z hz => ⟨(f.frs z hz).1, s _ _ (f.frs z hz).2⟩, f.nd⟩
theorem Fr.cnew (f : Fr H0 H own) (s : Same H H') (h : H p = none) (e : H' p = some o) : Fr H0 H' ((p, o) :: own) :=
  ⟨f.same.trans s, fun z hz => by
    rcases List.mem_cons.mp hz with rfl | hz
    · exact ⟨f.fresh h, e⟩
    · exact ⟨(f.frs z hz).1, s _ _ (f.frs z hz).2⟩, List.nodup_cons.mpr ⟨f.notin h, f.nd⟩⟩
theorem Fr.new (f : Fr H0 H own) (h : H p = none) : Fr H0 (upd H p o) ((p, o) :: own) := f.cnew (same_new h) h upd_same
theorem Fr.tmp (f : Fr H0 H own) (h : H p = none) : Fr H0 (upd H p o) own := f.call (same_new h)
theorem Fr.sub {own' : List (Addr × HO)} (f : Fr H0 H own) (h : own'.Sublist own) : Fr H0 H own' :=
  ⟨f.same, fun z hz => f.frs z (h.subset hz), f.nd.sublist (h.map _)⟩
theorem Fr.perm {own' : List (Addr × HO)} (f : Fr H0 H own) (h : own.Perm own') : Fr H0 H own' :=
  ⟨f.same, fun z hz => f.frs z (h.mem_iff.mpr hz), (h.map _).nodup_iff.mp f.nd⟩
theorem Fr.mem (f : Fr H0 H own) (h : (p, o) ∈ own) : H p = some o := (f.frs _ h).2
theorem Fr.wr (f : Fr H0 H ((p, o) :: own)) : Fr H0 (upd H p o') ((p, o') :: own) := by
  have hn := List.nodup_cons.mp f.nd
  refine ⟨fun b z e => ?_, fun z hz => ?_, f.nd⟩
  · have : b ≠ p := fun h => by subst h; rw [(f.frs (b, o) List.mem_cons_self).1] at e; cases e
    rw [upd_ne this]; exact f.same _ _ e
  · rcases List.mem_cons.mp hz with rfl | hz
    · exact ⟨(f.frs (p, o) List.mem_cons_self).1, upd_same⟩
    · have : z.1 ≠ p := fun h => hn.1 (List.mem_map.mpr ⟨z, hz, h⟩)
      rw [upd_ne this]
      exact f.frs z (List.mem_cons_of_mem _ hz)
theorem Fr.cast (f : Fr H0 H ((p, o) :: own)) (e : o = o') : Fr H0 H ((p, o') :: own) := e ▸ f
/-- bring the k-th to the front, and back -/
theorem Fr.up1 {a b : Addr × HO} (f : Fr H0 H (a :: b :: own)) : Fr H0 H (b :: a :: own) := f.perm (List.Perm.swap _ _ _)
theorem Fr.up2 {a b c : Addr × HO} (f : Fr H0 H (a :: b :: c :: own)) : Fr H0 H (c :: a :: b :: own) :=
  f.perm ((List.Perm.swap c b own).cons a |>.trans (List.Perm.swap c a (b :: own)))
theorem Fr.up3 {a b c d : Addr × HO} (f : Fr H0 H (a :: b :: c :: d :: own)) : Fr H0 H (d :: a :: b :: c :: own) :=
  f.perm (((List.Perm.swap d c own).cons b |>.trans (List.Perm.swap d b (c :: own))).cons a |>.trans (List.Perm.swap d a (b :: c :: own)))
theorem Fr.dn1 {a b : Addr × HO} (f : Fr H0 H (b :: a :: own)) : Fr H0 H (a :: b :: own) := f.up1
theorem Fr.dn2 {a b c : Addr × HO} (f : Fr H0 H (c :: a :: b :: own)) : Fr H0 H (a :: b :: c :: own) := f.up1.perm ((List.Perm.swap _ _ _).cons _)
theorem Fr.dn3 {a b c d : Addr × HO} (f : Fr H0 H (d :: a :: b :: c :: own)) : Fr H0 H (a :: b :: c :: d :: own) :=
  f.up1.perm (((List.Perm.swap _ _ _).trans ((List.Perm.swap _ _ _).cons _)).cons _)
theorem Fr.at0 (f : Fr H0 H ((p, o) :: own)) : H p = some o := f.mem List.mem_cons_self
theorem Fr.at1 {a : Addr × HO} (f : Fr H0 H (a :: (p, o) :: own)) : H p = some o := f.up1.at0
theorem Fr.at2 {a b : Addr × HO} (f : Fr H0 H (a :: b :: (p, o) :: own)) : H p = some o := f.up2.at0
theorem Fr.at3 {a b c : Addr × HO} (f : Fr H0 H (a :: b :: c :: (p, o) :: own)) : H p = some o := f.up3.at0
theorem Fr.at4 {a b c d : Addr × HO} (f : Fr H0 H (a :: b :: c :: d :: (p, o) :: own)) : H p = some o := (f.sub (List.sublist_cons_self _ _)).at3
theorem Fr.at5 {a b c d e : Addr × HO} (f : Fr H0 H (a :: b :: c :: d :: e :: (p, o) :: own)) : H p = some o := (f.sub (List.sublist_cons_self _ _)).at4
theorem Fr.d0 {a : Addr × HO} (f : Fr H0 H (a :: own)) : Fr H0 H own := f.sub (List.sublist_cons_self _ _)
theorem Fr.d1 {a b : Addr × HO} (f : Fr H0 H (a :: b :: own)) : Fr H0 H (a :: own) := f.up1.d0
theorem Fr.d2 {a b c : Addr × HO} (f : Fr H0 H (a :: b :: c :: own)) : Fr H0 H (a :: b :: own) := f.up2.d0
theorem Fr.d3 {a b c d : Addr × HO} (f : Fr H0 H (a :: b :: c :: d :: own)) : Fr H0 H (a :: b :: c :: own) := f.up3.d0
theorem Fr.wr1 {a : Addr × HO} (f : Fr H0 H (a :: (p, o) :: own)) : Fr H0 (upd H p o') (a :: (p, o') :: own) := f.up1.wr.dn1
theorem Fr.wr2 {a b : Addr × HO} (f : Fr H0 H (a :: b :: (p, o) :: own)) : Fr H0 (upd H p o') (a :: b :: (p, o') :: own) := f.up2.wr.dn2
theorem Fr.wr3 {a b c : Addr × HO} (f : Fr H0 H (a :: b :: c :: (p, o) :: own)) : Fr H0 (upd H p o') (a :: b :: c :: (p, o') :: own) := f.up3.wr.dn3
theorem Fr.cs1 {a : Addr × HO} (f : Fr H0 H (a :: (p, o) :: own)) (e : o = o') : Fr H0 H (a :: (p, o') :: own) := e ▸ f
theorem Fr.cs2 {a b : Addr × HO} (f : Fr H0 H (a :: b :: (p, o) :: own)) (e : o = o') : Fr H0 H (a :: b :: (p, o') :: own) := e ▸ f
theorem Fr.cs3 {a b c : Addr × HO} (f : Fr H0 H (a :: b :: c :: (p, o) :: own)) (e : o = o') : Fr H0 H (a :: b :: c :: (p, o') :: own) := e ▸ f
end

/-! contents -/
theorem app_map {α β : Type} (f : α → β) (xs : List α) (y : α) : xs.map f ++ [f y] = (xs ++ [y]).map f := by simp
theorem set_map' {α β : Type} (f : α → β) (xs : List α) (j : Nat) (y : α) : (xs.map f).set j (f y) = (xs.set j y).map f := by rw [List.map_set]
theorem lst_app {α : Type} (f : α → V) (xs : List α) (y : α) : HO.lst (xs.map f ++ [f y]) = .lst ((xs ++ [y]).map f) := by rw [app_map]
theorem lst_set {α : Type} (f : α → V) (xs : List α) (j : Nat) (y : α) : HO.lst ((xs.map f).set j (f y)) = .lst ((xs.set j y).map f) := by rw [set_map']
theorem lst_rev {α : Type} (f : α → V) (xs : List α) : HO.lst ((xs.map f).reverse) = .lst (xs.reverse.map f) := by rw [List.map_reverse]
theorem lst_cat {α : Type} (f : α → V) (xs ys : List α) : HO.lst (xs.map f ++ ys.map f) = .lst ((xs ++ ys).map f) := by rw [List.map_append]
theorem lst_rep {α : Type} (f : α → V) (xs : List α) (k : Nat) : HO.lst (List.replicate k (xs.map f)).flatten = .lst ((List.replicate k xs).flatten.map f) := by
  rw [List.map_flatten, List.map_replicate]
theorem erase_map' {α β : Type} (f : α → β) : ∀ (xs : List α) (k : Nat), (xs.map f).eraseIdx k = (xs.eraseIdx k).map f
  | [], _ => rfl
  | _ :: _, 0 => rfl
  | x :: xs, k + 1 => by
    show f x :: (xs.map f).eraseIdx k = f x :: (xs.eraseIdx k).map f
    rw [erase_map' f xs k]
theorem lst_erase {α : Type} (f : α → V) (xs : List α) (k : Nat) : HO.lst ((xs.map f).eraseIdx k) = .lst ((xs.eraseIdx k).map f) := by rw [erase_map']
theorem lst_dl {α : Type} (f : α → V) (xs : List α) : HO.lst ((xs.map f).dropLast) = .lst (xs.dropLast.map f) := by rw [List.map_dropLast]
theorem lst_rep1 {α : Type} (f : α → V) (x : α) (k : Nat) : HO.lst (List.replicate k [f x]).flatten = .lst ((List.replicate k x).map f) := by
  rw [List.map_replicate]; congr 1
  induction k with
  | zero => rfl
  | succ k ih => rw [List.replicate_succ, List.flatten_cons, ih]; rfl
/-- a slice with step one -/
def cutL {α : Type} (xs : List α) (lo hi : Option Int) : List α :=
  (xs.drop (HT.sIx xs.length 0 lo)).take (HT.sIx xs.length xs.length hi - HT.sIx xs.length 0 lo)
theorem lst_cut {α : Type} (f : α → V) (xs : List α) (lo hi : Option Int) : HO.lst (cutV (xs.map f) lo hi) = .lst ((cutL xs lo hi).map f) := by
  unfold cutV cutL; rw [List.length_map, List.map_take, List.map_drop]
theorem cutL_length {α : Type} (xs : List α) (lo hi : Option Int) : (cutL xs lo hi).length = min (HT.sIx xs.length xs.length hi - HT.sIx xs.length 0 lo) (xs.length - HT.sIx xs.length 0 lo) := by
  unfold cutL; rw [List.length_take, List.length_drop]
theorem rgV_eq (a b : Int) : rgV a b = ((List.range (b - a).toNat).map fun i : Nat => a + (i : Int)).map V.int := by
  unfold rgV; rw [List.map_map]; rfl
def rangeI (n : Int) : List Int := (List.range n.toNat).map fun i : Nat => (i : Int)
theorem lst_rng (n : Int) : HO.lst (rgV 0 n) = .lst ((rangeI n).map V.int) := by
  rw [rgV_eq]; unfold rangeI; congr 2; simp
theorem atD {α : Type} {f : α → V} {xs : List α} {i : Int} (d : α) (h0 : 0 ≤ i) (h1 : i < (xs.length : Int)) : atI (xs.map f) i = some (f (xs.getD i.toNat d)) := by
  obtain ⟨n, rfl⟩ := Int.eq_ofNat_of_zero_le h0
  have hn : n < xs.length := by omega
  refine atI_nat ?_
  rw [List.getElem?_map, List.getElem?_eq_getElem hn]
  simp [List.getD, hn]
theorem ixD {n : Nat} {i : Int} (h0 : 0 ≤ i) (h1 : i < (n : Int)) : ixN n i = some i.toNat := by
  unfold ixN; rw [if_pos h0, if_pos h1]
theorem atLast {α : Type} {f : α → V} {xs : List α} (d : α) (h : 0 < xs.length) : atI (xs.map f) (-1) = some (f (xs.getLastD d)) := by
  have hne : xs ≠ [] := fun z => by subst z; cases h
  have e : xs.map f = xs.dropLast.map f ++ [f (xs.getLast hne)] := by
    rw [← List.map_singleton, ← List.map_append, List.dropLast_concat_getLast]
  rw [e, atI_last, List.getLastD_eq_getLast?, List.getLast?_eq_some_getLast hne]; rfl
theorem getD_mem {α : Type} {xs : List α} {i : Nat} {d : α} (h : i < xs.length) : xs.getD i d ∈ xs := by
  simp [List.getD, h]

/-! tests -/
theorem iteD {c : Prop} [Decidable c] {A B : Prop} (h1 : c → A) (h2 : ¬ c → B) : if decide c = true then A else B := by
  by_cases h : c
  · rw [if_pos (decide_eq_true h)]; exact h1 h
  · rw [if_neg (by rw [decide_eq_false h]; exact Bool.false_ne_true)]; exact h2 h
theorem iteN {c : Prop} [Decidable c] {A B : Prop} (h1 : ¬ c → A) (h2 : c → B) : if (!decide c) = true then A else B := by
  by_cases h : c
  · rw [if_neg (by rw [decide_eq_true h]; exact Bool.false_ne_true)]; exact h2 h
  · rw [if_pos (by rw [decide_eq_false h]; rfl)]; exact h1 h
theorem iteB {b : Bool} {A B : Prop} (h1 : b = true → A) (h2 : b = false → B) : if b = true then A else B := by
  cases b with
  | true => exact iteT (h1 rfl)
  | false => exact iteF (h2 rfl)
theorem iteBT {b : Bool} {A B : Prop} (h : b = true) (h1 : A) : if b = true then A else B := by subst h; exact iteT h1
theorem iteBF {b : Bool} {A B : Prop} (h : b = false) (h1 : B) : if b = true then A else B := by subst h; exact iteF h1

/-! operators by values, in handy forms -/
section
variable {X : Cx}
theorem op_eqB : OpR X (compareOp .Eq) (fun x y H Q => ∃ a b : Bool, x = .bl a ∧ y = .bl b ∧ Q (.bl (a == b)) H) := by
  intro pins s σ H x y v u Q I rx ry h
  obtain ⟨a, b, rfl, rfl, q⟩ := h
  refine op_eq pins s σ H _ _ v u Q I rx ry ⟨rfl, ?_⟩
  have : decide (V.bl a = V.bl b) = (a == b) := by cases a <;> cases b <;> rfl
  rw [this]; exact q
theorem op_neB : OpR X (compareOp .NotEq) (fun x y H Q => ∃ a b : Bool, x = .bl a ∧ y = .bl b ∧ Q (.bl (a != b)) H) := by
  intro pins s σ H x y v u Q I rx ry h
  obtain ⟨a, b, rfl, rfl, q⟩ := h
  refine op_ne pins s σ H _ _ v u Q I rx ry ⟨rfl, ?_⟩
  have : (!decide (V.bl a = V.bl b)) = (a != b) := by cases a <;> cases b <;> rfl
  rw [this]; exact q
def rLenL (K : PySem.W.Frag) : List V → Hp → VK → Prop := fun xs H Q => ∃ p n ys, xs = [.ref p] ∧ SqL K H p ys ∧ ys.length = n ∧ Q (.int (n : Nat)) H
theorem call_lenL : CallR X (.builtin "len") (rLenL X.K) := by
  intro pins s σ H xs us Q I r h
  obtain ⟨p, n, ys, rfl, hp, rfl, q⟩ := h
  exact call_len_seq pins s σ H _ us Q I r ⟨p, ys, rfl, .inl hp, q⟩
def rLenT (K : PySem.W.Frag) : List V → Hp → VK → Prop := fun xs H Q => ∃ p n ys, xs = [.ref p] ∧ SqT K H p ys ∧ ys.length = n ∧ Q (.int (n : Nat)) H
theorem call_lenT : CallR X (.builtin "len") (rLenT X.K) := by
  intro pins s σ H xs us Q I r h
  obtain ⟨p, n, ys, rfl, hp, rfl, q⟩ := h
  exact call_len_seq pins s σ H _ us Q I r ⟨p, ys, rfl, .inr hp, q⟩
def rListL (K : PySem.W.Frag) : List V → Hp → VK → Prop := fun xs H Q => ∃ p ys, xs = [.ref p] ∧ (SqL K H p ys ∨ SqT K H p ys) ∧ ∀ l, H l = none → Q (.ref l) (upd H l (.lst ys))
theorem call_listL : CallR X (.type "list") (rListL X.K) := call_list_of
theorem call_minI (hc : X.calm = true) : CallR X (.builtin "min") (fun xs H Q => ∃ i j : Int, xs = [.int i, .int j] ∧ Q (.int (min i j)) H) := by
  intro pins s σ H xs us Q I r h
  obtain ⟨i, j, rfl, q⟩ := h
  refine call_min2 hc pins s σ H _ us Q I r ⟨i, j, rfl, ?_⟩
  have : (if j < i then j else i) = min i j := by
    by_cases h : j < i
    · rw [if_pos h]; omega
    · rw [if_neg h]; omega
  rw [this]; exact q
theorem call_maxI (hc : X.calm = true) : CallR X (.builtin "max") (fun xs H Q => ∃ i j : Int, xs = [.int i, .int j] ∧ Q (.int (max i j)) H) := by
  intro pins s σ H xs us Q I r h
  obtain ⟨i, j, rfl, q⟩ := h
  refine call_max2 hc pins s σ H _ us Q I r ⟨i, j, rfl, ?_⟩
  have : (if j > i then j else i) = max i j := by
    by_cases h : j > i
    · rw [if_pos h]; omega
    · rw [if_neg h]; omega
  rw [this]; exact q
theorem call_absI : CallR X (.builtin "abs") (fun xs H Q => ∃ i : Int, xs = [.int i] ∧ Q (.int (i.natAbs : Nat)) H) := by
  intro pins s σ H xs us Q I r h
  obtain ⟨i, rfl, q⟩ := h
  refine call_abs pins s σ H _ us Q I r ⟨i, rfl, ?_⟩
  have : (if i < 0 then -i else i) = (i.natAbs : Int) := by
    by_cases h : i < 0
    · rw [if_pos h]; omega
    · rw [if_neg h]; omega
  rw [this]; exact q
theorem pe_bmK {K : PySem.W.Frag} {e : Expr} {T : String} {r : V → List V → Hp → VK → Prop} {to : TE} {t : TA} (h : PE X e (tBM X.K T r to t)) (hk : X.K = K := by rfl) : PE X e (tBM K T r to t) := by subst hk; exact h
/-- comparisons, told in two ways -/
theorem op_ltS : OpR X (compareOp .Lt) (fun x y H Q => ∃ i j : Int, x = .int i ∧ y = .int j ∧ (i < j → Q (.bl true) H) ∧ (¬ i < j → Q (.bl false) H)) := by
  intro pins s σ H x y v u Q I rx ry h
  obtain ⟨i, j, rfl, rfl, q1, q2⟩ := h
  refine op_lt pins s σ H _ _ v u Q I rx ry ⟨i, j, rfl, rfl, ?_⟩
  show Q (V.bl (decide (i < j))) H
  by_cases h : i < j
  · rw [decide_eq_true h]; exact q1 h
  · rw [decide_eq_false h]; exact q2 h
theorem op_leS : OpR X (compareOp .LtE) (fun x y H Q => ∃ i j : Int, x = .int i ∧ y = .int j ∧ (i ≤ j → Q (.bl true) H) ∧ (¬ i ≤ j → Q (.bl false) H)) := by
  intro pins s σ H x y v u Q I rx ry h
  obtain ⟨i, j, rfl, rfl, q1, q2⟩ := h
  refine op_le pins s σ H _ _ v u Q I rx ry ⟨i, j, rfl, rfl, ?_⟩
  show Q (V.bl (decide (i ≤ j))) H
  by_cases h : i ≤ j
  · rw [decide_eq_true h]; exact q1 h
  · rw [decide_eq_false h]; exact q2 h
theorem op_gtS : OpR X (compareOp .Gt) (fun x y H Q => ∃ i j : Int, x = .int i ∧ y = .int j ∧ (j < i → Q (.bl true) H) ∧ (¬ j < i → Q (.bl false) H)) := by
  intro pins s σ H x y v u Q I rx ry h
  obtain ⟨i, j, rfl, rfl, q1, q2⟩ := h
  refine op_gt pins s σ H _ _ v u Q I rx ry ⟨i, j, rfl, rfl, ?_⟩
  show Q (V.bl (decide (j < i))) H
  by_cases h : j < i
  · rw [decide_eq_true h]; exact q1 h
  · rw [decide_eq_false h]; exact q2 h
theorem op_geS : OpR X (compareOp .GtE) (fun x y H Q => ∃ i j : Int, x = .int i ∧ y = .int j ∧ (j ≤ i → Q (.bl true) H) ∧ (¬ j ≤ i → Q (.bl false) H)) := by
  intro pins s σ H x y v u Q I rx ry h
  obtain ⟨i, j, rfl, rfl, q1, q2⟩ := h
  refine op_ge pins s σ H _ _ v u Q I rx ry ⟨i, j, rfl, rfl, ?_⟩
  show Q (V.bl (decide (j ≤ i))) H
  by_cases h : j ≤ i
  · rw [decide_eq_true h]; exact q1 h
  · rw [decide_eq_false h]; exact q2 h
theorem int_dec {i j : Int} : decide (V.int i = V.int j) = decide (i = j) := by
  by_cases h : i = j
  · subst h; rw [decide_eq_true rfl, decide_eq_true rfl]
  · rw [decide_eq_false h, decide_eq_false fun z => h (V.int.inj z)]
theorem op_eqS : OpR X (compareOp .Eq) (fun x y H Q => ∃ i j : Int, x = .int i ∧ y = .int j ∧ (i = j → Q (.bl true) H) ∧ (¬ i = j → Q (.bl false) H)) := by
  intro pins s σ H x y v u Q I rx ry h
  obtain ⟨i, j, rfl, rfl, q1, q2⟩ := h
  refine op_eq pins s σ H _ _ v u Q I rx ry ⟨rfl, ?_⟩
  rw [int_dec]
  by_cases h : i = j
  · rw [decide_eq_true h]; exact q1 h
  · rw [decide_eq_false h]; exact q2 h
theorem op_neS : OpR X (compareOp .NotEq) (fun x y H Q => ∃ i j : Int, x = .int i ∧ y = .int j ∧ (¬ i = j → Q (.bl true) H) ∧ (i = j → Q (.bl false) H)) := by
  intro pins s σ H x y v u Q I rx ry h
  obtain ⟨i, j, rfl, rfl, q1, q2⟩ := h
  refine op_ne pins s σ H _ _ v u Q I rx ry ⟨rfl, ?_⟩
  rw [int_dec]
  by_cases h : i = j
  · rw [decide_eq_true h]; exact q2 h
  · rw [decide_eq_false h]; exact q1 h
/-- a truth, told in two ways: as a test, as a value -/
def tBS (t : TE) : TT := fun σ H Q => t σ H fun x H1 => ∃ b, x = .bl b ∧ (b = true → Q true H1) ∧ (b = false → Q false H1)
theorem pt_valS {e : Expr} {t : TE} (h : PE X e t) (he : ∀ whole, isTrue e X.env whole = (do let v ← whole; standAt e.pos; holding [v] (truthy v)) := by intro _; rfl) : PT X e (tBS t) := by
  refine ⟨fun pins s σ H Q I hw => ?_⟩
  refine isTrue_plain (thn (h.run pins s σ H _ I hw) fun v s1 ⟨x, H1, I1, r1, q1⟩ => ?_) (he _)
  obtain ⟨d, rfl, q1, q2⟩ := q1
  cases r1
  refine wpAny_truthy_bool ⟨H1, I1, ?_⟩
  cases d with
  | true => exact q1 rfl
  | false => exact q2 rfl
/-- an operator whose answer is a truth, told in two ways -/
theorem opS {f : Value → Value → Sem Value} {r : R2} (h : OpR X f r) : OpR X f (fun x y H Q => r x y H fun z H1 => ∃ b, z = .bl b ∧ (b = true → Q (.bl true) H1) ∧ (b = false → Q (.bl false) H1)) := by
  intro pins s σ H x y v u Q I rx ry q
  refine thn (h pins s σ H x y v u _ I rx ry q) fun w s1 ⟨z, H1, I1, r1, q1⟩ => ?_
  obtain ⟨d, rfl, q1, q2⟩ := q1
  refine ⟨.bl d, H1, I1, r1, ?_⟩
  cases d with
  | true => exact q1 rfl
  | false => exact q2 rfl
/-- and, or, not as values, of truths told in two ways -/
def tSplE (t : TE) : TE := fun σ H Q => t σ H fun x H1 => ∃ b, x = .bl b ∧ (b = true → Q (.bl true) H1) ∧ (b = false → Q (.bl false) H1)
theorem pe_splS {e : Expr} {t : TE} (h : PE X e t) : PE X e (tSplE t) := by
  refine ⟨fun pins s σ H Q I hw => thn (h.run pins s σ H _ I hw) fun v s1 ⟨x, H1, I1, r1, q1⟩ => ?_⟩
  obtain ⟨d, rfl, q1, q2⟩ := q1
  refine ⟨.bl d, H1, I1, r1, ?_⟩
  cases d with
  | true => exact q1 rfl
  | false => exact q2 rfl
/-- a power of written numbers, told as a number -/
theorem op_powL : OpR X (binaryOp .Pow) (fun x y H Q => ∃ i j k : Int, x = .int i ∧ y = .int j ∧ CPow i j ∧ i ^ j.toNat = k ∧ Q (.int k) H) := by
  intro pins s σ H x y v u Q I rx ry h
  obtain ⟨i, j, k, rfl, rfl, hc, rfl, q⟩ := h
  exact op_pow pins s σ H _ _ v u Q I rx ry ⟨i, j, rfl, rfl, hc, q⟩
/-- xs[i], read for an augmented store -/
theorem get_list : PGet X (rIxL X.K) := by
  intro pins s σ H o i ov iv Q I ro ri h
  obtain ⟨p, xs, k, z, rfl, rfl, hq, he, q⟩ := h
  cases ro
  obtain ⟨tk, rfl⟩ := ri
  obtain ⟨its, vr, pl, hz⟩ := I.list hq
  obtain ⟨j, h1, h2, h3, h4, h5⟩ := atI_get he
  obtain ⟨w, ew, rw'⟩ := vr.get h2
  have hl := vr.length
  have hn := line63
  have fin : EP X pins σ Q w s := ⟨z, H, I, rw', q⟩
  by_cases h0 : 0 ≤ k
  · have hj : k.toNat = j := by
      rw [seqIndex_of h0 h5] at h1; exact Option.some.inj h1
    exact wpAny_mono (wpAny_getItem_list (Q := fun r s' => r = w ∧ EP X pins σ Q r s') pl.isList h0 (by omega) (by rw [hj]; simpa using ew) ⟨rfl, fin⟩) (fun _ _ z => z.2) fun _ _ z => z
  · have hj : (k + (its.toArray.size : Int)).toNat = j := by
      rw [seqIndex_neg (by omega) h4] at h1
      rw [List.size_toArray, ← hl]; exact Option.some.inj h1
    exact wpAny_mono (wpAny_getItem_list_neg (Q := fun r s' => r = w ∧ EP X pins σ Q r s') pl.isList (by omega) (by rw [List.size_toArray] <;> omega) (by omega) (by rw [hj]; simpa using ew) ⟨rfl, fin⟩) (fun _ _ z => z.2) fun _ _ z => z
end
end Rc
namespace Rc
open PySem PySem.Spec PyProof.Rows L2

section
variable {H0 H H' : Hp} {own : List (Addr × HO)} {p : Addr} {o : HO}
theorem Fr.n0 (f : Fr H0 H ((p, o) :: own)) : H0 p = none := (f.frs _ List.mem_cons_self).1
theorem Fr.n1 {a : Addr × HO} (f : Fr H0 H (a :: (p, o) :: own)) : H0 p = none := f.up1.n0
theorem Fr.n2 {a b : Addr × HO} (f : Fr H0 H (a :: b :: (p, o) :: own)) : H0 p = none := f.up2.n0
end
/-- the k-th of what is own -/
theorem getElem?_perm {α : Type} : ∀ {l : List α} {k : Nat} {x : α}, l[k]? = some x → l.Perm (x :: l.eraseIdx k)
  | [], _, _, h => by simp at h
  | y :: l, 0, x, h => by cases (Option.some.inj h); exact List.Perm.refl _
  | y :: l, k + 1, x, h => ((getElem?_perm (l := l) (k := k) h).cons y).trans (List.Perm.swap _ _ _)
section
variable {H0 H H' : Hp} {own : List (Addr × HO)} {p : Addr} {o o' : HO}
theorem Fr.atk (f : Fr H0 H own) (k : Nat) (h : own[k]? = some (p, o)) : H p = some o := f.mem (List.mem_of_getElem? h)
theorem Fr.upk {x : Addr × HO} (f : Fr H0 H own) (k : Nat) (h : own[k]? = some x) : Fr H0 H (x :: own.eraseIdx k) := f.perm (getElem?_perm h)
theorem Fr.dk (f : Fr H0 H own) (k : Nat) : Fr H0 H (own.eraseIdx k) := f.sub (List.eraseIdx_sublist _ _)
theorem set_perm {α : Type} : ∀ {l : List α} {k : Nat} {x y : α}, l[k]? = some x → (y :: l.eraseIdx k).Perm (l.set k y)
  | [], _, _, _, h => by simp at h
  | z :: l, 0, x, y, h => List.Perm.refl _
  | z :: l, k + 1, x, y, h => (List.Perm.swap _ _ _).trans ((set_perm (l := l) (k := k) (y := y) h).cons z)
theorem Fr.wrk {o'' : HO} (f : Fr H0 H own) (k : Nat) (h : own[k]? = some (p, o)) (e : o' = o'') : Fr H0 (upd H p o') (own.set k (p, o'')) := by
  subst e
  exact ((f.upk k h).wr (o' := o')).perm (set_perm h)
end
theorem ndT {c : Prop} [Decidable c] (h : ¬ c) : (!decide c) = true := by rw [decide_eq_false h]; rfl
theorem ndF {c : Prop} [Decidable c] (h : c) : (!decide c) = false := by rw [decide_eq_true h]; rfl
theorem of_nd {c : Prop} [Decidable c] (h : (!decide c) = false) : c := by
  by_cases z : c
  · exact z
  · rw [decide_eq_false z] at h; cases h
theorem not_of_nd {c : Prop} [Decidable c] (h : (!decide c) = true) : ¬ c := fun z => by rw [decide_eq_true z] at h; cases h
theorem bnotT {b : Bool} (h : (!b) = true) : b = false := by cases b with | true => cases h | false => rfl
theorem bnotF {b : Bool} (h : (!b) = false) : b = true := by cases b with | true => rfl | false => cases h
theorem iteBN {b : Bool} {A B : Prop} (h1 : b = false → A) (h2 : b = true → B) : if (!b) = true then A else B := by
  cases b with
  | false => exact iteT (h1 rfl)
  | true => exact iteF (h2 rfl)
theorem hu64 {A : Around} {k : Nat} (hr : Room k A) : A.units + 64 < cLine := by have := hr.un; omega

/-! what is walked, with typed contents -/
section
variable {α β : Type} {K : PySem.W.Frag} {a b : Addr}
theorem walkR {n : Nat} : Walk (Itr 0 n) n (fun _ => True) (fun i H x H' => H' = H ∧ x = .int (i : Nat)) :=
  walk_range.mono (fun _ h => h) fun i H x H' _ _ y => ⟨y.1, by rw [y.2]; exact congrArg V.int (Int.zero_add _)⟩
theorem walkL (f : α → V) (ns : List α) : Walk (Itl K a) ns.length (fun H => H a = some (.lst (ns.map f))) (fun i H x H' => H' = H ∧ ∃ y, ns[i]? = some y ∧ x = f y) := by
  have w := walk_list (K := K) (a := a) (xs := ns.map f)
  rw [List.length_map] at w
  refine w.mono (fun H h => SqL.of h) fun i H x H' _ _ y => ⟨y.1, ?_⟩
  have e := y.2
  rw [List.getElem?_map] at e
  cases h : ns[i]? with
  | none => rw [h] at e; cases e
  | some z => rw [h] at e; exact ⟨z, rfl, (Option.some.inj e).symm⟩
theorem walkV (ns : List V) : Walk (Itl K a) ns.length (fun H => H a = some (.lst ns)) (fun i H x H' => H' = H ∧ ns[i]? = some x) :=
  walk_list.mono (fun H h => SqL.of h) fun i H x H' _ _ y => y
theorem walkRv (f : α → V) (ns : List α) : Walk (Itv K a (ns.map f).length) ns.length (fun H => H a = some (.lst (ns.map f))) (fun i H x H' => H' = H ∧ ∃ y, ns[ns.length - 1 - i]? = some y ∧ x = f y) := by
  have w := walk_rev (K := K) (a := a) (xs := ns.map f)
  rw [List.length_map] at w ⊢
  refine w.mono (fun H h => SqL.of h) fun i H x H' _ _ y => ⟨y.1, ?_⟩
  have e := y.2
  rw [List.getElem?_map] at e
  cases h : ns[ns.length - 1 - i]? with
  | none => rw [h] at e; cases e
  | some z => rw [h] at e; exact ⟨z, rfl, (Option.some.inj e).symm⟩
theorem walkE (f : α → V) (ns : List α) : Walk (Ite K a) ns.length (fun H => H a = some (.lst (ns.map f)))
    (fun i H x H' => ∃ T y, x = .ref T ∧ H T = none ∧ H' = upd H T (.tup [.int (i : Nat), f y]) ∧ ns[i]? = some y) := by
  have w := walk_enum (K := K) (a := a) (xs := ns.map f)
  rw [List.length_map] at w
  refine w.mono (fun H h => SqL.of h) fun i H x H' _ _ y => ?_
  obtain ⟨T, u, v, h1, h2, h3, h4, h5⟩ := y
  cases h4
  replace h5 : (ns.map f)[i]? = some v := h5
  rw [List.getElem?_map] at h5
  cases h : ns[i]? with
  | none => rw [h] at h5; cases h5
  | some z => rw [h] at h5; cases (Option.some.inj h5); exact ⟨T, z, h1, h2, h3, rfl⟩
theorem walkZ (f : α → V) (g : β → V) (ns : List α) (ms : List β) : Walk (Itz K a b) (min ns.length ms.length) (fun H => H a = some (.lst (ns.map f)) ∧ H b = some (.lst (ms.map g)))
    (fun i H x H' => ∃ T y z, x = .ref T ∧ H T = none ∧ H' = upd H T (.tup [f y, g z]) ∧ ns[i]? = some y ∧ ms[i]? = some z) := by
  have w := walk_zip (K := K) (a := a) (b := b) (xs := ns.map f) (ys := ms.map g) (n := min ns.length ms.length) (by rw [List.length_map, List.length_map])
  refine w.mono (fun H h => ⟨SqL.of h.1, SqL.of h.2⟩) fun i H x H' _ _ y => ?_
  obtain ⟨T, u, v, h1, h2, h3, h4, h5⟩ := y
  replace h4 : (ns.map f)[i]? = some u := h4
  replace h5 : (ms.map g)[i]? = some v := h5
  rw [List.getElem?_map] at h4 h5
  cases h : ns[i]? with
  | none => rw [h] at h4; cases h4
  | some z =>
    cases h' : ms[i]? with
    | none => rw [h'] at h5; cases h5
    | some z' =>
      rw [h] at h4; rw [h'] at h5
      cases (Option.some.inj h4); cases (Option.some.inj h5)
      exact ⟨T, z, z', h1, h2, h3, rfl, rfl⟩
end

theorem map_c {α : Type} (xs : List α) (c : Int) : xs.map (fun _ => c) = List.replicate xs.length c := by
  induction xs with
  | nil => rfl
  | cons x xs ih => rw [List.map_cons, ih]; rfl
/-! comprehensions: one turn -/
section
variable {α β : Type} {enc : β → V} {f : α → β} {ns : List α} {i : Nat} {y : α}
theorem take_next (h : ns[i]? = some y) : ns.take (i + 1) = ns.take i ++ [y] := by rw [List.take_add_one, h]; rfl
theorem lc_l (h : ns[i]? = some y) : HO.lst ((((ns.take i).map f).map enc) ++ [enc (f y)]) = .lst (((ns.take (i + 1)).map f).map enc) := by
  rw [take_next h, List.map_append, List.map_append]; rfl
theorem lc_l_t {p : α → Bool} (h : ns[i]? = some y) (hp : p y = true) : HO.lst (((((ns.take i).filter p).map f).map enc) ++ [enc (f y)]) = .lst ((((ns.take (i + 1)).filter p).map f).map enc) := by
  rw [take_next h, List.filter_append, List.map_append, List.map_append, List.filter_cons_of_pos hp]; rfl
theorem lc_l_f {p : α → Bool} (h : ns[i]? = some y) (hp : p y = false) : HO.lst ((((ns.take i).filter p).map f).map enc) = .lst ((((ns.take (i + 1)).filter p).map f).map enc) := by
  rw [take_next h, List.filter_append, List.filter_cons_of_neg (by rw [hp]; exact Bool.false_ne_true)]; simp
theorem lc_r (f : Nat → β) (i : Nat) : HO.lst ((((List.range i).map f).map enc) ++ [enc (f i)]) = .lst (((List.range (i + 1)).map f).map enc) := by
  rw [List.range_succ, List.map_append, List.map_append]; rfl
theorem lc_r_t {f : Nat → β} {p : Nat → Bool} (hp : p i = true) : HO.lst (((((List.range i).filter p).map f).map enc) ++ [enc (f i)]) = .lst ((((List.range (i + 1)).filter p).map f).map enc) := by
  rw [List.range_succ, List.filter_append, List.map_append, List.map_append, List.filter_cons_of_pos hp]; rfl
theorem lc_r_f {f : Nat → β} {p : Nat → Bool} (hp : p i = false) : HO.lst ((((List.range i).filter p).map f).map enc) = .lst ((((List.range (i + 1)).filter p).map f).map enc) := by
  rw [List.range_succ, List.filter_append, List.filter_cons_of_neg (by rw [hp]; exact Bool.false_ne_true)]; simp
end

/-! whiles by a measure -/
theorem while_m {c : TT} {tb : TS} {D : Ends} {σ : L2.St} {H : Hp} (W : Nat → L2.St → Hp → Prop) (h0 : ∃ m, W m σ H)
    (hs : ∀ m σ H, W m σ H → c σ H fun b H1 => if b = true then ∃ N : L2.St → Hp → Prop, (∀ σ' H', N σ' H' → ∃ m', m' < m ∧ W m' σ' H') ∧ tb { D with nx := N, ct := N, bk := D.nx } σ H1 else D.nx σ H1) : tWhile c tb D σ H := ⟨W, h0, hs⟩

/-! pop(i) -/
theorem popix {n : Nat} {i : Int} (h0 : 0 ≤ i) (h1 : i < (n : Int)) {α β : Type} {f : α → β} {xs : List α} (hn : n = xs.length := by rfl) : seqIndex? i (xs.map f).length = some i.toNat := by
  subst hn; rw [List.length_map]; exact seqIndex_of h0 h1
theorem popat {α : Type} {f : α → V} {xs : List α} {k : Nat} (d : α) (h : k < xs.length) : (xs.map f)[k]? = some (f (xs.getD k d)) := by
  rw [List.getElem?_map, List.getElem?_eq_getElem h]; simp [List.getD, h]
theorem ixDm {α β : Type} {f : α → β} {xs : List α} {i : Int} (h0 : 0 ≤ i) (h1 : i < (xs.length : Int)) : ixN (xs.map f).length i = some i.toNat := by
  rw [List.length_map]; exact ixD h0 h1
theorem atV {xs : List V} {i : Int} (d : V) (h0 : 0 ≤ i) (h1 : i < (xs.length : Int)) : atI xs i = some (xs.getD i.toNat d) := by
  have := atD (f := fun v : V => v) d h0 h1
  rwa [List.map_id'] at this

/-! deep data -/
def dI (xs : List Int) : PyData := .list (xs.map PyData.int)
def dB (xs : List Bool) : PyData := .list (xs.map PyData.bool)
section
variable {K : PySem.W.Frag} {H : Hp} {a : Addr}
theorem dpAll {α : Type} {f : α → V} {g : α → PyData} (h : ∀ x, Dp K H (f x) (g x)) : ∀ xs : List α, DpAll K H (xs.map f) (xs.map g)
  | [] => .nil
  | x :: xs => .cons (h x) (dpAll h xs)
/-- a list, its depth by its items -/
theorem dp_ints {xs : List Int} (h : H a = some (.lst (xs.map V.int))) : Dp K H (.ref a) (dI xs) := .lst (SqL.of h) (dpAll (fun _ => .int _) xs)
theorem dp_bls {xs : List Bool} (h : H a = some (.lst (xs.map V.bl))) : Dp K H (.ref a) (dB xs) := .lst (SqL.of h) (dpAll (fun _ => .bl _) xs)
end
theorem canAll {α : Type} {g : α → PyData} (h : ∀ x, (g x).canLay0 = true) : ∀ xs : List α, PyData.canLayAll0 (xs.map g) = true
  | [] => rfl
  | x :: xs => by
    show ((g x).canLay0 && PyData.canLayAll0 (xs.map g)) = true
    rw [h x, canAll h xs]; rfl
theorem depthAll {α : Type} {g : α → PyData} {n : Nat} (h : ∀ x, (g x).depth ≤ n) : ∀ xs : List α, PyData.depthAll (xs.map g) ≤ n
  | [] => Nat.zero_le _
  | x :: xs => by
    show max (g x).depth (PyData.depthAll (xs.map g)) ≤ n
    have h1 := h x
    have h2 := depthAll h xs
    omega
/-- data of a depth of at most n, without texts -/
structure Okd (n : Nat) (d : PyData) : Prop where
  can : d.canLay0 = true
  dep : d.depth ≤ n
theorem Okd.sh {d : PyData} (h : Okd 9 d) : SeqAt.shaped d = true := by
  unfold SeqAt.shaped; rw [h.can, decide_eq_true (by have := h.dep; omega)]; rfl
theorem Okd.cn {d : PyData} (h : Okd 9 d) : d.canLay0 = true := h.can
section
variable {n : Nat}
theorem okd_ints (xs : List Int) : Okd (n + 1) (dI xs) := ⟨canAll (fun _ => rfl) xs, Nat.succ_le_succ (Nat.le_trans (depthAll (n := 0) (fun _ => Nat.le_refl _) xs) (Nat.zero_le _))⟩
theorem okd_bls (xs : List Bool) : Okd (n + 1) (dB xs) := ⟨canAll (fun _ => rfl) xs, Nat.succ_le_succ (Nat.le_trans (depthAll (n := 0) (fun _ => Nat.le_refl _) xs) (Nat.zero_le _))⟩
theorem okd_int {i : Int} : Okd n (.int i) := ⟨rfl, Nat.zero_le _⟩
theorem okd_bl {b : Bool} : Okd n (.bool b) := ⟨rfl, Nat.zero_le _⟩
theorem okd_non : Okd n .none := ⟨rfl, Nat.zero_le _⟩
theorem okl_nil : Okd (n + 1) (.list []) := ⟨rfl, Nat.succ_le_succ (Nat.zero_le _)⟩
theorem okl_cons {d : PyData} {ds : List PyData} (h : Okd n d) (h' : Okd (n + 1) (.list ds)) : Okd (n + 1) (.list (d :: ds)) := by
  obtain ⟨c, p⟩ := h; obtain ⟨c', p'⟩ := h'
  have e1 : PyData.canLayAll0 ds = true := c'
  have e2 : PyData.depthAll ds + 1 ≤ n + 1 := p'
  refine ⟨?_, ?_⟩
  · show (d.canLay0 && PyData.canLayAll0 ds) = true
    rw [c, e1]; rfl
  · show max d.depth (PyData.depthAll ds) + 1 ≤ n + 1
    omega
theorem okt_nil : Okd (n + 1) (.tuple []) := ⟨rfl, Nat.succ_le_succ (Nat.zero_le _)⟩
theorem okt_cons {d : PyData} {ds : List PyData} (h : Okd n d) (h' : Okd (n + 1) (.tuple ds)) : Okd (n + 1) (.tuple (d :: ds)) := by
  have q := okl_cons h (show Okd (n + 1) (.list ds) from ⟨h'.can, h'.dep⟩)
  exact ⟨q.can, q.dep⟩
end
section
variable {X : Cx}
/-- == of deep data, the answer told -/
def rEqX (K : PySem.W.Frag) : R2 := fun x y H Q => ∃ (d e : PyData) (b : Bool), Dp K H x d ∧ Dp K H y e ∧ SeqAt.shaped d = true ∧ SeqAt.shaped e = true ∧ PyData.eqv d e = b ∧ Q (.bl b) H
def rNeX (K : PySem.W.Frag) : R2 := fun x y H Q => ∃ (d e : PyData) (b : Bool), Dp K H x d ∧ Dp K H y e ∧ SeqAt.shaped d = true ∧ SeqAt.shaped e = true ∧ PyData.eqv d e = b ∧ Q (.bl (!b)) H
theorem op_eqX (hu : X.A.units + 64 < cLine) : OpR X (compareOp .Eq) (rEqX X.K) := by
  intro pins s σ H x y v u Q I rx ry h
  obtain ⟨d, e, b, h1, h2, h3, h4, rfl, q⟩ := h
  exact op_eqD hu pins s σ H x y v u Q I rx ry ⟨d, e, h1, h2, h3, h4, q⟩
theorem op_neX (hu : X.A.units + 64 < cLine) : OpR X (compareOp .NotEq) (rNeX X.K) := by
  intro pins s σ H x y v u Q I rx ry h
  obtain ⟨d, e, b, h1, h2, h3, h4, rfl, q⟩ := h
  exact op_neD hu pins s σ H x y v u Q I rx ry ⟨d, e, h1, h2, h3, h4, q⟩
end
/-- range(0, m, c), c from 1 on -/
theorem rgc_up {m c : Int} {n : Nat} (h0 : -(2 ^ 40) ≤ m) (h1 : m < 2 ^ 40) (hc : 0 < c) (hc' : c < 100000000) (hn : (n : Int) = if 0 < m then (m - 1) / c + 1 else 0) : RgC 0 m c n := by
  have hs : Builtin.Range.rangeSize 0 m c = n := by
    unfold Builtin.Range.rangeSize
    rw [if_pos (by omega), hn, Int.sub_zero]
  refine ⟨by omega, by omega, ?_, hs⟩
  have e2 : 0 < m → 0 ≤ (m - 1) / c := fun h => Int.ediv_nonneg (by omega) (by omega)
  have e3 : 0 < m → (m - 1) / c ≤ m - 1 := fun h => Int.ediv_le_self _ (by omega)
  unfold Builtin.Range.small
  rw [hs, hn]
  generalize (m - 1) / c = q at *
  simp only [Builtin.Range.rangeFitsLong, Bool.and_eq_true, Bool.or_eq_true, decide_eq_true_eq, beq_iff_eq]
  split
  · rename_i hm
    have := e2 hm
    have := e3 hm
    refine ⟨by omega, .inr ?_⟩
    rw [Bool.and_eq_true, decide_eq_true_eq, decide_eq_true_eq]
    omega
  · refine ⟨by omega, .inl rfl⟩
/-- .. with a step of two -/
theorem rgc2 {m : Int} (h0 : 0 ≤ m) (h1 : m < 2 ^ 40) : RgC 0 m 2 (Int.toNat ((m + 1) / 2)) := by
  refine rgc_up (by omega) h1 (by decide) (by decide) ?_
  split <;> omega
theorem rgc3 {m : Int} (h0 : 0 ≤ m) (h1 : m < 2 ^ 40) : RgC 0 m 3 (Int.toNat ((m + 2) / 3)) := by
  refine rgc_up (by omega) h1 (by decide) (by decide) ?_
  split <;> omega
theorem rgc4 {m : Int} (h0 : 0 ≤ m) (h1 : m < 2 ^ 40) : RgC 0 m 4 (Int.toNat ((m + 3) / 4)) := by
  refine rgc_up (by omega) h1 (by decide) (by decide) ?_
  split <;> omega
theorem rgc5 {m : Int} (h0 : 0 ≤ m) (h1 : m < 2 ^ 40) : RgC 0 m 5 (Int.toNat ((m + 4) / 5)) := by
  refine rgc_up (by omega) h1 (by decide) (by decide) ?_
  split <;> omega
theorem eqvAll_map {α : Type} [DecidableEq α] {g : α → PyData} (h : ∀ x y, PyData.eqv (g x) (g y) = decide (x = y)) : ∀ xs ys : List α, PyData.eqvAll (xs.map g) (ys.map g) = decide (xs = ys)
  | [], [] => rfl
  | [], _ :: _ => rfl
  | _ :: _, [] => rfl
  | x :: xs, y :: ys => by
    show (PyData.eqv (g x) (g y) && PyData.eqvAll (xs.map g) (ys.map g)) = _
    rw [h, eqvAll_map h xs ys]
    by_cases e : x = y
    · subst e
      by_cases e' : xs = ys
      · subst e'; simp
      · simp [e']
    · simp [e]
theorem eqv_ints (xs ys : List Int) : PyData.eqv (dI xs) (dI ys) = decide (xs = ys) :=
  eqvAll_map (fun x y => by show (x == y) = _; exact Bool.beq_eq_decide_eq x y) xs ys
theorem eqv_bls (xs ys : List Bool) : PyData.eqv (dB xs) (dB ys) = decide (xs = ys) :=
  eqvAll_map (fun x y => by show (x == y) = _; cases x <;> cases y <;> rfl) xs ys

/-! list.index of an int that is there -/
theorem flat_ints : ∀ xs : List Int, (xs.map V.int).all flatV = true
  | [] => rfl
  | _ :: xs => flat_ints xs
theorem ix_get {xs : List Int} {y : Int} (h : y ∈ xs) : (xs.map V.int)[xs.idxOf y]? = some (V.int y) := by
  rw [List.getElem?_map, List.getElem?_eq_getElem (List.idxOf_lt_length_of_mem h), List.getElem_idxOf]; rfl
theorem ix_eqv {y : Int} : eqV (V.int y) (V.int y) = true := by show (y == y) = true; exact beq_self_eq_true y
theorem ix_first (xs : List Int) (y : Int) : ∀ (m : Nat) (z : V), m < xs.idxOf y → (xs.map V.int)[m]? = some z → eqV z (V.int y) = false := fun m z hm e => by
  rw [List.getElem?_map] at e
  cases h : xs[m]? with
  | none => rw [h] at e; cases e
  | some w =>
    rw [h] at e; cases (Option.some.inj e)
    show (w == y) = false
    have hl := (List.getElem?_eq_some_iff.mp h)
    obtain ⟨hl, rfl⟩ := hl
    have := List.not_of_lt_findIdx (p := (· == y)) (xs := xs) (i := m) hm
    simpa using this

/-! isinstance of any scalar -/
def is_int : V → Bool
  | .int _ => true
  | .bl _ => true
  | _ => false
def is_bool : V → Bool
  | .bl _ => true
  | _ => false
/-- the scalars -/
def sca : V → Bool
  | .non => true
  | .bl _ => true
  | .int _ => true
  | .str z => PyData.strOk z
  | _ => false
def tyName : V → String
  | .non => "NoneType"
  | .bl _ => "bool"
  | .int _ => "int"
  | _ => "str"
theorem tyx_val {K : PySem.W.Frag} {H : Hp} {x : V} (h : sca x = true) : TyX K H x (.type (tyName x)) := by
  cases x with
  | non => exact .base .non
  | bl b => exact .base (.bl b)
  | int i => exact .base (.int i)
  | str z => exact .base (.str z)
  | byt _ => cases h
  | flt _ => cases h
  | ref _ => cases h
  | ty _ => cases h
theorem kit_int {K : PySem.W.Frag} {x : V} (h : sca x = true) : PySem.W.kitOne K (.type (tyName x)) (.type "int") = some (is_int x) := by
  cases x with
  | non => exact kit_ty (show kitB "NoneType" "int" = some false by decide +kernel)
  | bl b => exact kit_ty (show kitB "bool" "int" = some true by decide +kernel)
  | int i => exact kit_ty (show kitB "int" "int" = some true by decide +kernel)
  | str z => exact kit_ty (show kitB "str" "int" = some false by decide +kernel)
  | byt _ => cases h
  | flt _ => cases h
  | ref _ => cases h
  | ty _ => cases h
theorem kit_bool {K : PySem.W.Frag} {x : V} (h : sca x = true) : PySem.W.kitOne K (.type (tyName x)) (.type "bool") = some (is_bool x) := by
  cases x with
  | non => exact kit_ty (show kitB "NoneType" "bool" = some false by decide +kernel)
  | bl b => exact kit_ty (show kitB "bool" "bool" = some true by decide +kernel)
  | int i => exact kit_ty (show kitB "int" "bool" = some false by decide +kernel)
  | str z => exact kit_ty (show kitB "str" "bool" = some false by decide +kernel)
  | byt _ => cases h
  | flt _ => cases h
  | ref _ => cases h
  | ty _ => cases h
/-! lists of scalars -/
def toD : V → PyData
  | .bl b => .bool b
  | .int i => .int i
  | .str z => .str z
  | _ => .none
def dV (xs : List V) : PyData := .list (xs.map toD)
def Sca (xs : List V) : Prop := ∀ v ∈ xs, sca v = true
theorem Sca.nil : Sca [] := fun _ h => nomatch h
theorem Sca.cons {x : V} {xs : List V} (h : sca x = true) (hs : Sca xs) : Sca (x :: xs) := fun v hv => by
  rcases List.mem_cons.mp hv with rfl | hv
  · exact h
  · exact hs v hv
theorem Sca.app {xs ys : List V} (h : Sca xs) (h' : Sca ys) : Sca (xs ++ ys) := fun v hv => by
  rcases List.mem_append.mp hv with hv | hv
  · exact h v hv
  · exact h' v hv
theorem Sca.ints (xs : List Int) : Sca (xs.map V.int) := fun v hv => by
  obtain ⟨x, _, rfl⟩ := List.mem_map.mp hv; rfl
theorem Sca.bls (xs : List Bool) : Sca (xs.map V.bl) := fun v hv => by
  obtain ⟨x, _, rfl⟩ := List.mem_map.mp hv; rfl
theorem Sca.getD {xs : List V} (h : Sca xs) {i : Nat} {d : V} (hi : i < xs.length) : sca (xs.getD i d) = true := h _ (getD_mem hi)
theorem dp_val {K : PySem.W.Frag} {H : Hp} {v : V} (h : sca v = true) : Dp K H v (toD v) := by
  cases v with
  | non => exact .non
  | bl b => exact .bl b
  | int i => exact .int i
  | str z => exact .str z
  | byt _ => cases h
  | flt _ => cases h
  | ref _ => cases h
  | ty _ => cases h
theorem dp_valAll {K : PySem.W.Frag} {H : Hp} : ∀ {xs : List V}, Sca xs → DpAll K H xs (xs.map toD)
  | [], _ => .nil
  | x :: xs, h => .cons (dp_val (h x List.mem_cons_self)) (dp_valAll fun v hv => h v (List.mem_cons_of_mem _ hv))
theorem dp_vals {K : PySem.W.Frag} {H : Hp} {a : Addr} {xs : List V} (h : H a = some (.lst xs)) (hs : Sca xs) : Dp K H (.ref a) (dV xs) := .lst (SqL.of h) (dp_valAll hs)
theorem can_val {v : V} (h : sca v = true) : (toD v).canLay0 = true := by
  cases v with
  | str z => exact h
  | _ => rfl
theorem okd_val {n : Nat} {v : V} (h : sca v = true) : Okd n (toD v) := ⟨can_val h, by cases v <;> exact Nat.zero_le _⟩
theorem okd_vals {n : Nat} {xs : List V} (hs : Sca xs) : Okd (n + 1) (dV xs) := by
  refine ⟨?_, ?_⟩
  · show PyData.canLayAll0 (xs.map toD) = true
    induction xs with
    | nil => rfl
    | cons x xs ih =>
      show ((toD x).canLay0 && PyData.canLayAll0 (xs.map toD)) = true
      rw [can_val (hs x List.mem_cons_self), ih fun v hv => hs v (List.mem_cons_of_mem _ hv)]; rfl
  · exact Nat.succ_le_succ (Nat.le_trans (depthAll (n := 0) (fun v => by cases v <;> exact Nat.zero_le _) xs) (Nat.zero_le _))
end Rc
namespace Rc
open PySem PySem.Spec PyProof.Rows L2 RT
section
variable {prog : Program} {w : World} {A : Around} {E : Value → Shared → Prop} {s : Shared}
abbrev nilO (c : Nat) : Obj := { cls := .type "list", data := .seq #[] c }
/-- list.extend with a list's reversed iterator, into a new list at S -/
theorem rev_extend {it l S : Addr} {items : Array Value} {R : Result → Shared → Prop} {res : Value} {c0 : Nat} (hh : A.handled = none) (hit : s.heap.IsRevIter it l ((items.size : Int) - 1)) (hl : s.heap.IsList l items) (hne : l ≠ it)
    (hSi : S ≠ it) (hSl : S ≠ l) (hS : s.heap.get? S = some (nilO c0)) (hn : items.size ≤ sizeLine)
    (hR : ∀ h' tk acc c', (∀ b o, b ≠ S → b ≠ it → s.heap.get? b = some o → h'.get? b = some o) → h'.get? S = some { cls := .type "list", dict := none, data := .seq acc c', slots := #[] } →
      ItemsOf (fun i v => items[items.size - 1 - i]? = some v) acc items.size → R (.ok (.ret res)) { s with heap := h', toks := tk }) :
    wpAny (model prog w) A.in1 (Builtin.List.listExtendWith (.ref S) (.ref it) res)
      (fun fin z => match fin with | .done f => R (.ok f) z | .again c => c.quiet = true ∧ codeAny (model prog w) A c R z) (fun e z => R (.error e) z) s := by
  have W := (Walks.listRev (prog := prog) (w := w) (A := A.in1) hh it l hne items).toS
  have hf : S ∉ [it, l] := fun z => by
    rcases List.mem_cons.mp z with z | z
    · exact hSi z
    · exact hSl (List.mem_singleton.mp z)
  have ty : s.TypeIs (.ref it) "list_reverseiterator" := hit.typeIs
  have h1 : Builtin.List.listSameRef (.ref S) (.ref it) = false := by simp [Builtin.List.listSameRef, hSi]
  have h2 : (Value.type "list_reverseiterator" == Value.type "list") = false := by decide
  have h3 : (Value.type "list_reverseiterator" == Value.type "tuple") = false := by decide
  unfold Builtin.List.listExtendWith
  refine wpAny_bind (wpAny_typeOf ty ?_)
  simp only [h1, h2, h3, Bool.or_false, Bool.false_eq_true, if_false]
  refine wpAny_bind (wpAny_pyIter_revIter hit ?_)
  refine wpAny_bind (wpAny_holding ?_); unfold Builtin.List.listLengthHint
  refine wpAny_bind (wpAny_specialOf ty nolen_lri ?_)
  show wpAny _ A.in1 (specialOf (Value.ref it) (Str.ofString "__length_hint__") >>= _) _ _ _
  refine wpAny_bind (wpAny_specialOf ty hint_lri ?_)
  generalize hid : ("list_reverseiterator.__length_hint__" : String) = id0
  wp_delta
  rw [show splitId id0 = some ("list_reverseiterator", "__length_hint__") from by subst hid; decide +kernel]
  subst hid
  refine wpAny_bind (wpAny_isInstance (b := true) ty (by rw [isSubtype_type]; kernel_rfl) ?_)
  refine wpAny_pure ?_; rw [if_neg (by decide)]
  have e0 : ((items.size : Nat) : Int) - 1 - ((0 : Nat) : Int) = (items.size : Int) - 1 := by omega
  refine wpAny_pure ⟨plainId_quiet F.plain_extend_loop _, codeAny_extend_loopS W hn _ hf _ items.size 0 _ _ _ rfl (Nat.zero_le _) ⟨Nat.zero_le _, by rw [e0]; exact hit, hl⟩ hS (ItemsOf.nil _) fun z acc c' hm hz hacc => ?_⟩
  rw [Moved.eq_with hm]
  refine hR z.heap z.toks acc c' (fun b o h1 h2 e => hm.heap b o (fun hmem => ?_) e) hz hacc
  rcases List.mem_cons.mp hmem with q | q
  · exact h1 q
  · exact h2 (List.mem_singleton.mp q)
theorem call_list_rev {it l : Addr} {items : Array Value} {Q : Value → Shared → Prop} (hh : A.handled = none) (hit : s.heap.IsRevIter it l ((items.size : Int) - 1)) (hl : s.heap.IsList l items) (hne : l ≠ it) (hn : items.size ≤ sizeLine)
    (hQ : ∀ h' tk acc c', (∀ b o, b ≠ it → s.heap.get? b = some o → h'.get? b = some o) → h'.get? s.heap.objs.size = some { cls := .type "list", dict := none, data := .seq acc c', slots := #[] } →
      ItemsOf (fun i v => items[items.size - 1 - i]? = some v) acc items.size → Q (.ref s.heap.objs.size) { s with heap := h', toks := tk }) :
    wpAny (model prog w) A (call (.type "list") [.ref it]) Q E s := by
  refine callType_codes (Q₁ := fun obj z => obj = .ref s.heap.objs.size ∧ z = { s with heap := s.heap.push (nilO 0) }) F.called_list (F.typeCall_list_1 _) F.entry_list_init
    (code_list_new _ ⟨rfl, rfl⟩) fun obj z hz => ?_
  obtain ⟨rfl, rfl⟩ := hz
  obtain ⟨oi, hoi, _⟩ := id hit
  obtain ⟨ol, hol, _⟩ := id hl
  have hS : (s.heap.push (nilO 0)).get? s.heap.objs.size = some (nilO 0) := Heap.get?_push_size _ rfl
  have ni : s.heap.objs.size ≠ it := Nat.ne_of_gt (Heap.lt_size hoi)
  have nl : s.heap.objs.size ≠ l := Nat.ne_of_gt (Heap.lt_size hol)
  refine ⟨⟨_, hS, rfl⟩, F.args_list_init_2 _ _, ?_⟩
  show wpAny _ A.in1.in1 (do let old ← Builtin.List.listItems (.ref s.heap.objs.size); Builtin.List.listUpdate (.ref s.heap.objs.size) (fun _ => #[]); letGo old.toList.reverse; Builtin.List.listExtendWith (.ref s.heap.objs.size) (.ref it) .none) _ _ _
  refine wpAny_bind ?_; unfold Builtin.List.listItems
  refine wpAny_bind (wpAny_seqItems hS rfl (wpAny_pure ?_))
  show wpAny _ _ (updateSeq s.heap.objs.size (fun _ => #[]) >>= fun _ => letGo (#[] : Array Value).toList.reverse >>= fun _ => Builtin.List.listExtendWith (.ref s.heap.objs.size) (.ref it) .none) _ _ _
  refine wpAny_bind (wpAny_updateSeq hS rfl ?_)
  have hS2 := Heap.get?_update_self (Obj.mapSeq (fun _ => (#[] : Array Value))) hS rfl
  have oth : ∀ b o, b ≠ s.heap.objs.size → s.heap.get? b = some o → ((s.heap.push (nilO 0)).update s.heap.objs.size (Obj.mapSeq (fun _ => (#[] : Array Value)))).get? b = some o :=
    fun b o hb e => (Heap.get?_update_other _ _ (Ne.symm hb)).trans (Heap.get?_push_of_some _ e)
  refine wpAny_bind (wpAny_letGo ?_)
  refine rev_extend (A := A.in1) (s := { s with heap := _ }) hh (hit.at fun o e => oth _ _ ni.symm e) (hl.at fun o e => oth _ _ nl.symm e) hne ni nl hS2 hn fun h' tk acc c' hk hz hacc => ⟨rfl, ?_⟩
  exact hQ h' tk acc c' (fun b o hb e => hk b o (Nat.ne_of_lt (Heap.lt_size e)) hb (oth b o (Nat.ne_of_lt (Heap.lt_size e)) e)) hz hacc
end
section
variable {X : Cx}
/-- list(reversed(x)), x a list: a new list -/
def tListRev (K : PySem.W.Frag) (te : TE) : TE := fun σ H Q => te σ H fun v H1 => ∃ (a : Addr) (xs : List V), v = .ref a ∧ SqL K H1 a xs ∧ ∀ q, H1 q = none → Q (.ref q) (upd H1 q (.lst xs.reverse))
theorem pe_listRev {e : Expr} {te : TE} {p p2 pos pos2 : Pos} (hc : X.calm = true) (hg : Gl X "list") (hm : X.mg "list" = none) (hg2 : Gl X "reversed") (hm2 : X.mg "reversed" = none) (he : PE X e te)
    (hs : starEach [e] X.env = (false, eval e X.env) :: starEach [] X.env := by rfl)
    (hs2 : starEach [.Call (.Name "reversed" p2) [e] [] pos2] X.env = (false, eval (.Call (.Name "reversed" p2) [e] [] pos2) X.env) :: starEach [] X.env := by rfl) :
    PE X (.Call (.Name "list" p) [.Call (.Name "reversed" p2) [e] [] pos2] [] pos) (tListRev X.K te) := by
  refine ⟨fun pins s σ H Q I h => Call_ (ld_blt I hg hm (show bootBuiltins ("list" : Str) = some (.type "list") by decide +kernel) (PyProof.Rows.callWith_type1 (args_cons (Call_ (ld_blt I hg2 hm2 PyProof.Rows.boot_reversed (PyProof.Rows.callWith_type1 (args_cons (thn (he.run pins s σ H _ I h) fun u s1 ⟨v, H1, I1, r1, q1⟩ => args_nil ?_) hs) hs rfl))) hs2) hs2 rfl))⟩
  obtain ⟨a, xs, ev, hq, q⟩ := q1
  subst ev; obtain rfl : u = Value.ref a := r1
  obtain ⟨its, rv, pl, hz⟩ := I1.list hq
  refine call_reversed_list pl.isList (args_nil ?_)
  have k0 : ∀ b o, s1.heap.get? b = some o → (s1.heap.push (revObj a ((its.toArray.size : Int) - 1))).get? b = some o := fun b o z => Heap.get?_push_of_some _ z
  have I2 : Inv X pins σ H1 { s1 with heap := s1.heap.push (revObj a ((its.toArray.size : Int) - 1)) } := I1.kept (t' := s1.toks) k0
  have hl := pl.isList
  obtain ⟨ol, hol, _⟩ := id hl
  have hne : a ≠ s1.heap.objs.size := Nat.ne_of_lt (Heap.lt_size hol)
  have hn : its.toArray.size ≤ sizeLine := by rw [List.size_toArray, ← rv.length]; exact hz
  have hf := I1.hok.fresh (Nat.le_refl s1.heap.objs.size)
  refine call_list_rev (s := { s1 with heap := s1.heap.push (revObj a ((its.toArray.size : Int) - 1)) }) (I1.ok.hd hc) ⟨_, Heap.get?_push_size _ rfl, rfl, rfl⟩ (hl.push _) hne hn fun h' tk acc c' hk hS hi => ?_
  have hsz : s1.heap.objs.size ≤ (s1.heap.push (revObj a ((its.toArray.size : Int) - 1))).objs.size := by rw [Heap.size_push]; omega
  have kk : ∀ b o, s1.heap.get? b = some o → h'.get? b = some o := fun b o z => hk b o (Nat.ne_of_lt (Heap.lt_size z)) (k0 b o z)
  refine ⟨.ref (s1.heap.push (revObj a ((its.toArray.size : Int) - 1))).objs.size, upd H1 (s1.heap.push (revObj a ((its.toArray.size : Int) - 1))).objs.size (.lst xs.reverse),
    I1.laid kk hsz (show ObjOk X.prog X.w _ _ _ (.lst xs.reverse) from ⟨by rw [List.length_reverse]; exact hz, acc.toList, c', vals_rev rv hi, ?_⟩), rfl, q _ (I1.hok.fresh hsz)⟩
  rw [Array.toArray_toList]
  exact hS
end
end Rc
namespace Rc
open PySem PySem.Spec PyProof.Rows L2

/-! rows: the lists of a list of lists, at the end of what is own -/
abbrev RI := Addr × List Int
def rowHO (r : RI) : Addr × HO := (r.1, .lst (r.2.map V.int))
def rowsOwn (rows : List RI) : List (Addr × HO) := rows.map rowHO
def rowRef (r : RI) : V := V.ref r.1
section
variable {H0 H H' : Hp} {own pre : List (Addr × HO)} {p : Addr} {o : HO} {rows : List RI}
theorem Fr.rowmem (f : Fr H0 H (pre ++ rowsOwn rows)) {r : RI} (h : r ∈ rows) : H r.1 = some (.lst (r.2.map V.int)) :=
  f.mem (List.mem_append_right _ (List.mem_map.mpr ⟨r, h, rfl⟩))
theorem Fr.rowat (f : Fr H0 H (pre ++ rowsOwn rows)) {i : Nat} (d : RI) (h : i < rows.length) : H (rows.getD i d).1 = some (.lst ((rows.getD i d).2.map V.int)) :=
  f.rowmem (getD_mem h)
/-- the front list becomes a row -/
theorem Fr.rowin {x : List Int} (f : Fr H0 H ((p, .lst (x.map V.int)) :: (pre ++ rowsOwn rows))) : Fr H0 H (pre ++ rowsOwn (rows ++ [(p, x)])) := by
  refine f.perm ?_
  have e : pre ++ rowsOwn (rows ++ [(p, x)]) = (pre ++ rowsOwn rows) ++ [(p, HO.lst (x.map V.int))] := by
    unfold rowsOwn; rw [List.map_append, List.append_assoc]; rfl
  rw [e]
  exact (List.perm_append_singleton _ _).symm
theorem set_sub {α : Type} : ∀ {l : List α} {i : Nat} {z : α}, i < l.length → ∃ l', (l.set i z).Perm (z :: l') ∧ l'.Sublist l
  | [], _, _, h => by simp at h
  | x :: l, 0, z, _ => ⟨l, List.Perm.refl _, List.sublist_cons_self _ _⟩
  | x :: l, i + 1, z, h => by
    obtain ⟨l', h1, h2⟩ := set_sub (l := l) (i := i) (z := z) (by simpa using h)
    exact ⟨x :: l', (h1.cons x).trans (List.Perm.swap _ _ _), h2.cons_cons x⟩
/-- the front list becomes the i-th row -/
theorem Fr.rowset {x : List Int} {i : Nat} (f : Fr H0 H ((p, .lst (x.map V.int)) :: (pre ++ rowsOwn rows))) (h : i < rows.length) : Fr H0 H (pre ++ rowsOwn (rows.set i (p, x))) := by
  obtain ⟨l', h1, h2⟩ := set_sub (z := ((p, x) : RI)) h
  have e1 : (rowsOwn (rows.set i (p, x))).Perm (rowHO (p, x) :: rowsOwn l') := h1.map rowHO
  have g : Fr H0 H ((p, .lst (x.map V.int)) :: (pre ++ rowsOwn l')) := f.sub (List.Sublist.cons_cons _ (List.Sublist.append (List.Sublist.refl _) (h2.map _)))
  refine g.perm ?_
  have e2 : ((p, HO.lst (x.map V.int)) :: (pre ++ rowsOwn l')).Perm (pre ++ ((p, HO.lst (x.map V.int)) :: rowsOwn l')) := List.perm_middle.symm
  exact e2.trans (List.Perm.append_left _ e1.symm)
theorem nodup_split {α β : Type} {f : α → β} {l : List α} {i : Nat} (hn : (l.map f).Nodup) (h : i < l.length) {j : Nat} (hj : j < l.length) (hne : j ≠ i) : f l[j] ≠ f l[i] := by
  intro e
  have h1 : (l.map f)[j]'(by simpa using hj) = (l.map f)[i]'(by simpa using h) := by simpa using e
  exact hne ((List.getElem_inj (h₀ := by simpa using hj) (h₁ := by simpa using h) hn).mp h1)
/-- a row is written -/
theorem Fr.rowwr {i : Nat} {y : List Int} (f : Fr H0 H (pre ++ rowsOwn rows)) (h : i < rows.length) : Fr H0 (upd H rows[i].1 (.lst (y.map V.int))) (pre ++ rowsOwn (rows.set i (rows[i].1, y))) := by
  obtain ⟨l', h1, h2⟩ := set_sub (z := ((rows[i].1, y) : RI)) h
  obtain ⟨l2, h3, h4⟩ := set_sub (z := rows[i]) h
  rw [List.set_getElem_self] at h3
  have hlen : l'.Perm l2 := by
    have a1 : (rows.set i (rows[i].1, y)).Perm ((rows[i].1, y) :: rows.eraseIdx i) := set_er h
    have a2 : rows.Perm (rows[i] :: rows.eraseIdx i) := by
      have := set_er (l := rows) (z := rows[i]) h
      rwa [List.set_getElem_self] at this
    exact ((List.perm_cons _).mp (h1.symm.trans a1)).trans ((List.perm_cons _).mp (h3.symm.trans a2)).symm
  have e0 : (pre ++ rowsOwn rows).Perm (rowHO rows[i] :: (pre ++ rowsOwn l')) :=
    (List.Perm.append_left _ ((h3.trans (hlen.symm.cons _)).map rowHO)).trans List.perm_middle
  have g := (f.perm e0 : Fr H0 H ((rows[i].1, .lst (rows[i].2.map V.int)) :: (pre ++ rowsOwn l')))
  refine (Fr.wr (o' := .lst (y.map V.int)) g).perm ?_
  have e1 : (rowsOwn (rows.set i (rows[i].1, y))).Perm (rowHO (rows[i].1, y) :: rowsOwn l') := h1.map rowHO
  exact List.perm_middle.symm.trans (List.Perm.append_left _ e1.symm)
where
  set_er {α : Type} : ∀ {l : List α} {i : Nat} {z : α}, i < l.length → (l.set i z).Perm (z :: l.eraseIdx i)
  | [], _, _, h => by simp at h
  | x :: l, 0, z, _ => List.Perm.refl _
  | x :: l, i + 1, z, h => by
    have := set_er (l := l) (i := i) (z := z) (by simpa using h)
    exact (this.cons x).trans (List.Perm.swap _ _ _)
theorem Fr.rowsrev (f : Fr H0 H (pre ++ rowsOwn rows)) : Fr H0 H (pre ++ rowsOwn rows.reverse) := by
  refine f.perm (List.Perm.append_left _ ?_)
  unfold rowsOwn; rw [List.map_reverse]
  exact (List.reverse_perm _).symm
theorem atLastD {α : Type} {f : α → V} {xs : List α} (d : α) (h : 0 < xs.length) : atI (xs.map f) (-1) = some (f (xs.getD (xs.length - 1) d)) := by
  have e : xs.getLastD d = xs.getD (xs.length - 1) d := by
    rw [List.getLastD_eq_getLast?, List.getLast?_eq_getElem?, List.getD_eq_getElem?_getD]
  rw [← e]; exact atLast d h
theorem Fr.rowwrD {i : Nat} {y : List Int} {o' : HO} (d : RI) (f : Fr H0 H (pre ++ rowsOwn rows)) (h : i < rows.length) (eo : o' = .lst (y.map V.int)) : Fr H0 (upd H (rows.getD i d).1 o') (pre ++ rowsOwn (rows.set i ((rows.getD i d).1, y))) := by
  subst eo
  have e : rows.getD i d = rows[i] := by rw [List.getD_eq_getElem?_getD, List.getElem?_eq_getElem h]; rfl
  rw [e]; exact f.rowwr h
theorem rowRef_set (rows : List RI) (i : Nat) (d : RI) (y : List Int) : List.map rowRef rows = List.map rowRef (rows.set i ((rows.getD i d).1, y)) := by
  apply List.ext_getElem?
  intro j
  by_cases hj : i = j
  · subst hj
    by_cases hl : i < rows.length
    · simp [hl, rowRef, List.getD_eq_getElem?_getD]
    · simp [hl]
  · simp [hj]
/-- a new list of new lists, from a call -/
theorem Fr.crows (f : Fr H0 H own) (s : Same H H') (h : H p = none) (e : H' p = some o) (hr : ∀ z ∈ rows, H z.1 = none ∧ H' z.1 = some (.lst (z.2.map V.int))) (hn : (p :: rows.map (·.1)).Nodup) :
    Fr H0 H' ((p, o) :: (own ++ rowsOwn rows)) := by
  have g := f.cnew s h e
  refine ⟨g.same, fun z hz => ?_, ?_⟩
  · rcases List.mem_cons.mp hz with rfl | hz
    · exact g.frs _ List.mem_cons_self
    · rcases List.mem_append.mp hz with hz | hz
      · exact g.frs z (List.mem_cons_of_mem _ hz)
      · obtain ⟨r, hr', rfl⟩ := List.mem_map.mp hz
        exact ⟨f.fresh (hr r hr').1, (hr r hr').2⟩
  · rw [List.map_cons, List.map_append]
    have e1 : (rowsOwn rows).map (·.1) = rows.map (·.1) := by unfold rowsOwn; rw [List.map_map]; rfl
    rw [e1]
    have hn' := List.nodup_cons.mp hn
    have gn := List.nodup_cons.mp g.nd
    refine List.nodup_cons.mpr ⟨fun hm => ?_, List.nodup_append.mpr ⟨gn.2, hn'.2, fun a ha b hb hab => ?_⟩⟩
    · rcases List.mem_append.mp hm with hm | hm
      · exact gn.1 hm
      · exact hn'.1 hm
    · subst hab
      obtain ⟨z, hz, rfl⟩ := List.mem_map.mp ha
      obtain ⟨r, hr', e2⟩ := List.mem_map.mp hb
      have := (hr r hr').1
      rw [e2, (f.frs z hz).2] at this
      cases this
/-- what is handed back: outer list and rows -/
theorem Fr.rowsback (f : Fr H0 H ((p, o) :: rowsOwn rows)) : (∀ z ∈ rows, H0 z.1 = none ∧ H z.1 = some (.lst (z.2.map V.int))) ∧ (p :: rows.map (·.1)).Nodup := by
  refine ⟨fun z hz => f.frs (rowHO z) (List.mem_cons_of_mem _ (List.mem_map.mpr ⟨z, hz, rfl⟩)), ?_⟩
  have := f.nd
  rw [List.map_cons] at this
  have e1 : (rowsOwn rows).map (·.1) = rows.map (·.1) := by unfold rowsOwn; rw [List.map_map]; rfl
  rwa [e1] at this
end
/-- rows from outside -/
def Rows (H : Hp) (rows : List RI) : Prop := ∀ r ∈ rows, H r.1 = some (.lst (r.2.map V.int))
theorem Rows.same {H H' : Hp} {rows : List RI} (h : Rows H rows) (s : Same H H') : Rows H' rows := fun r hr => s _ _ (h r hr)
theorem Rows.at {H : Hp} {rows : List RI} (h : Rows H rows) {i : Nat} (d : RI) (hi : i < rows.length) : H (rows.getD i d).1 = some (.lst ((rows.getD i d).2.map V.int)) := h _ (getD_mem hi)
theorem rows_nil {H : Hp} : Rows H [] := fun _ h => nomatch h
theorem rows_cons {H : Hp} {a : Addr} {x : List Int} {rows : List RI} (h : H a = some (.lst (x.map V.int))) (hr : Rows H rows) : Rows H ((a, x) :: rows) := fun r h' => by
  rcases List.mem_cons.mp h' with rfl | h'
  · exact h
  · exact hr r h'

/-! whole numbers among scalars -/
def wholeV (v : V) : Bool := is_int v && !is_bool v
theorem wholeV_int {v : V} (h : wholeV v = true) : ∃ z, v = V.int z := by
  cases v with
  | int z => exact ⟨z, rfl⟩
  | bl b => cases h
  | _ => cases h
theorem wholeV_of (z : Int) : wholeV (V.int z) = true := rfl
/-- a part of a word for m heaps -/
def wordPart (m : Nat) : V → Bool
  | .int x => decide (0 ≤ x) && decide (x < (m : Int))
  | _ => false
theorem wordPart_no {m : Nat} {v : V} (h : wholeV v = false) : wordPart m v = false := by
  cases v with
  | int z => cases h
  | _ => rfl
theorem wp_no {m : Nat} {v : V} (h : wholeV v = false) : V.bl false = V.bl (wordPart m v) := by rw [wordPart_no h]
theorem wp_f1 {m : Nat} {z : Int} (h : ¬ 0 ≤ z) : V.bl false = V.bl (wordPart m (V.int z)) := by show V.bl false = V.bl (decide (0 ≤ z) && decide (z < (m : Int))); rw [decide_eq_false h]; rfl
theorem wp_f2 {m : Nat} {z : Int} (h : ¬ z < (m : Int)) : V.bl false = V.bl (wordPart m (V.int z)) := by show V.bl false = V.bl (decide (0 ≤ z) && decide (z < (m : Int))); rw [decide_eq_false h, Bool.and_false]
theorem wp_t {m : Nat} {z : Int} (h : 0 ≤ z) (h' : z < (m : Int)) : V.bl true = V.bl (wordPart m (V.int z)) := by show V.bl true = V.bl (decide (0 ≤ z) && decide (z < (m : Int))); rw [decide_eq_true h, decide_eq_true h']; rfl
def isWordV (m : Nat) (word : List V) (n : Int) : Bool := decide ((word.length : Int) = n) && word.all (wordPart m)
theorem isWordV_ints {m : Nat} {w : List Int} {n : Int} (h : ∀ x ∈ w, 0 ≤ x ∧ x < m) (hn : (w.length : Int) = n) : isWordV m (w.map V.int) n = true := by
  unfold isWordV
  rw [List.length_map, decide_eq_true hn, Bool.true_and, List.all_eq_true]
  intro v hv
  obtain ⟨x, hx, rfl⟩ := List.mem_map.mp hv
  show (decide (0 ≤ x) && decide (x < (m : Int))) = true
  rw [decide_eq_true (h x hx).1, decide_eq_true (h x hx).2]; rfl
/-- the two parts of a list beside a place -/
theorem cut_lo {α : Type} {xs : List α} {i : Int} (h0 : 0 ≤ i) (h1 : i ≤ xs.length) : cutL xs none (some i) = xs.take i.toNat := by
  obtain ⟨k, rfl⟩ := Int.eq_ofNat_of_zero_le h0
  unfold cutL
  rw [HT.sIx_none, HT.sIx_nat, Int.toNat_natCast, List.drop_zero, Nat.sub_zero, Nat.min_eq_left (by omega)]
theorem cut_hi {α : Type} {xs : List α} {i : Int} (h0 : 0 ≤ i) (h1 : i ≤ xs.length) : cutL xs (some i) none = xs.drop i.toNat := by
  obtain ⟨k, rfl⟩ := Int.eq_ofNat_of_zero_le h0
  unfold cutL
  rw [HT.sIx_none, HT.sIx_nat, Int.toNat_natCast, Nat.min_eq_left (by omega)]
  exact List.take_of_length_le (by rw [List.length_drop]; omega)
theorem cut_mid {α : Type} {xs : List α} {i j : Int} (h0 : 0 ≤ i) (hij : i ≤ j) (h1 : j ≤ xs.length) : cutL xs (some i) (some j) = (xs.drop i.toNat).take (j - i).toNat := by
  obtain ⟨k, rfl⟩ := Int.eq_ofNat_of_zero_le h0
  obtain ⟨l, rfl⟩ := Int.eq_ofNat_of_zero_le (show 0 ≤ j by omega)
  unfold cutL
  rw [HT.sIx_nat, HT.sIx_nat, Int.toNat_natCast, Nat.min_eq_left (by omega), Nat.min_eq_left (by omega)]
  congr 1; omega
theorem cut_erase {α : Type} {xs : List α} {i : Int} (h0 : 0 ≤ i) (h1 : i < xs.length) : cutL xs none (some i) ++ cutL xs (some (i + 1)) none = xs.eraseIdx i.toNat := by
  rw [cut_lo h0 (by omega), cut_hi (by omega) (by omega), show (i + 1).toNat = i.toNat + 1 by omega]
  exact (List.eraseIdx_eq_take_drop_succ _ _).symm
theorem lc_lx {α β : Type} {enc : β → V} {f : α → β} {ns : List α} {i : Nat} {y : α} {v : V} (h : ns[i]? = some y) (e : v = enc (f y)) : HO.lst ((((ns.take i).map f).map enc) ++ [v]) = .lst (((ns.take (i + 1)).map f).map enc) := by
  rw [e]; exact lc_l h
theorem lc_rx {β : Type} {enc : β → V} (f : Nat → β) (i : Nat) {v : V} (e : v = enc (f i)) : HO.lst ((((List.range i).map f).map enc) ++ [v]) = .lst (((List.range (i + 1)).map f).map enc) := by
  rw [e]; exact lc_r f i
theorem cut_one {α : Type} {xs : List α} (h : 0 < xs.length) : cutL xs (some 1) none = xs.drop 1 := cut_hi (by decide) (by omega)
theorem lc_app {β : Type} {enc : β → V} {xs ys : List β} {x : β} (e : xs ++ [x] = ys) : HO.lst (xs.map enc ++ [enc x]) = .lst (ys.map enc) := by
  rw [← e, List.map_append]; rfl
theorem count_filter (w : List Int) (a : Int) : (List.map (fun y : Int => y) (List.filter (fun y : Int => decide (y = a)) w)).length = w.count a := by
  rw [List.length_map, List.count_eq_length_filter]
  congr 1
end Rc
namespace Rc
open PySem PySem.Spec PyProof.Rows L2

/-! list.count of a truth -/
section
variable {X : Cx}
theorem bools_of_vals : ∀ {bs : List Bool} {us : List Value}, Vals (bs.map V.bl) us → us = bs.map Value.bool
  | [], _, h => by cases h; rfl
  | b :: bs, _, h => by
    cases h with
    | cons r rr =>
      cases r
      rw [bools_of_vals rr]; rfl
theorem countP_bools (k : Bool) : ∀ bs : List Bool, (bs.map Value.bool).countP (isBoolOf k) = bs.count k
  | [] => rfl
  | b :: bs => by
    rw [List.map_cons, List.countP_cons, List.count_cons, countP_bools k bs] <;> rfl
def rCntB (K : PySem.W.Frag) : V → List V → Hp → VK → Prop := fun x xs H Q => ∃ (p : Addr) (bs : List Bool) (k : Bool), x = .ref p ∧ xs = [.bl k] ∧ SqL K H p (bs.map V.bl) ∧ Q (.int (bs.count k : Nat)) H
theorem mt_lcountB : MtR X "list.count" (rCntB X.K) := by
  intro pins s σ H x xs v us Q I rx rxs h
  obtain ⟨p, bs, k, rfl, rfl, hs, q⟩ := h
  cases rx
  obtain ⟨u, rfl, ru⟩ := rxs.one
  cases ru
  obtain ⟨its, rv, ⟨⟨cls, dd, data, sl⟩, n, ho, hc, hdn, hd⟩, hlen⟩ := I.list hs
  simp only at hc hd
  subst hc hd
  have ei := bools_of_vals rv
  subst ei
  refine call_meets PySem.F.slot_list_count ⟨_, ho, rfl⟩ PySem.F.entry_list_count (PySem.F.args_list_count_2 _ _)
    (SeqAt.list_countAt p (bs.map Value.bool).toArray n dd sl (.bool k) (isBoolOf k)) ⟨ho, fun y hy => ?_, ?_⟩
  · have hy' : y ∈ bs.map Value.bool := by simpa using hy
    obtain ⟨b, _, rfl⟩ := List.mem_map.mp hy'
    exact SeqAt.EqAt.bool_bool b k
  · refine ⟨.int (bs.count k : Nat), H, I.tok _, ⟨s.toks, ?_⟩, q⟩
    show Value.int (((bs.map Value.bool).toArray.toList.countP (isBoolOf k) : Nat) : Int) s.toks = Value.int ((bs.count k : Nat) : Int) s.toks
    rw [show (bs.map Value.bool).toArray.toList = bs.map Value.bool from rfl, countP_bools]
end

/-! the exception that a suite holds -/
section
variable {X : Cx} {a : Addr} {oe : Obj} {cls : Value} {d : Option Addr}
/-- isinstance(e, c), e the exception that the suite holds: of the class D -/
def rIsP (K : PySem.W.Frag) (a : Addr) (cls : Value) (d : Option Addr) : List V → Hp → VK → Prop := fun xs H Q =>
  ∃ (D : Addr) (c : V) (cv : Value) (b : Bool), cls = .ref D ∧ d = none ∧ ExcC K D ∧ xs = [.ref a, c] ∧ (∀ u, RelV c u → u = cv) ∧ PySem.W.kitOne K (.ref D) cv = some b ∧ Q (.bl b) H
theorem call_isP (hz : Zc cls d oe) (hf : ∃ vs, oe.data = .fields vs) (hp : (a, oe) ∈ X.pn) : CallR X (.builtin "isinstance") (rIsP X.K a cls d) := by
  intro pins s σ H xs us Q I r h
  obtain ⟨D, c, cv, b, rfl, rfl, C, rfl, hcv, e, q⟩ := h
  cases r with
  | cons rx rr =>
    cases rr with
    | cons rt rr =>
      cases rr
      cases rx
      have ec := hcv _ rt
      subst ec
      obtain ⟨hget, _⟩ := I.pin (a, oe) (List.mem_append.mpr (.inl hp))
      obtain ⟨vs, hv⟩ := hf
      have J : PySem.W.InstAt s.heap a oe D none := by
        obtain ⟨oc, od, oda, osl⟩ := oe
        obtain ⟨h1, h2⟩ := hz
        dsimp only at h1 h2 hv
        subst h1 h2 hv
        exact ⟨hget, rfl, rfl, trivial⟩
      exact PySem.W.kia_one (PySem.W.handS_kitx_exc C.hg C.hk C.hs C.hd C.ha C.hn C.ht C.hm) I.kIn J e (fun z => nomatch z) fun tk => ⟨.bl b, H, I.kept (t' := tk) fun _ _ z => z, rfl, q⟩
theorem rel_ref {C : Addr} : ∀ u, RelV (.ref C) u → u = .ref C := fun u h => h
theorem rel_ty {t : String} : ∀ u, RelV (.ty t) u → u = .type t := fun u h => h
end

/-! defs that are called within a suite, with the exception -/
open L2H (RoomH PinOk cxH inv_startH)
/-- p's object is the exception that is handled, of the class D -/
structure HotZ (A : Around) (D : Addr) (p : Addr × Obj) : Prop where
  hd : A.handled = some (.ref p.1)
  cl : Zc (.ref D) none p.2
  dt : ∃ vs, p.2.data = .fields vs
structure FnE (P : Program) (w : World) (K : PySem.W.Frag) (mg : Str → Option Value) (base : Heap) (k : Nat) (f : Addr) (fd : FuncData) (ps : List Str) (sp : Addr → Addr → Sp) : Prop where
  len : ∀ a D vs H Q E, sp a D vs H Q E → vs.length = ps.length
  run : ∀ (A : Around) (outer : List Env) (s : Shared) (H : Hp) (args : Args) (us : List Value) (vs : List V) (Q : VK) (E : XK) (p : Addr × Obj) (D : Addr), RoomH k A → HotZ A D p → PinOk outer H s p → Env0 P w K mg base A outer s H → BindsTo s fd args (ps.zip us) → Vals vs us → sp p.1 D vs H Q E →
    codeAny (model P w) A (.call (.ref f) args) (CR CX0 outer P w H s Q E) s
theorem fn_ofE {P : Program} {w : World} {K : PySem.W.Frag} {mg : Str → Option Value} {base : Heap} {k : Nat} {f : Addr} {name qual : Str} {params : Arguments} {body : List Stmt} {scope : Scope} {dV kV doc pm cdv ct oc : Value} {an od : Option Addr}
    {osl : Array (Option Value)} {N ps : List Str} {sp : Addr → Addr → Sp} (lk : K.lookup f = some ⟨oc, od, .func (PySem.W.fnOf name qual params body scope dV kV doc pm an cdv ct), osl⟩) (hcd : PySem.W.codeIn K cdv qual = true) (S : FnScope N ps scope)
    (len : ∀ a D vs H Q E, sp a D vs H Q E → vs.length = ps.length)
    (hbody : ∀ (A : Around) (outer : List Env) (s : Shared) (H : Hp) (vs : List V) (Q : VK) (E : XK) (p : Addr × Obj) (D : Addr), HotZ A D p → RoomH k (A.deeper (envOfC qual scope s.heap.objs.size f cdv)) → sp p.1 D vs H Q E →
      ∃ t, PSs (cxH CX0 P w K mg base N qual scope f cdv A outer s H E p) body t ∧ t { nx := fun _ H' => Q .non H', rt := Q } (L2.start N vs) H) :
    FnE P w K mg base (k + 1) f (PySem.W.fnOf name qual params body scope dV kV doc pm an cdv ct) ps sp := by
  refine ⟨len, fun A outer s H args us vs Q E p D hr hot hpin e0 hb r hsp => ?_⟩
  have hl := len _ _ _ _ _ _ hsp
  have KX : K.In s.heap := e0.mod.kin.keeps fun b o e => (e0.bs b o e).1
  have lim : s.heap.NoLimit := e0.mod.nolimit.keeps fun b o e => (e0.bs b o e).1
  have hkind : ∀ y ∈ ps.zip us, scope.names.lookup y.1 = some .local ∨ (scope.names.lookup y.1 = some .cell ∧ ((cellsFrom (s.heap.objs.size + 1) scope.names []).lookup y.1).isSome = true) := fun ⟨n, v⟩ hy => by
    rcases S.par n (List.of_mem_zip hy).1 with q | q
    · exact .inl q
    · exact .inr ⟨q, PySem.W.cellsFrom_some _ _ _ (.inl q)⟩
  refine codeAny_call_function hr.depth (KX _ _ lk) rfl S.co S.gen rfl (PySem.W.codeRec_of KX hcd) (hb _ _ _ _ ?_)
  refine wpAny_newFunctionEnv_cells S.kind hkind fun env he s1 x => ?_
  subst he
  refine ⟨lim.keeps x.toInCall.keep, codeAny_func ?_⟩
  obtain ⟨t, ht, hq⟩ := hbody A outer s H vs Q E p D hot (hr.deeper _) hsp
  have I : Inv (cxH CX0 P w K mg base N qual scope f cdv A outer s H E p) [] (L2.start N vs) H s1 := inv_startH S hpin e0 hl r x
  refine wpAny_mono (ht.run [] s1 (L2.start N vs) H _ I hq) (fun fl s' hs => ?_) fun e s' hs => hs
  have fin : ∀ {σ' : L2.St} {H' : Hp} {v : V} {u : Value}, Inv (cxH CX0 P w K mg base N qual scope f cdv A outer s H E p) [] σ' H' s' → RelV v u → Q v H' → CE outer P w H s Q u s' :=
    fun {σ' H' v u} J rv q => ⟨v, H', J.os, J.bare, J.base, J.hok, rv, q⟩
  cases fl with
  | ret u =>
    obtain ⟨v, σ', H', J, rv, q⟩ := hs
    exact fin J rv q
  | next =>
    obtain ⟨σ', H', J, q⟩ := hs
    exact fin (v := V.non) (u := Value.none) J rfl q
  | brk =>
    obtain ⟨_, _, _, q⟩ := hs
    exact False.elim q
  | cont =>
    obtain ⟨_, _, _, q⟩ := hs
    exact False.elim q
section
variable {P : Program} {w : World} {K : PySem.W.Frag} {mg : Str → Option Value} {base : Heap}
/-- as Fun.ok, for a def that a suite calls -/
theorem Fun.okE {x qual : Str} {st : Stmt} {f : Addr} {fd : FuncData} {N ps : List Str} {k : Nat} {sp : Addr → Addr → Sp} (F : Fun K x qual st f fd) (S : FnScope N ps (defScope st)) (len : ∀ a D vs H Q E, sp a D vs H Q E → vs.length = ps.length)
    (hbody : ∀ (cdv : Value) (A : Around) (outer : List Env) (s : Shared) (H : Hp) (vs : List V) (Q : VK) (E : XK) (p : Addr × Obj) (D : Addr), HotZ A D p → RoomH k (A.deeper (envOfC qual (defScope st) s.heap.objs.size f cdv)) → sp p.1 D vs H Q E →
      ∃ t, PSs (cxH CX0 P w K mg base N qual (defScope st) f cdv A outer s H E p) (defBody st) t ∧ t { nx := fun _ H' => Q .non H', rt := Q } (start N vs) H) : FnE P w K mg base (k + 1) f fd ps sp := by
  obtain ⟨oc, od, kV, doc, pm, an, cdv, ct, osl, rfl, lk, hcd⟩ := F.ex
  exact fn_ofE lk hcd S len fun A outer s H vs Q E p D hz hr hsp => hbody cdv A outer s H vs Q E p D hz hr hsp
end
theorem roomS {X : Cx} {k : Nat} {a : Addr} {pn : List (Addr × Obj)} (hr : Room k X.A) : RoomH k (X.suite a pn).A := ⟨hr.dp, hr.un⟩
section
variable {X : Cx} {k : Nat} {f : Addr} {fd : FuncData} {ps : List Str} {sp : Addr → Addr → Sp} {x : Str} {q pos : Pos} {e : Expr} {es : List Expr} {t : TA} {a : Addr} {oe : Obj} {cls : Value} {d : Option Addr} {pn : List (Addr × Obj)}
/-- f(e, ..) within a suite, f asks about the exception -/
def tCallE (a : Addr) (cls : Value) (d : Option Addr) (sp : Addr → Addr → Sp) (t : TA) : TE := fun σ H Q => ∃ D, cls = .ref D ∧ d = none ∧ t σ H fun vs H1 => sp a D vs H1 Q E0
theorem pe_callE (hz : Zc cls d oe) (hf : ∃ vs, oe.data = .fields vs) (F : FnE X.prog X.w X.K X.mg X.base k f fd ps sp) (hr : RoomH k (X.suite a ((a, oe) :: pn)).A) (hg : Gl X x) (hm : X.mg x = some (.ref f)) (hk : PySem.W.keepIn X.K (.ref f) = true) (hb : Binds X.K fd ps [])
    (ha : PA (X.suite a ((a, oe) :: pn)) (e :: es) t) (hdb : (x == ("__debug__" : Str)) = false := by decide) (he : starEach (e :: es) X.env = (false, eval e X.env) :: starEach es X.env := by rfl) (hpl : (backTo pos (starEach es X.env)).any (·.1) = false := by rfl) :
    PE (X.suite a ((a, oe) :: pn)) (.Call (.Name x q) (e :: es) [] pos) (tCallE a cls d sp t) := by
  refine ⟨fun pins s σ H Q I h => ?_⟩
  obtain ⟨D, rfl, rfl, h⟩ := h
  have hg' : Gl (X.suite a ((a, oe) :: pn)) x := hg
  refine wpAny_Call_Name_kw (ld_glob I hg' hm ?_ hdb)
  refine PySem.W.callWith_K (h₀ := X.base) I.ok.mod.kin hk (thn (ha.run pos pins s σ H _ I h) fun us s1 ⟨vs, H1, I1, r, q⟩ => ⟨I1.kIn, ?_⟩) he hpl
  have hl : us.length = ps.length := by rw [← r.length]; exact F.len _ _ _ _ _ _ q
  have b := hb s1 us I1.kIn (by rw [List.append_nil]; exact hl)
  rw [List.append_nil] at b
  have P1 := I1.pin (a, oe) (List.mem_append_left _ List.mem_cons_self)
  have hpin : PinOk X.stack H1 s1 (a, oe) := ⟨P1.1, P1.2.1, fun hm => (List.mem_cons.mp (I1.stkSub a hm)).elim P1.2.2.1 P1.2.2.2.1, P1.2.2.2.2⟩
  refine wpAny_call (codeAny_mono (F.run (X.suite a ((a, oe) :: pn)).A X.stack s1 H1 ⟨us, []⟩ us vs Q E0 (a, oe) D hr ⟨rfl, hz, hf⟩ hpin I1.env0 b r q) fun r s' hq => ?_)
  cases r with
  | error e => exact False.elim hq
  | ok fl =>
    cases fl with
    | ret u => exact I1.after hq
    | next => exact False.elim hq
    | brk => exact False.elim hq
    | cont => exact False.elim hq
end

/-! facts of the top's exception classes -/
/-- an exception class of the program, over ValueError -/
structure ExcT (K : PySem.W.Frag) (mg : Str → Option Value) (n : Str) (C : Addr) : Prop where
  g : mg n = some (.ref C)
  kp : PySem.W.keepIn K (.ref C) = true
  ex : PySem.W.excIn K C [.type "ValueError", .type "Exception", .type "BaseException", .type "object"] "ValueError.__new__" = true
  c : ExcC K C
  ty : PySem.W.typeIn K (.ref C) = some (.type "type")
  ve : PySem.W.subIn K (.ref C) (.type "ValueError") = some true
theorem any_isSome {α : Type} {o : Option α} {p : α → Bool} (h : o.any p = true) : o.isSome = true := by
  cases o with
  | none => cases h
  | some _ => rfl
section
variable {K : PySem.W.Frag} {mg : Str → Option Value} {n : Str} {C D : Addr} {b : Bool}
theorem ExcT.kit (T : ExcT K mg n C) (h : PySem.W.subIn K (.ref D) (.ref C) = some b) (hne : b = false → D ≠ C) : PySem.W.kitOne K (.ref D) (.ref C) = some b := by
  unfold PySem.W.kitOne
  by_cases e : D = C
  · subst e
    rw [if_pos (by simp)]
    cases b with
    | true => rfl
    | false => exact absurd rfl (hne rfl)
  · have e1 : ((Value.ref D) == (Value.ref C)) = false := by
      rw [beq_eq_false_iff_ne]; exact fun z => e (Value.ref.inj z)
    rw [e1, if_neg Bool.false_ne_true]
    unfold PySem.W.kitCls
    have e2 : (PySem.W.clsIn K C).isSome = true := any_isSome T.c.hd
    dsimp only
    rw [e2, T.ty]
    exact h
theorem ExcT.exm (T : ExcT K mg n C) (h : PySem.W.subIn K (.ref D) (.ref C) = some b) : PySem.W.exmOne K (.ref D) (.ref C) = some b := PySem.W.exm_ref T.c.hs T.c.hd T.ty h
theorem ExcT.kve (T : ExcT K mg n C) : PySem.W.kitOne K (.ref C) (.type "ValueError") = some true := by
  unfold PySem.W.kitOne
  rw [show ((Value.ref C) == (Value.type "ValueError")) = false from rfl, if_neg Bool.false_ne_true]
  exact T.ve
end
end Rc
namespace Rc
open PySem PySem.Spec PyProof.Rows L2

/-! tables: lists of objects; an object's content is told by g -/
abbrev RO (β : Type) := Addr × β
def rref {β : Type} (r : RO β) : V := V.ref r.1
def rosOwn {β : Type} (g : β → HO) (rows : List (RO β)) : List (Addr × HO) := rows.map fun r => (r.1, g r.2)
abbrev gI : List Int → HO := fun xs => .lst (xs.map V.int)
abbrev gB : List Bool → HO := fun xs => .lst (xs.map V.bl)
abbrev gV : List V → HO := fun xs => .lst xs
abbrev gVB : V × Bool → HO := fun p => .tup [p.1, V.bl p.2]
abbrev gII : Int × Int → HO := fun p => .tup [V.int p.1, V.int p.2]
section
variable {β : Type} {g : β → HO} {H0 H H' : Hp} {own pre : List (Addr × HO)} {ts : List (List (Addr × HO))} {T : List (Addr × HO)} {p : Addr} {o : HO} {rows : List (RO β)} {C : List β}
theorem flat_pull {α : Type} : ∀ {ts : List (List α)} {k : Nat} {T : List α}, ts[k]? = some T → ts.flatten.Perm (T ++ (ts.eraseIdx k).flatten)
  | [], _, _, h => by simp at h
  | t :: ts, 0, T, h => by cases (Option.some.inj h); exact List.Perm.refl _
  | t :: ts, k + 1, T, h => by
    have ih := flat_pull (ts := ts) (k := k) (T := T) h
    show (t ++ ts.flatten).Perm (T ++ (t ++ (ts.eraseIdx k).flatten))
    refine (List.Perm.append_left t ih).trans ?_
    rw [← List.append_assoc, ← List.append_assoc]
    exact List.Perm.append_right _ List.perm_append_comm
/-- a tail to the front of the tails -/
theorem Fr.tup (f : Fr H0 H (pre ++ ts.flatten)) (k : Nat) (h : ts[k]? = some T) : Fr H0 H (pre ++ (T :: ts.eraseIdx k).flatten) :=
  f.perm (List.Perm.append_left _ (flat_pull h))
/-- a tail is no longer told of -/
theorem Fr.tdrop (f : Fr H0 H (pre ++ ts.flatten)) (k : Nat) (h : ts[k]? = some T) : Fr H0 H (pre ++ (ts.eraseIdx k).flatten) :=
  (f.tup k h).sub (List.Sublist.append (List.Sublist.refl _) (List.sublist_append_right _ _))
theorem Fr.rmem (f : Fr H0 H (pre ++ ts.flatten)) (k : Nat) (h : ts[k]? = some (rosOwn g rows)) {r : RO β} (hr : r ∈ rows) : H r.1 = some (g r.2) := by
  refine f.mem (List.mem_append_right _ (List.mem_flatten.mpr ⟨_, List.mem_of_getElem? h, ?_⟩))
  exact List.mem_map.mpr ⟨r, hr, rfl⟩
/-- an own object becomes a row of a new tail -/
theorem Fr.rnew {x : β} (f : Fr H0 H ((p, g x) :: (pre ++ ts.flatten))) : Fr H0 H (pre ++ (rosOwn g [(p, x)] :: ts).flatten) :=
  f.perm List.perm_middle.symm
/-- an own object becomes the last row of the first tail -/
theorem Fr.radd {x : β} (f : Fr H0 H ((p, g x) :: (pre ++ (rosOwn g rows :: ts).flatten))) : Fr H0 H (pre ++ (rosOwn g (rows ++ [(p, x)]) :: ts).flatten) := by
  refine f.perm ?_
  have e : rosOwn g (rows ++ [(p, x)]) = rosOwn g rows ++ [(p, g x)] := by unfold rosOwn; rw [List.map_append]; rfl
  show ((p, g x) :: (pre ++ (rosOwn g rows ++ ts.flatten))).Perm (pre ++ (rosOwn g (rows ++ [(p, x)]) ++ ts.flatten))
  rw [e]
  refine List.perm_middle.symm.trans (List.Perm.append_left _ ?_)
  rw [List.append_assoc]
  exact List.perm_middle.symm
theorem Fr.rset {x : β} {i : Nat} (f : Fr H0 H ((p, g x) :: (pre ++ (rosOwn g rows :: ts).flatten))) (h : i < rows.length) : Fr H0 H (pre ++ (rosOwn g (rows.set i (p, x)) :: ts).flatten) := by
  obtain ⟨l', h1, h2⟩ := set_sub (z := ((p, x) : RO β)) h
  have e1 : (rosOwn g (rows.set i (p, x))).Perm ((p, g x) :: rosOwn g l') := h1.map _
  have s : List.Sublist ((p, g x) :: (pre ++ (rosOwn g l' ++ ts.flatten))) ((p, g x) :: (pre ++ (rosOwn g rows ++ ts.flatten))) :=
    List.Sublist.cons_cons _ (List.Sublist.append (List.Sublist.refl _) (List.Sublist.append (h2.map _) (List.Sublist.refl _)))
  refine (f.sub s).perm ?_
  refine List.perm_middle.symm.trans (List.Perm.append_left _ ?_)
  exact List.Perm.append_right _ e1.symm
/-- a row is written: own o at p becomes o' -/
theorem Fr.rwr {i : Nat} {y : β} {q : Addr} (f : Fr H0 H (pre ++ (rosOwn g rows :: ts).flatten)) (h : i < rows.length) (hq : q = (rows[i]).1) : Fr H0 (upd H q (g y)) (pre ++ (rosOwn g (rows.set i (q, y)) :: ts).flatten) := by
  subst hq
  obtain ⟨l', h1, h2⟩ := set_sub (z := (((rows[i]).1, y) : RO β)) h
  have p1 : rows.Perm (rows[i] :: rows.eraseIdx i) := by
    have := set_er' (l := rows) (z := rows[i]) h
    rwa [List.set_getElem_self] at this
  have p2 : (rows.set i ((rows[i]).1, y)).Perm (((rows[i]).1, y) :: rows.eraseIdx i) := set_er' h
  have e0 : (pre ++ (rosOwn g rows ++ ts.flatten)).Perm (((rows[i]).1, g (rows[i]).2) :: (pre ++ (rosOwn g (rows.eraseIdx i) ++ ts.flatten))) :=
    (List.Perm.append_left _ (List.Perm.append_right _ (p1.map _))).trans List.perm_middle
  have gg := f.perm e0
  refine (Fr.wr (o' := g y) gg).perm ?_
  have p3 : (rosOwn g (rows.set i ((rows[i]).1, y))).Perm (((rows[i]).1, g y) :: rosOwn g (rows.eraseIdx i)) := p2.map (fun r : RO β => (r.1, g r.2))
  refine List.perm_middle.symm.trans (List.Perm.append_left _ ?_)
  show ((((rows[i]).1, g y) :: rosOwn g (rows.eraseIdx i)) ++ ts.flatten).Perm (rosOwn g (rows.set i ((rows[i]).1, y)) ++ ts.flatten)
  exact List.Perm.append_right _ p3.symm
where
  set_er' {α : Type} : ∀ {l : List α} {i : Nat} {z : α}, i < l.length → (l.set i z).Perm (z :: l.eraseIdx i)
  | [], _, _, h => by simp at h
  | x :: l, 0, z, _ => List.Perm.refl _
  | x :: l, i + 1, z, h => by
    have := set_er' (l := l) (i := i) (z := z) (by simpa using h)
    exact (this.cons x).trans (List.Perm.swap _ _ _)
theorem Fr.rcat {rows' : List (RO β)} (f : Fr H0 H (pre ++ (rosOwn g rows :: rosOwn g rows' :: ts).flatten)) : Fr H0 H (pre ++ (rosOwn g (rows ++ rows') :: ts).flatten) := by
  have e : (rosOwn g rows :: rosOwn g rows' :: ts).flatten = (rosOwn g (rows ++ rows') :: ts).flatten := by
    show rosOwn g rows ++ (rosOwn g rows' ++ ts.flatten) = rosOwn g (rows ++ rows') ++ ts.flatten
    unfold rosOwn; rw [List.map_append, List.append_assoc]
  rw [← e]; exact f
theorem Fr.rrev (f : Fr H0 H (pre ++ (rosOwn g rows :: ts).flatten)) : Fr H0 H (pre ++ (rosOwn g rows.reverse :: ts).flatten) := by
  refine f.perm (List.Perm.append_left _ (List.Perm.append_right _ ?_))
  unfold rosOwn; rw [List.map_reverse]
  exact (List.reverse_perm _).symm

/-! addresses of rows and their contents -/
theorem snd_len (h : rows.map (·.2) = C) : rows.length = C.length := by rw [← h, List.length_map]
theorem snd_at (h : rows.map (·.2) = C) (d : β) (a : Addr) (i : Nat) (hi : i < C.length) : (rows.getD i (a, d)).2 = C.getD i d := by
  subst h
  rw [List.length_map] at hi
  simp [List.getD, hi]
theorem snd_get {i : Nat} {r : RO β} (h : rows.map (·.2) = C) (hr : rows[i]? = some r) : C[i]? = some r.2 := by subst h; rw [List.getElem?_map, hr]; rfl
theorem snd_app {x : β} (h : rows.map (·.2) = C) : (rows ++ [(p, x)]).map (·.2) = C ++ [x] := by rw [List.map_append, h]; rfl
theorem snd_set {x : β} {i : Nat} (h : rows.map (·.2) = C) : (rows.set i (p, x)).map (·.2) = C.set i x := by rw [List.map_set, h]
theorem snd_rev (h : rows.map (·.2) = C) : rows.reverse.map (·.2) = C.reverse := by rw [List.map_reverse, h]
theorem snd_cat {rows' : List (RO β)} {C' : List β} (h : rows.map (·.2) = C) (h' : rows'.map (·.2) = C') : (rows ++ rows').map (·.2) = C ++ C' := by rw [List.map_append, h, h']
theorem rref_set (i : Nat) (d : RO β) (y : β) (hi : i < rows.length) : rows.map rref = (rows.set i ((rows.getD i d).1, y)).map rref := by
  rw [List.map_set]
  show rows.map rref = (rows.map rref).set i (rref (rows.getD i d))
  rw [List.getD_eq_getElem?_getD, List.getElem?_eq_getElem hi]
  apply List.ext_getElem?
  intro j
  by_cases hj : i = j
  · subst hj; simp [hi]
  · simp [hj]
theorem lst_rref_app {x : β} : HO.lst (rows.map rref ++ [V.ref p]) = .lst ((rows ++ [(p, x)]).map rref) := by rw [List.map_append]; rfl
theorem lst_rref_cat {rows' : List (RO β)} : HO.lst (rows.map rref ++ rows'.map rref) = .lst ((rows ++ rows').map rref) := by rw [List.map_append]
theorem lst_rref_set {x : β} {i : Nat} : HO.lst ((rows.map rref).set i (V.ref p)) = .lst ((rows.set i (p, x)).map rref) := by rw [List.map_set]; rfl

/-! a table that stands -/
structure Tab (H : Hp) (g : β → HO) (a : Addr) (C : List β) : Prop where
  ex : ∃ r : List (RO β), r.map (·.2) = C ∧ H a = some (.lst (r.map rref)) ∧ ∀ z ∈ r, H z.1 = some (g z.2)
theorem Tab.same {a : Addr} (t : Tab H g a C) (s : Same H H') : Tab H' g a C := by
  obtain ⟨r, h1, h2, h3⟩ := t.ex
  exact ⟨r, h1, s _ _ h2, fun z hz => s _ _ (h3 z hz)⟩
/-- a new table, from a call -/
structure TabN (H H' : Hp) (g : β → HO) (a : Addr) (r : List (RO β)) (C : List β) : Prop where
  n : H a = none
  e : H' a = some (.lst (r.map rref))
  c : r.map (·.2) = C
  rw : ∀ z ∈ r, H z.1 = none ∧ H' z.1 = some (g z.2)
  nd : (a :: r.map (·.1)).Nodup
theorem Fr.ctab {r : List (RO β)} (f : Fr H0 H (pre ++ ts.flatten)) (s : Same H H') (t : TabN H H' g p r C) : Fr H0 H' (((p, .lst (r.map rref)) :: pre) ++ (rosOwn g r :: ts).flatten) := by
  have gg := f.cnew s t.n t.e
  have h1 : Fr H0 H' ((((p, HO.lst (r.map rref)) :: pre) ++ ts.flatten) ++ rosOwn g r) := by
    refine ⟨gg.same, fun z hz => ?_, ?_⟩
    · rcases List.mem_append.mp hz with hz | hz
      · exact gg.frs z hz
      · obtain ⟨r', hr', rfl⟩ := List.mem_map.mp hz
        exact ⟨f.fresh (t.rw r' hr').1, (t.rw r' hr').2⟩
    · rw [List.map_append]
      have e1 : (rosOwn g r).map (·.1) = r.map (·.1) := by unfold rosOwn; rw [List.map_map]; rfl
      rw [e1]
      have hn' := List.nodup_cons.mp t.nd
      refine List.nodup_append.mpr ⟨gg.nd, hn'.2, fun a ha b hb hab => ?_⟩
      subst hab
      rcases List.mem_cons.mp ha with rfl | ha
      · exact hn'.1 hb
      · obtain ⟨z, hz, rfl⟩ := List.mem_map.mp ha
        obtain ⟨r', hr', e2⟩ := List.mem_map.mp hb
        have := (t.rw r' hr').1
        rw [e2, (f.frs z hz).2] at this
        cases this
  refine h1.perm ?_
  show ((((p, HO.lst (r.map rref)) :: pre) ++ ts.flatten) ++ rosOwn g r).Perm (((p, HO.lst (r.map rref)) :: pre) ++ (rosOwn g r ++ ts.flatten))
  rw [List.append_assoc]
  exact List.Perm.append_left _ List.perm_append_comm
/-- new objects, from a call -/
theorem Fr.comp {new : List (Addr × HO)} (f : Fr H0 H own) (n : Fr H H' new) : Fr H0 H' (new ++ own) := by
  refine ⟨f.same.trans n.same, fun z hz => ?_, ?_⟩
  · rcases List.mem_append.mp hz with hz | hz
    · exact ⟨f.fresh (n.frs z hz).1, (n.frs z hz).2⟩
    · exact ⟨(f.frs z hz).1, n.same _ _ (f.frs z hz).2⟩
  · rw [List.map_append]
    refine List.nodup_append.mpr ⟨n.nd, f.nd, fun a ha b hb hab => ?_⟩
    subst hab
    obtain ⟨z, hz, rfl⟩ := List.mem_map.mp ha
    obtain ⟨y, hy, e⟩ := List.mem_map.mp hb
    have h1 := (n.frs z hz).1
    rw [← e, (f.frs y hy).2] at h1
    cases h1
/-- what is handed back -/
theorem Fr.tabback (f : Fr H0 H ((p, .lst (rows.map rref)) :: (pre ++ (rosOwn g rows :: ts).flatten))) (h : rows.map (·.2) = C) : TabN H0 H g p rows C := by
  have f1 : Fr H0 H ((p, .lst (rows.map rref)) :: rosOwn g rows) :=
    f.sub (List.Sublist.cons_cons _ ((List.sublist_append_left _ _).trans (List.sublist_append_right _ _)))
  refine ⟨f1.n0, f1.at0, h, fun z hz => f1.frs (z.1, g z.2) (List.mem_cons_of_mem _ (List.mem_map.mpr ⟨z, hz, rfl⟩)), ?_⟩
  have := f1.nd
  rw [List.map_cons] at this
  have e1 : (rosOwn g rows).map (·.1) = rows.map (·.1) := by unfold rosOwn; rw [List.map_map]; rfl
  rwa [e1] at this
theorem Fr.tabback0 (f : Fr H0 H ((p, .lst (([] : List (RO β)).map rref)) :: own)) : TabN H0 H g p [] ([] : List β) :=
  ⟨f.n0, f.at0, rfl, (fun _ h => nomatch h), List.nodup_cons.mpr ⟨(fun h => nomatch h), List.nodup_nil⟩⟩
/-- a table by own facts -/
theorem Fr.tab (f : Fr H0 H (pre ++ ts.flatten)) (k j : Nat) (ho : (pre ++ ts.flatten)[k]? = some (p, .lst (rows.map rref))) (h : ts[j]? = some (rosOwn g rows)) (hc : rows.map (·.2) = C) : Tab H g p C :=
  ⟨⟨rows, hc, f.mem (List.mem_of_getElem? ho), fun z hz => f.rmem j h hz⟩⟩
/-- a table by its parts -/
theorem tab_lit {a : Addr} (hr : ∀ z ∈ rows, H z.1 = some (g z.2)) (ha : H a = some (.lst (rows.map rref))) (hc : rows.map (·.2) = C) : Tab H g a C := ⟨⟨rows, hc, ha, hr⟩⟩
theorem ros_nil : ∀ z ∈ ([] : List (RO β)), H z.1 = some (g z.2) := fun _ h => nomatch h
theorem ros_cons {a : Addr} {x : β} (h : H a = some (g x)) (hr : ∀ z ∈ rows, H z.1 = some (g z.2)) : ∀ z ∈ (a, x) :: rows, H z.1 = some (g z.2) := fun z hz => by
  rcases List.mem_cons.mp hz with rfl | hz
  · exact h
  · exact hr z hz
end
/-! rows at a place, casts, unrolled loops -/
section
variable {β : Type} {g : β → HO} {H0 H H' : Hp} {own pre : List (Addr × HO)} {ts : List (List (Addr × HO))} {p : Addr} {o o' : HO} {rows : List (RO β)} {C : List β}
theorem Fr.castk (f : Fr H0 H own) (k : Nat) (h : own[k]? = some (p, o)) (e : o = o') : Fr H0 H (own.set k (p, o')) := by
  subst e
  refine f.perm ?_
  have : own.set k (p, o) = own := by
    apply List.ext_getElem?
    intro j
    by_cases hj : k = j
    · subst hj
      obtain ⟨hl, he⟩ := List.getElem?_eq_some_iff.mp h
      rw [h]; simp [hl]
    · simp [hj]
  rw [this]
theorem ros_at (hr : ∀ z ∈ rows, H z.1 = some (g z.2)) (hc : rows.map (·.2) = C) (d : β) (i : Nat) (hi : i < C.length) : H (rows.getD i (0, d)).1 = some (g (C.getD i d)) := by
  have hl : i < rows.length := by rw [snd_len hc]; exact hi
  have := hr _ (getD_mem (d := ((0, d) : RO β)) hl)
  rwa [snd_at hc d 0 i hi] at this
theorem Fr.rat (f : Fr H0 H (pre ++ ts.flatten)) (k : Nat) (h : ts[k]? = some (rosOwn g rows)) (hc : rows.map (·.2) = C) (d : β) (i : Nat) (hi : i < C.length) : H (rows.getD i (0, d)).1 = some (g (C.getD i d)) :=
  ros_at (fun z hz => f.rmem k h hz) hc d i hi
theorem Fr.rwrD {i : Nat} {y : β} (f : Fr H0 H (pre ++ (rosOwn g rows :: ts).flatten)) (hc : rows.map (·.2) = C) (d : β) (hi : i < C.length) (e : o' = g y) :
    Fr H0 (upd H (rows.getD i (0, d)).1 o') (pre ++ (rosOwn g (rows.set i ((rows.getD i (0, d)).1, y)) :: ts).flatten) := by
  subst e
  have hl : i < rows.length := by rw [snd_len hc]; exact hi
  refine f.rwr hl ?_
  rw [List.getD_eq_getElem?_getD, List.getElem?_eq_getElem hl]; rfl
theorem len_rows (h : rows.map (·.2) = C) : (rows.map rref).length = C.length := by rw [List.length_map]; exact snd_len h
theorem rref_setD (i : Nat) (d y : β) (hc : rows.map (·.2) = C) (hi : i < C.length) : HO.lst (rows.map rref) = .lst ((rows.set i ((rows.getD i (0, d)).1, y)).map rref) :=
  congrArg HO.lst (rref_set i (0, d) y (by rw [snd_len hc]; exact hi))
theorem atRow (hc : rows.map (·.2) = C) (d : β) {i : Int} (h0 : 0 ≤ i) (h1 : i < (C.length : Int)) : atI (rows.map rref) i = some (V.ref (rows.getD i.toNat (0, d)).1) :=
  atD (f := rref) ((0, d) : RO β) h0 (by rw [snd_len hc]; exact h1)
theorem atRowLast (hc : rows.map (·.2) = C) (d : β) (h : 0 < C.length) : atI (rows.map rref) (-1) = some (V.ref (rows.getD (C.length - 1) (0, d)).1) := by
  have := atLastD (f := rref) ((0, d) : RO β) (xs := rows) (by rw [snd_len hc]; exact h)
  rw [snd_len hc] at this
  exact this
theorem ixRow (hc : rows.map (·.2) = C) {i : Int} (h0 : 0 ≤ i) (h1 : i < (C.length : Int)) : ixN (rows.map rref).length i = some i.toNat := ixDm h0 (by rw [snd_len hc]; exact h1)
theorem walkT {K : PySem.W.Frag} {a : Addr} (hc : rows.map (·.2) = C) : Walk (Itl K a) C.length (fun H => H a = some (.lst (rows.map rref))) (fun i H x H' => H' = H ∧ ∃ y : RO β, rows[i]? = some y ∧ C[i]? = some y.2 ∧ x = V.ref y.1) := by
  have w := walkL (K := K) (a := a) rref rows
  rw [snd_len hc] at w
  refine w.mono (fun _ h => h) fun i H x H' _ _ y => ?_
  obtain ⟨e, z, hz, hx⟩ := y
  exact ⟨e, z, hz, snd_get hc hz, hx⟩
theorem mtn {α : Type} {f : α → β} {ns : List α} {i : Nat} {y : α} {x : β} (h : ns[i]? = some y) (e : x = f y) : (ns.take i).map f ++ [x] = (ns.take (i + 1)).map f := by
  rw [take_next h, List.map_append, e]; rfl
theorem mrn {f : Nat → β} {i : Nat} {x : β} (e : x = f i) : (List.range i).map f ++ [x] = (List.range (i + 1)).map f := by
  rw [List.range_succ, List.map_append, e]; rfl
/-- a loop over a list, item by item -/
def unr (K : PySem.W.Frag) (a : Addr) (all : List V) (g : TG) (tb : TS) (D : Ends) : List V → L2.St → Hp → Prop
  | [], σ, H => SqL K H a all ∧ D.nx σ H
  | x :: xs, σ, H => SqL K H a all ∧ g x σ H fun σ2 H2 => tb { D with nx := unr K a all g tb D xs, ct := unr K a all g tb D xs, bk := D.nx } σ2 H2
theorem for_unr {K : PySem.W.Frag} {a : Addr} {g : TG} {tb : TS} {D : Ends} {σ : L2.St} {H : Hp} (all : List V) (h : unr K a all g tb D all σ H) :
    ∃ W : Nat → Nat → L2.St → Hp → Prop, (∃ m, W 0 m σ H) ∧ ∀ i m σ H, W i m σ H →
      ((Itl K a).stop i H ∧ D.nx σ H) ∨ ((Itl K a).go i H ∧ ∃ N : L2.St → Hp → Prop, (∀ σ' H', N σ' H' → ∃ m', m' < m ∧ W (i + 1) m' σ' H') ∧ ∀ x H', (Itl K a).yld i H x H' → g x σ H' fun σ2 H2 => tb { D with nx := N, ct := N, bk := D.nx } σ2 H2) := by
  refine for_it (walk_list (xs := all)) (fun i σ H => unr K a all g tb D (all.drop i) σ H) h (fun i σ H _ p => ?_) (fun i x σ H H' hi p y => ?_) (fun σ H p => ?_)
  · cases e : all.drop i with
    | nil => rw [e] at p; exact p.1
    | cons x xs => rw [e] at p; exact p.1
  · obtain ⟨rfl, hx⟩ := y
    have e : all.drop i = x :: all.drop (i + 1) := by
      rw [List.drop_eq_getElem_cons hi]
      congr 1
      rw [List.getElem?_eq_getElem hi] at hx
      exact Option.some.inj hx
    rw [e] at p
    exact p.2
  · rw [List.drop_length] at p
    exact p.2
end
/-! == of tables -/
section
variable {β : Type} {g : β → HO} {K : PySem.W.Frag} {H : Hp} {a : Addr} {C : List β} {gd : β → PyData}
theorem dp_tab (t : Tab H g a C) (h : ∀ (b : Addr) (x : β), H b = some (g x) → Dp K H (.ref b) (gd x)) : Dp K H (.ref a) (.list (C.map gd)) := by
  obtain ⟨r, hc, ha, hr⟩ := t.ex
  subst hc
  refine .lst (SqL.of ha) ?_
  rw [List.map_map]
  clear ha t
  revert hr
  induction r with
  | nil => intro _; exact .nil
  | cons z r ih => intro hr; exact .cons (h _ _ (hr z List.mem_cons_self)) (ih fun w hw => hr w (List.mem_cons_of_mem _ hw))
theorem okd_tab {n : Nat} (h : ∀ x : β, Okd n (gd x)) : Okd (n + 1) (.list (C.map gd)) :=
  ⟨canAll (fun x => (h x).can) C, Nat.succ_le_succ (depthAll (fun x => (h x).dep) C)⟩
theorem dp_tabI {C : List (List Int)} (t : Tab H gI a C) : Dp K H (.ref a) (.list (C.map dI)) := dp_tab t fun _ _ h => dp_ints h
theorem dp_tabB {C : List (List Bool)} (t : Tab H gB a C) : Dp K H (.ref a) (.list (C.map dB)) := dp_tab t fun _ _ h => dp_bls h
theorem okd_tabI {n : Nat} (C : List (List Int)) : Okd (n + 2) (.list (C.map dI)) := okd_tab fun x => okd_ints x
theorem okd_tabB {n : Nat} (C : List (List Bool)) : Okd (n + 2) (.list (C.map dB)) := okd_tab fun x => okd_bls x
theorem eqv_tabI (C D : List (List Int)) : PyData.eqv (.list (C.map dI)) (.list (D.map dI)) = decide (C = D) := eqvAll_map (fun x y => eqv_ints x y) C D
theorem eqv_tabB (C D : List (List Bool)) : PyData.eqv (.list (C.map dB)) (.list (D.map dB)) = decide (C = D) := eqvAll_map (fun x y => eqv_bls x y) C D
theorem Tab.tov {C : List (List Int)} (t : Tab H gI a C) : Tab H gV a (C.map (List.map V.int)) := by
  obtain ⟨r, hc, ha, hr⟩ := t.ex
  refine ⟨r.map fun z => (z.1, z.2.map V.int), ?_, ?_, fun z hz => ?_⟩
  · rw [← hc, List.map_map, List.map_map]; rfl
  · rw [ha, List.map_map]; rfl
  · obtain ⟨w, hw, rfl⟩ := List.mem_map.mp hz
    exact hr w hw
theorem dp_tabV {C : List (List V)} (t : Tab H gV a C) (hs : ∀ x ∈ C, Sca x) : Dp K H (.ref a) (.list (C.map dV)) := by
  obtain ⟨r, hc, ha, hr⟩ := t.ex
  subst hc
  refine .lst (SqL.of ha) ?_
  rw [List.map_map]
  clear ha t
  revert hr hs
  induction r with
  | nil => intro _ _; exact .nil
  | cons z r ih =>
    intro hr hs
    refine .cons (dp_vals (hr z List.mem_cons_self) (hs z.2 ?_)) (ih (fun w hw => hr w (List.mem_cons_of_mem _ hw)) fun x hx => hs x ?_)
    · rw [List.map_cons]; exact List.mem_cons_self
    · rw [List.map_cons]; exact List.mem_cons_of_mem _ hx
theorem okd_tabV {n : Nat} {C : List (List V)} (hs : ∀ x ∈ C, Sca x) : Okd (n + 2) (.list (C.map dV)) := by
  refine ⟨?_, ?_⟩
  · show PyData.canLayAll0 (C.map dV) = true
    induction C with
    | nil => rfl
    | cons x C ih =>
      show ((dV x).canLay0 && PyData.canLayAll0 (C.map dV)) = true
      have h1 : Okd (n + 1) (dV x) := okd_vals (hs x List.mem_cons_self)
      rw [h1.can, ih fun v hv => hs v (List.mem_cons_of_mem _ hv)]; rfl
  · refine Nat.succ_le_succ (depthAll (n := n + 1) (fun xs => ?_) C)
    exact Nat.succ_le_succ (Nat.le_trans (depthAll (n := 0) (fun v => by cases v <;> exact Nat.zero_le _) xs) (Nat.zero_le _))
theorem eqv_II (a b c d : Int) : PyData.eqv (.tuple [.int a, .int b]) (.tuple [.int c, .int d]) = decide (a = c ∧ b = d) := by
  show ((a == c) && ((b == d) && true)) = _
  by_cases h : a = c
  · by_cases h' : b = d
    · simp [h, h']
    · simp [h']
  · simp [h]
end
end Rc
namespace Rc
open PySem PySem.Spec PyProof.Rows L2
section
variable {X : Cx}
theorem str_dec {i j : Str} : decide (V.str i = V.str j) = decide (i = j) := by
  by_cases h : i = j
  · subst h; rw [decide_eq_true rfl, decide_eq_true rfl]
  · rw [decide_eq_false h, decide_eq_false fun z => h (V.str.inj z)]
theorem op_eqStr : OpR X (compareOp .Eq) (fun x y H Q => ∃ i j : Str, x = .str i ∧ y = .str j ∧ (i = j → Q (.bl true) H) ∧ (¬ i = j → Q (.bl false) H)) := by
  intro pins s σ H x y v u Q I rx ry h
  obtain ⟨i, j, rfl, rfl, q1, q2⟩ := h
  refine op_eq pins s σ H _ _ v u Q I rx ry ⟨rfl, ?_⟩
  rw [str_dec]
  by_cases h : i = j
  · rw [decide_eq_true h]; exact q1 h
  · rw [decide_eq_false h]; exact q2 h
theorem op_neStr : OpR X (compareOp .NotEq) (fun x y H Q => ∃ i j : Str, x = .str i ∧ y = .str j ∧ (¬ i = j → Q (.bl true) H) ∧ (i = j → Q (.bl false) H)) := by
  intro pins s σ H x y v u Q I rx ry h
  obtain ⟨i, j, rfl, rfl, q1, q2⟩ := h
  refine op_ne pins s σ H _ _ v u Q I rx ry ⟨rfl, ?_⟩
  rw [str_dec]
  by_cases h : i = j
  · rw [decide_eq_true h]; exact q2 h
  · rw [decide_eq_false h]; exact q1 h
end
/-! words: parts that are whole -/
def intV : V → Int
  | .int x => x
  | _ => 0
def intsV (w : List V) : List Int := w.map intV
theorem intsV_map (w : List Int) : intsV (w.map V.int) = w := by
  unfold intsV; rw [List.map_map]; exact (List.map_congr_left fun _ _ => rfl).trans (List.map_id w)
theorem wordPart_int {m : Nat} {v : V} (h : wordPart m v = true) : v = V.int (intV v) ∧ 0 ≤ intV v ∧ intV v < (m : Int) := by
  cases v with
  | int z =>
    have h' : (decide (0 ≤ z) && decide (z < (m : Int))) = true := h
    rw [Bool.and_eq_true, decide_eq_true_eq, decide_eq_true_eq] at h'
    exact ⟨rfl, h'⟩
  | _ => cases h
theorem isWordV_ex {m : Nat} {w : List V} {n : Int} (h : isWordV m w n = true) : ∃ u : List Int, w = u.map V.int ∧ (∀ x ∈ u, 0 ≤ x ∧ x < (m : Int)) ∧ (u.length : Int) = n := by
  unfold isWordV at h
  rw [Bool.and_eq_true, decide_eq_true_eq, List.all_eq_true] at h
  refine ⟨intsV w, ?_, fun x hx => ?_, ?_⟩
  · unfold intsV; rw [List.map_map]
    refine (List.map_id w).symm.trans (List.map_congr_left fun v hv => ?_)
    exact (wordPart_int (h.2 v hv)).1
  · obtain ⟨v, hv, rfl⟩ := List.mem_map.mp hx
    exact (wordPart_int (h.2 v hv)).2
  · unfold intsV; rw [List.length_map]; exact h.1
end Rc
namespace Rc
open PySem PySem.Spec PyProof.Rows L2
/-! what is lent to a def that changes it -/
def minus (H : Hp) (as : List Addr) : Hp := fun b => if b ∈ as then none else H b
structure Lent (Hm H : Hp) (fp : List (Addr × HO)) : Prop where
  fr : Fr Hm H fp
  rest : ∀ b x, H b = some x → b ∉ fp.map (·.1) → Hm b = some x
section
variable {H0 H H1 Hm : Hp} {fp rest own' : List (Addr × HO)}
theorem Fr.mn (f : Fr H0 H (fp ++ rest)) : Fr H0 (minus H (fp.map (·.1))) rest := by
  have nd := f.nd
  rw [List.map_append] at nd
  have dis := (List.nodup_append.mp nd).2.2
  refine ⟨fun b x e => ?_, fun z hz => ?_, (List.nodup_append.mp nd).2.1⟩
  · unfold minus
    rw [if_neg]
    · exact f.same _ _ e
    · intro hb
      obtain ⟨z, hz, rfl⟩ := List.mem_map.mp hb
      have := (f.frs z (List.mem_append_left _ hz)).1
      rw [this] at e; cases e
  · refine ⟨(f.frs z (List.mem_append_right _ hz)).1, ?_⟩
    unfold minus
    rw [if_neg]
    · exact (f.frs z (List.mem_append_right _ hz)).2
    · intro hb
      exact dis _ hb _ (List.mem_map.mpr ⟨z, hz, rfl⟩) rfl
theorem Fr.lent (f : Fr H0 H (fp ++ rest)) : Lent (minus H (fp.map (·.1))) H fp := by
  have nd := f.nd
  rw [List.map_append] at nd
  refine ⟨⟨fun b x e => ?_, fun z hz => ⟨?_, (f.frs z (List.mem_append_left _ hz)).2⟩, (List.nodup_append.mp nd).1⟩, fun b x e hb => ?_⟩
  · unfold minus at e
    by_cases hb : b ∈ fp.map (·.1)
    · rw [if_pos hb] at e; cases e
    · rw [if_neg hb] at e; exact e
  · unfold minus; rw [if_pos (List.mem_map.mpr ⟨z, hz, rfl⟩)]
  · unfold minus; rw [if_neg hb]; exact e
theorem Fr.back (f : Fr H0 H (fp ++ rest)) (g : Fr (minus H (fp.map (·.1))) H1 own') : Fr H0 H1 (own' ++ rest) := by
  have m := f.mn
  refine ⟨fun b x e => g.same _ _ (m.same _ _ e), fun z hz => ?_, ?_⟩
  · rcases List.mem_append.mp hz with hz | hz
    · exact ⟨m.same.free (g.frs z hz).1, (g.frs z hz).2⟩
    · exact ⟨(m.frs z hz).1, g.same _ _ (m.frs z hz).2⟩
  · rw [List.map_append]
    refine List.nodup_append.mpr ⟨g.nd, m.nd, fun a ha b hb hab => ?_⟩
    subst hab
    obtain ⟨z, hz, rfl⟩ := List.mem_map.mp ha
    obtain ⟨y, hy, e⟩ := List.mem_map.mp hb
    have h1 := (g.frs z hz).1
    rw [← e, (m.frs y hy).2] at h1
    cases h1
/-- what was lent stands again as it was: all stands -/
theorem Lent.all (l : Lent Hm H fp) (f : Fr Hm H1 (fp ++ rest)) : Same H H1 := fun b x e => by
  by_cases hb : b ∈ fp.map (·.1)
  · obtain ⟨z, hz, rfl⟩ := List.mem_map.mp hb
    rw [(l.fr.frs z hz).2] at e
    cases e
    exact (f.frs z (List.mem_append_left _ hz)).2
  · exact f.same _ _ (l.rest b x e hb)
end
/-! the front of what is told: plain objects, then tails -/
section
variable {H0 H H1 Hm : Hp} {bpre pre bpre' new : List (Addr × HO)} {bts ts bts' : List (List (Addr × HO))}
theorem split_perm {α : Type} (a b : List α) (c d : List (List α)) : ((a ++ b) ++ (c ++ d).flatten).Perm ((a ++ c.flatten) ++ (b ++ d.flatten)) := by
  rw [List.flatten_append, List.append_assoc, List.append_assoc]
  refine List.Perm.append_left _ ?_
  rw [← List.append_assoc, ← List.append_assoc]
  exact List.Perm.append_right _ List.perm_append_comm
theorem Fr.split (f : Fr H0 H ((bpre ++ pre) ++ (bts ++ ts).flatten)) : Fr H0 H ((bpre ++ bts.flatten) ++ (pre ++ ts.flatten)) := f.perm (split_perm _ _ _ _)
theorem Fr.back2 (f : Fr H0 H ((bpre ++ bts.flatten) ++ (pre ++ ts.flatten))) (g : Fr (minus H ((bpre ++ bts.flatten).map (·.1))) H1 (bpre' ++ bts'.flatten)) : Fr H0 H1 ((bpre' ++ pre) ++ (bts' ++ ts).flatten) :=
  (f.back g).perm (split_perm _ _ _ _).symm
/-- new objects of a call that lends nothing -/
theorem Fr.comp2 (f : Fr H0 H (pre ++ ts.flatten)) (g : Fr H H1 (bpre' ++ bts'.flatten)) : Fr H0 H1 ((bpre' ++ pre) ++ (bts' ++ ts).flatten) :=
  (Fr.comp f g).perm (split_perm _ _ _ _).symm
end
theorem permS {α : Type} (X A R : List α) : (X ++ (A ++ R)).Perm (A ++ (X ++ R)) := by
  rw [← List.append_assoc, ← List.append_assoc A X R]; exact List.Perm.append_right _ List.perm_append_comm
/-! a riffle done: its tuple, marks, word -/
structure PE where
  t : Addr
  m : Addr
  w : Addr
  marks : List Bool
  word : List Int
def peRef (e : PE) : V := .ref e.t
def peOwn (e : PE) : List (Addr × HO) := [(e.t, .tup [.ref e.m, .ref e.w]), (e.m, .lst (e.marks.map V.bl)), (e.w, .lst (e.word.map V.int))]
def pesOwn (es : List PE) : List (Addr × HO) := es.flatMap peOwn
abbrev PC := List Bool × List Int
def peC (e : PE) : PC := (e.marks, e.word)
section
variable {H0 H H' H1 : Hp} {own pre : List (Addr × HO)} {ts : List (List (Addr × HO))} {T : List (Addr × HO)} {at_ am aw p : Addr} {marks : List Bool} {word : List Int} {es : List PE} {C : List PC}
theorem pesOwn_app (es es' : List PE) : pesOwn (es ++ es') = pesOwn es ++ pesOwn es' := by unfold pesOwn; rw [List.flatMap_append]
theorem pesOwn_one (e : PE) : pesOwn [e] = peOwn e := by unfold pesOwn; simp
/-- three own objects become the last riffle of the first tail -/
theorem Fr.padd (f : Fr H0 H ((at_, .tup [.ref am, .ref aw]) :: (am, .lst (marks.map V.bl)) :: (aw, .lst (word.map V.int)) :: (pre ++ (pesOwn es :: ts).flatten))) : Fr H0 H (pre ++ (pesOwn (es ++ [⟨at_, am, aw, marks, word⟩]) :: ts).flatten) := by
  refine f.perm ?_
  rw [pesOwn_app, pesOwn_one]
  show (peOwn ⟨at_, am, aw, marks, word⟩ ++ (pre ++ (pesOwn es ++ ts.flatten))).Perm (pre ++ ((pesOwn es ++ peOwn ⟨at_, am, aw, marks, word⟩) ++ ts.flatten))
  generalize peOwn ⟨at_, am, aw, marks, word⟩ = X
  generalize pesOwn es = Y
  rw [List.append_assoc Y X]
  refine (permS X pre _).trans (List.Perm.append_left _ ?_)
  exact permS X Y _
theorem Fr.pnew (f : Fr H0 H (pre ++ ts.flatten)) : Fr H0 H (pre ++ (pesOwn [] :: ts).flatten) := f
/-- the last riffle of the first tail is taken out -/
theorem Fr.ppop (f : Fr H0 H (pre ++ (pesOwn es :: ts).flatten)) (h : es ≠ []) :
    Fr H0 H (((es.getLast h).t, .tup [.ref (es.getLast h).m, .ref (es.getLast h).w]) :: ((es.getLast h).m, .lst ((es.getLast h).marks.map V.bl)) :: ((es.getLast h).w, .lst ((es.getLast h).word.map V.int)) :: (pre ++ (pesOwn es.dropLast :: ts).flatten)) := by
  have e : pesOwn es = pesOwn es.dropLast ++ peOwn (es.getLast h) := by
    rw [← pesOwn_one, ← pesOwn_app, List.dropLast_concat_getLast]
  refine f.perm ?_
  show (pre ++ (pesOwn es ++ ts.flatten)).Perm (peOwn (es.getLast h) ++ (pre ++ (pesOwn es.dropLast ++ ts.flatten)))
  rw [e]
  generalize peOwn (es.getLast h) = X
  generalize pesOwn es.dropLast = Y
  rw [List.append_assoc]
  refine (List.Perm.append_left pre (permS Y X _)).trans ?_
  exact permS pre X _
theorem pes_mem {e : PE} {z : Addr × HO} (he : e ∈ es) (hz : z ∈ peOwn e) : z ∈ pesOwn es := List.mem_flatMap.mpr ⟨e, he, hz⟩
/-- the riffles stand -/
def PesAt (H : Hp) (es : List PE) : Prop := ∀ z ∈ pesOwn es, H z.1 = some z.2
theorem PesAt.same (h : PesAt H es) (s : Same H H') : PesAt H' es := fun z hz => s _ _ (h z hz)
theorem PesAt.t {e : PE} (h : PesAt H es) (he : e ∈ es) : H e.t = some (.tup [.ref e.m, .ref e.w]) := h _ (pes_mem he List.mem_cons_self)
theorem PesAt.m {e : PE} (h : PesAt H es) (he : e ∈ es) : H e.m = some (.lst (e.marks.map V.bl)) := h _ (pes_mem he (List.mem_cons_of_mem _ List.mem_cons_self))
theorem PesAt.w {e : PE} (h : PesAt H es) (he : e ∈ es) : H e.w = some (.lst (e.word.map V.int)) := h _ (pes_mem he (List.mem_cons_of_mem _ (List.mem_cons_of_mem _ List.mem_cons_self)))
theorem Fr.pes (f : Fr H0 H (pre ++ ts.flatten)) (k : Nat) (h : ts[k]? = some (pesOwn es)) : PesAt H es := fun z hz =>
  f.mem (List.mem_append_right _ (List.mem_flatten.mpr ⟨_, List.mem_of_getElem? h, hz⟩))
theorem pc_len (h : es.map peC = C) : es.length = C.length := by rw [← h, List.length_map]
theorem pc_len2 (h : es.map peC = C) : (es.map peRef).length = C.length := by rw [List.length_map, pc_len h]
theorem pc_get {i : Nat} {e : PE} (h : es.map peC = C) (he : es[i]? = some e) : C[i]? = some (e.marks, e.word) := by subst h; rw [List.getElem?_map, he]; rfl
theorem pc_app (h : es.map peC = C) : (es ++ [(⟨at_, am, aw, marks, word⟩ : PE)]).map peC = C ++ [(marks, word)] := by rw [List.map_append, h]; rfl
theorem pc_pop (h : es.map peC = C) : es.dropLast.map peC = C.dropLast := by rw [← h, List.map_dropLast]
theorem pc_last (h : es.map peC = C) (hn : es ≠ []) (d : PC) : ((es.getLast hn).marks, (es.getLast hn).word) = C.getLastD d := by
  subst h
  rw [List.getLastD_eq_getLast?, List.getLast?_map, List.getLast?_eq_some_getLast hn]; rfl
theorem lst_pe_app : HO.lst (es.map peRef ++ [V.ref at_]) = .lst ((es ++ [(⟨at_, am, aw, marks, word⟩ : PE)]).map peRef) := by rw [List.map_append]; rfl
theorem lst_pe_pop : HO.lst ((es.map peRef).dropLast) = .lst (es.dropLast.map peRef) := by rw [List.map_dropLast]
/-- the place of a riffle, by a number -/
def peD (es : List PE) (i : Nat) : PE := es.getD i ⟨0, 0, 0, [], []⟩
theorem peD_mem {i : Nat} (h : i < es.length) : peD es i ∈ es := getD_mem h
theorem pc_at {i : Nat} (h : es.map peC = C) (hi : i < C.length) : (peD es i).marks = (C.getD i ([], [])).1 ∧ (peD es i).word = (C.getD i ([], [])).2 := by
  have hl : i < es.length := by rw [pc_len h]; exact hi
  subst h
  unfold peD
  simp [List.getD, hl, peC]
theorem atPe (h : es.map peC = C) {i : Int} (h0 : 0 ≤ i) (h1 : i < (C.length : Int)) : atI (es.map peRef) i = some (V.ref (peD es i.toNat).t) :=
  atD (f := peRef) ⟨0, 0, 0, [], []⟩ h0 (by rw [pc_len h]; exact h1)
theorem walkP {K : PySem.W.Frag} {a : Addr} (hc : es.map peC = C) : Walk (Itl K a) C.length (fun H => H a = some (.lst (es.map peRef))) (fun i H x H' => H' = H ∧ ∃ y : PE, es[i]? = some y ∧ C[i]? = some (y.marks, y.word) ∧ x = V.ref y.t) := by
  have w := walkL (K := K) (a := a) peRef es
  rw [pc_len hc] at w
  refine w.mono (fun _ h => h) fun i H x H' _ _ y => ?_
  obtain ⟨e, z, hz, hx⟩ := y
  exact ⟨e, z, hz, pc_get hc hz, hx⟩
/-- a pst from a call -/
structure PstAt (H : Hp) (a : Addr) (es : List PE) (C : List PC) : Prop where
  e : H a = some (.lst (es.map peRef))
  r : PesAt H es
  c : es.map peC = C
theorem PstAt.same {a : Addr} (h : PstAt H a es C) (s : Same H H') : PstAt H' a es C := ⟨s _ _ h.e, h.r.same s, h.c⟩
end
/-! a pack -/
def pkF (a b : Addr) : List (Str × V) := putF "past" (.ref b) (putF "cards" (.ref a) [])
theorem pk_ne : ¬ (("cards" : Str) = "past") := by decide +kernel
theorem pkF_eq (a b : Addr) : pkF a b = ([("cards", V.ref a), ("past", V.ref b)] : List (Str × V)) := by
  show (if ("cards" : Str) = "past" then [(("cards" : Str), V.ref b)] else (("cards" : Str), V.ref a) :: putF "past" (V.ref b) []) = _
  rw [if_neg pk_ne]; rfl
theorem pkF_cards (a b : Addr) : (pkF a b).lookup ("cards" : Str) = some (.ref a) := by
  unfold pkF; rw [lookup_putF, if_neg pk_ne, lookup_putF, if_pos rfl]
theorem pkF_past (a b : Addr) : (pkF a b).lookup ("past" : Str) = some (.ref b) := by
  unfold pkF; rw [lookup_putF, if_pos rfl]
theorem pkF_no (a b : Addr) {m : Str} (h1 : ¬ m = "past") (h2 : ¬ m = "cards") : (pkF a b).lookup m = none := by
  unfold pkF; rw [lookup_putF, if_neg h1, lookup_putF, if_neg h2]; rfl
theorem pkF_len (a b : Addr) : (pkF a b).length < 1000 := by rw [pkF_eq]; show 2 < 1000; decide
theorem pkF_put (a b c : Addr) : putF "cards" (.ref c) (pkF a b) = pkF c b := by
  rw [pkF_eq, pkF_eq]
  show (if ("cards" : Str) = "cards" then (("cards" : Str), V.ref c) :: [(("past" : Str), V.ref b)] else _) = _
  rw [if_pos rfl]
structure PK where
  dx : Addr
  a : Addr
  b : Addr
  es : List PE
  order : List Int
def PK.past (k : PK) : List PC := k.es.map peC
theorem pk_past (k : PK) : k.es.map peC = k.past := rfl
def pkOwn (C p : Addr) (k : PK) : List (Addr × HO) := [(p, .ins C k.dx (pkF k.a k.b)), (k.dx, .own p), (k.a, .lst (k.order.map V.int)), (k.b, .lst (k.es.map peRef))] ++ pesOwn k.es
/-- a pack that stands -/
def PkAt (C : Addr) (H : Hp) (p : Addr) (k : PK) : Prop := ∀ z ∈ pkOwn C p k, H z.1 = some z.2
section
variable {H0 H H' H1 : Hp} {pre : List (Addr × HO)} {ts : List (List (Addr × HO))} {C ap : Addr} {k : PK}
theorem PkAt.same (h : PkAt C H ap k) (s : Same H H') : PkAt C H' ap k := fun z hz => s _ _ (h z hz)
theorem PkAt.p (h : PkAt C H ap k) : H ap = some (.ins C k.dx (pkF k.a k.b)) := h _ List.mem_cons_self
theorem PkAt.a (h : PkAt C H ap k) : H k.a = some (.lst (k.order.map V.int)) := h _ (List.mem_cons_of_mem _ (List.mem_cons_of_mem _ List.mem_cons_self))
theorem PkAt.b (h : PkAt C H ap k) : H k.b = some (.lst (k.es.map peRef)) := h _ (List.mem_cons_of_mem _ (List.mem_cons_of_mem _ (List.mem_cons_of_mem _ List.mem_cons_self)))
theorem PkAt.es (h : PkAt C H ap k) : PesAt H k.es := fun z hz => h z (List.mem_append_right _ hz)
theorem PkAt.past (h : PkAt C H ap k) : PstAt H k.b k.es k.past := ⟨h.b, h.es, rfl⟩
theorem Fr.pk (f : Fr H0 H (pre ++ ts.flatten)) (j : Nat) (h : ts[j]? = some (pkOwn C ap k)) : PkAt C H ap k := fun z hz =>
  f.mem (List.mem_append_right _ (List.mem_flatten.mpr ⟨_, List.mem_of_getElem? h, hz⟩))
/-- a lent pack, opened -/
theorem Fr.pkopen (f : Fr H0 H (pre ++ (pkOwn C ap k :: ts).flatten)) :
    Fr H0 H (((ap, .ins C k.dx (pkF k.a k.b)) :: (k.dx, .own ap) :: (k.a, .lst (k.order.map V.int)) :: (k.b, .lst (k.es.map peRef)) :: pre) ++ (pesOwn k.es :: ts).flatten) := by
  refine f.perm ?_
  show (pre ++ ((([(ap, .ins C k.dx (pkF k.a k.b)), (k.dx, .own ap), (k.a, .lst (k.order.map V.int)), (k.b, .lst (k.es.map peRef))] : List (Addr × HO)) ++ pesOwn k.es) ++ ts.flatten)).Perm ((([(ap, .ins C k.dx (pkF k.a k.b)), (k.dx, .own ap), (k.a, .lst (k.order.map V.int)), (k.b, .lst (k.es.map peRef))] : List (Addr × HO)) ++ pre) ++ (pesOwn k.es ++ ts.flatten))
  generalize ([(ap, .ins C k.dx (pkF k.a k.b)), (k.dx, .own ap), (k.a, .lst (k.order.map V.int)), (k.b, .lst (k.es.map peRef))] : List (Addr × HO)) = X
  rw [List.append_assoc X, List.append_assoc X]
  exact permS pre X _
/-- a pack, closed -/
theorem Fr.pkclose {dx a b : Addr} {es : List PE} {order : List Int} (f : Fr H0 H (((ap, .ins C dx (pkF a b)) :: (dx, .own ap) :: (a, .lst (order.map V.int)) :: (b, .lst (es.map peRef)) :: pre) ++ (pesOwn es :: ts).flatten)) :
    Fr H0 H (pre ++ (pkOwn C ap ⟨dx, a, b, es, order⟩ :: ts).flatten) := by
  refine f.perm ?_
  show ((([(ap, .ins C dx (pkF a b)), (dx, .own ap), (a, .lst (order.map V.int)), (b, .lst (es.map peRef))] : List (Addr × HO)) ++ pre) ++ (pesOwn es ++ ts.flatten)).Perm (pre ++ ((([(ap, .ins C dx (pkF a b)), (dx, .own ap), (a, .lst (order.map V.int)), (b, .lst (es.map peRef))] : List (Addr × HO)) ++ pesOwn es) ++ ts.flatten))
  generalize ([(ap, .ins C dx (pkF a b)), (dx, .own ap), (a, .lst (order.map V.int)), (b, .lst (es.map peRef))] : List (Addr × HO)) = X
  rw [List.append_assoc X, List.append_assoc X]
  exact permS X pre _
end
end Rc
namespace Rc
open PySem PySem.Spec PyProof.Rows L2
section
variable {H0 H H1 Hm : Hp} {fp own : List (Addr × HO)} {bpre pre : List (Addr × HO)} {bts ts : List (List (Addr × HO))} {x dx : Addr} {o : HO} {es : List PE} {C : List PC}
theorem Lent.all0 (l : Lent Hm H fp) (f : Fr Hm H1 fp) : Same H H1 := l.all (rest := []) (by rw [List.append_nil]; exact f)
theorem Fr.unsplit (f : Fr H0 H ((bpre ++ bts.flatten) ++ (pre ++ ts.flatten))) : Fr H0 H ((bpre ++ pre) ++ (bts ++ ts).flatten) := f.perm (split_perm _ _ _ _).symm
theorem Fr.made (f : Fr H0 H own) (nx : H x = none) (ndx : H dx = none) (ne : dx ≠ x) : Fr H0 (upd (upd H dx (.own x)) x o) ((x, o) :: (dx, .own x) :: own) :=
  (f.new ndx).new (by rw [upd_ne (fun e => ne e.symm)]; exact nx)
theorem pc_ne (h : es.map peC = C) (hC : 0 < C.length) : es ≠ [] := fun z => by subst z; subst h; exact absurd hC (by decide)
theorem pe_last (h : es ≠ []) : (es.map peRef)[(es.map peRef).length - 1]? = some (V.ref (es.getLast h).t) := by
  rw [List.getElem?_map, List.length_map, ← List.getLast?_eq_getElem?, List.getLast?_eq_some_getLast h]; rfl
end
end Rc
namespace Rc
open PySem PySem.Spec PyProof.Rows L2
section
variable {β : Type} {g : β → HO} {H0 H : Hp} {pre : List (Addr × HO)} {ts : List (List (Addr × HO))} {rows : List (RO β)} {C : List β}
theorem tab_ne (h : rows.map (·.2) = C) (hC : 0 < C.length) : rows ≠ [] := fun z => by subst z; subst h; exact absurd hC (by simp)
theorem tab_last (h : rows ≠ []) : (rows.map rref)[(rows.map rref).length - 1]? = some (V.ref (rows.getLast h).1) := by
  rw [List.getElem?_map, List.length_map, ← List.getLast?_eq_getElem?, List.getLast?_eq_some_getLast h]; rfl
theorem lst_rref_pop : HO.lst ((rows.map rref).dropLast) = .lst (rows.dropLast.map rref) := by rw [List.map_dropLast]
theorem snd_pop (h : rows.map (·.2) = C) : rows.dropLast.map (·.2) = C.dropLast := by rw [← h, List.map_dropLast]
theorem Fr.rpop (f : Fr H0 H (pre ++ (rosOwn g rows :: ts).flatten)) (h : rows ≠ []) : Fr H0 H (((rows.getLast h).1, g (rows.getLast h).2) :: (pre ++ (rosOwn g rows.dropLast :: ts).flatten)) := by
  have e : rosOwn g rows = rosOwn g rows.dropLast ++ [((rows.getLast h).1, g (rows.getLast h).2)] := by
    unfold rosOwn
    conv => lhs; rw [← List.dropLast_concat_getLast h]
    rw [List.map_append]; rfl
  refine f.perm ?_
  show (pre ++ (rosOwn g rows ++ ts.flatten)).Perm (((rows.getLast h).1, g (rows.getLast h).2) :: (pre ++ (rosOwn g rows.dropLast ++ ts.flatten)))
  rw [e]
  generalize rosOwn g rows.dropLast = Y
  generalize ((rows.getLast h).1, g (rows.getLast h).2) = z
  rw [List.append_assoc]
  refine (List.Perm.append_left pre (permS Y [z] _)).trans ?_
  exact permS pre [z] _
theorem tab_getLast (h : rows.map (·.2) = C) (hn : rows ≠ []) (d : β) : (rows.getLast hn).2 = C.getLastD d := by
  subst h
  rw [List.getLastD_eq_getLast?, List.getLast?_map, List.getLast?_eq_some_getLast hn]; rfl
end
end Rc
namespace Rc
open PySem PySem.Spec PyProof.Rows L2
/-- a comprehension over a list, item by item -/
def unrc (K : PySem.W.Frag) (a D : Addr) (all : List V) (g : TG) (tt : TT) (te : TE) (vs : List Nat) (σ : L2.St) (Qd : Hp → Prop) : List V → Hp → Prop
  | [], H => SqL K H a all ∧ Qd H
  | x :: xs, H => SqL K H a all ∧ g x (wipe σ vs) H fun σ2 H2 => wipe σ2 vs = wipe σ vs ∧ tt σ2 H2 fun b H3 =>
      if b = true then te σ2 H3 fun y H4 => ∃ acc, H4 D = some (.lst acc) ∧ acc.length < sizeLine ∧ unrc K a D all g tt te vs σ Qd xs (upd H4 D (.lst (acc ++ [y]))) else unrc K a D all g tt te vs σ Qd xs H3
theorem lc_unr {K : PySem.W.Frag} {a D : Addr} {g : TG} {tt : TT} {te : TE} {vs : List Nat} {σ : L2.St} {H1 : Hp} {Qd : Hp → Prop} (all : List V) (h : unrc K a D all g tt te vs σ Qd all (upd H1 D (.lst []))) :
    ∃ W : Nat → Nat → Hp → Prop, (∃ m, W 0 m (upd H1 D (.lst []))) ∧ ∀ i m H, W i m H →
      ((Itl K a).stop i H ∧ Qd H) ∨ ((Itl K a).go i H ∧ ∃ Nx : Hp → Prop, (∀ H', Nx H' → ∃ m', m' < m ∧ W (i + 1) m' H') ∧ ∀ x H', (Itl K a).yld i H x H' → g x (wipe σ vs) H' fun σ2 H2 => wipe σ2 vs = wipe σ vs ∧ tt σ2 H2 fun b H3 =>
        if b = true then te σ2 H3 fun y H4 => ∃ acc, H4 D = some (.lst acc) ∧ acc.length < sizeLine ∧ Nx (upd H4 D (.lst (acc ++ [y]))) else Nx H3) := by
  refine lc_it (walk_list (xs := all)) (fun i H => unrc K a D all g tt te vs σ Qd (all.drop i) H) h (fun i H _ p => ?_) (fun i x H H' hi p y => ?_) (fun H p => ?_)
  · cases e : all.drop i with
    | nil => rw [e] at p; exact p.1
    | cons x xs => rw [e] at p; exact p.1
  · obtain ⟨rfl, hx⟩ := y
    have e : all.drop i = x :: all.drop (i + 1) := by
      rw [List.drop_eq_getElem_cons hi]
      congr 1
      rw [List.getElem?_eq_getElem hi] at hx
      exact Option.some.inj hx
    rw [e] at p
    exact p.2
  · rw [List.drop_length] at p
    exact p.2
/-! riffles that are scribbled over: no marks, a nine behind the word -/
def scr (e : PE) : PE := { e with marks := [], word := e.word ++ [9] }
def scrTo (es : List PE) (i : Nat) : List PE := (es.take i).map scr ++ es.drop i
section
variable {H0 H : Hp} {pre : List (Addr × HO)} {ts : List (List (Addr × HO))} {es : List PE} {i : Nat} {y : PE}
theorem scrTo_zero : scrTo es 0 = es := by unfold scrTo; rw [List.take_zero, List.map_nil, List.drop_zero]; rfl
theorem scrTo_get (h : es[i]? = some y) : (scrTo es i)[i]? = some y := by
  unfold scrTo
  have hi := (List.getElem?_eq_some_iff.mp h).1
  rw [List.getElem?_append_right (by rw [List.length_map, List.length_take]; omega), List.length_map, List.length_take, List.getElem?_drop]
  rw [show i + (i - min i es.length) = i by omega]; exact h
theorem scrTo_next (h : es[i]? = some y) : (scrTo es i).set i (scr y) = scrTo es (i + 1) := by
  have hi := (List.getElem?_eq_some_iff.mp h).1
  have hy := (List.getElem?_eq_some_iff.mp h).2
  unfold scrTo
  have hl : ((es.take i).map scr).length = i := by rw [List.length_map, List.length_take]; omega
  rw [List.set_append_right _ _ (by omega), hl, Nat.sub_self, List.drop_eq_getElem_cons hi, List.set_cons_zero, take_next h, List.map_append, List.append_assoc]
  rfl
theorem peOwn_split (h : es[i]? = some y) : (pesOwn es).Perm (peOwn y ++ pesOwn (es.eraseIdx i)) := by
  have p1 : es.Perm (y :: es.eraseIdx i) := getElem?_perm h
  unfold pesOwn
  exact (List.Perm.flatMap_right _ p1).trans (by rw [List.flatMap_cons])
theorem set_split {z : PE} (h : i < es.length) : (pesOwn (es.set i z)).Perm (peOwn z ++ pesOwn (es.eraseIdx i)) := by
  have h1 : (es.set i z)[i]? = some z := by simp [h]
  have e : (es.set i z).eraseIdx i = es.eraseIdx i := by
    rw [List.eraseIdx_eq_take_drop_succ, List.eraseIdx_eq_take_drop_succ, List.take_set, List.drop_set]
    rw [if_pos (by omega)]
    rw [List.set_eq_of_length_le (by rw [List.length_take]; omega)]
  have := peOwn_split h1
  rwa [e] at this
theorem Fr.psetm {ms : List Bool} (f : Fr H0 H (pre ++ (pesOwn es :: ts).flatten)) (h : es[i]? = some y) : Fr H0 (upd H y.m (.lst (ms.map V.bl))) (pre ++ (pesOwn (es.set i { y with marks := ms }) :: ts).flatten) := by
  have hi := (List.getElem?_eq_some_iff.mp h).1
  have f1 : Fr H0 H ((y.m, .lst (y.marks.map V.bl)) :: ((y.t, .tup [.ref y.m, .ref y.w]) :: (y.w, .lst (y.word.map V.int)) :: (pre ++ (pesOwn (es.eraseIdx i) ++ ts.flatten)))) := by
    refine f.perm ?_
    show (pre ++ (pesOwn es ++ ts.flatten)).Perm _
    refine (List.Perm.append_left pre (List.Perm.append_right _ (peOwn_split h))).trans ?_
    rw [List.append_assoc]
    refine (permS pre (peOwn y) _).trans ?_
    exact List.Perm.swap _ _ _
  refine (Fr.wr (o' := .lst (ms.map V.bl)) f1).perm ?_
  refine (List.Perm.swap _ _ _).trans ?_
  refine List.Perm.trans ?_ (List.Perm.append_left pre (List.Perm.append_right _ (set_split (z := { y with marks := ms }) hi))).symm
  rw [List.append_assoc]
  exact (permS pre (peOwn { y with marks := ms }) _).symm
theorem Fr.psetw {ws : List Int} (f : Fr H0 H (pre ++ (pesOwn es :: ts).flatten)) (h : es[i]? = some y) : Fr H0 (upd H y.w (.lst (ws.map V.int))) (pre ++ (pesOwn (es.set i { y with word := ws }) :: ts).flatten) := by
  have hi := (List.getElem?_eq_some_iff.mp h).1
  have f1 : Fr H0 H ((y.w, .lst (y.word.map V.int)) :: ((y.t, .tup [.ref y.m, .ref y.w]) :: (y.m, .lst (y.marks.map V.bl)) :: (pre ++ (pesOwn (es.eraseIdx i) ++ ts.flatten)))) := by
    refine f.perm ?_
    show (pre ++ (pesOwn es ++ ts.flatten)).Perm _
    refine (List.Perm.append_left pre (List.Perm.append_right _ (peOwn_split h))).trans ?_
    rw [List.append_assoc]
    refine (permS pre (peOwn y) _).trans ?_
    refine ((List.Perm.swap _ _ _).cons _).trans ?_
    exact List.Perm.swap _ _ _
  refine (Fr.wr (o' := .lst (ws.map V.int)) f1).perm ?_
  refine (List.Perm.swap _ _ _).trans ?_
  refine ((List.Perm.swap _ _ _).cons _).trans ?_
  refine List.Perm.trans ?_ (List.Perm.append_left pre (List.Perm.append_right _ (set_split (z := { y with word := ws }) hi))).symm
  rw [List.append_assoc]
  exact (permS pre (peOwn { y with word := ws }) _).symm
/-- one turn of the scribbling -/
theorem Fr.scr1 (f : Fr H0 H (pre ++ (pesOwn (scrTo es i) :: ts).flatten)) (h : es[i]? = some y) : Fr H0 (upd H y.m (.lst [])) (pre ++ (pesOwn ((scrTo es i).set i { y with marks := [] }) :: ts).flatten) := Fr.psetm (ms := []) f (scrTo_get h)
theorem scr1_get (h : es[i]? = some y) : ((scrTo es i).set i { y with marks := [] })[i]? = some { y with marks := [] } := by
  have hi := (List.getElem?_eq_some_iff.mp (scrTo_get h)).1
  simp [hi]
theorem Fr.scr2 (f : Fr H0 H (pre ++ (pesOwn ((scrTo es i).set i { y with marks := [] }) :: ts).flatten)) (h : es[i]? = some y) : Fr H0 (upd H y.w (.lst ((y.word ++ [9]).map V.int))) (pre ++ (pesOwn (scrTo es (i + 1)) :: ts).flatten) := by
  have e : ((scrTo es i).set i { y with marks := [] }).set i { ({ y with marks := [] } : PE) with word := y.word ++ [9] } = scrTo es (i + 1) := by
    rw [List.set_set, ← scrTo_next h]; rfl
  rw [← e]
  exact Fr.psetw (ws := y.word ++ [9]) f (scr1_get h)
theorem scr_at (f : Fr H0 H (pre ++ (pesOwn (scrTo es i) :: ts).flatten)) (h : es[i]? = some y) : H y.t = some (.tup [.ref y.m, .ref y.w]) ∧ H y.m = some (.lst (y.marks.map V.bl)) :=
  have p := Fr.pes (pre := pre) (ts := pesOwn (scrTo es i) :: ts) f 0 rfl
  ⟨p.t (List.mem_of_getElem? (scrTo_get h)), p.m (List.mem_of_getElem? (scrTo_get h))⟩
theorem scr_aw (f : Fr H0 H (pre ++ (pesOwn ((scrTo es i).set i { y with marks := [] }) :: ts).flatten)) (h : es[i]? = some y) : H y.w = some (.lst (y.word.map V.int)) :=
  PesAt.w (e := { y with marks := [] }) (Fr.pes (pre := pre) (ts := pesOwn ((scrTo es i).set i { y with marks := [] }) :: ts) f 0 rfl) (List.mem_of_getElem? (scr1_get h))
end
end Rc
namespace Rc
open PySem PySem.W PySem.Calls PyProof.Rows
/-! sorted(.., key=f): the call of f may leave new objects and other pending generators; the key may be a list.
J: what is kept of the state; Z: the addresses that nobody tells of -/
/-- the call f(x): what nobody tells of stays, the key is a new object -/
def KeyStay (J : Shared → Prop) (Kp : Addr → Prop) (k : PyData) (s₁ : Shared) (v : Value) (s₂ : Shared) : Prop :=
  J s₂ ∧ (∀ b o, Kp b → s₁.heap.get? b = some o → s₂.heap.get? b = some o) ∧ ∃ p o, v = .ref p ∧ Kp p ∧ s₁.heap.get? p = none ∧ s₂.heap.get? p = some o ∧ ∀ h' : Heap, h'.get? p = some o → ∃ as, Reads h' v k as
structure Keeps (J : Shared → Prop) (Kp Z : Addr → Prop) : Prop where
  zk : ∀ b, Z b → Kp b
  stay : ∀ (s' : Shared) (h : Heap) (tk : Nat) (ch : List Addr), J s' → (∀ c ∈ ch, Z c) → (∀ b o, b ∉ ch → s'.heap.get? b = some o → h.get? b = some o) → J { s' with heap := h, toks := tk }
  fresh : ∀ s', J s' → ∀ b, s'.heap.objs.size ≤ b → Z b
section
variable {prog : Program} {w : World} {A : Around} {E : Value → Shared → Prop} {s : Shared} {a kS : Addr} {b : Bool} {vs : List Value} {keys : Array Value} {e e1 : Nat} {P : PySem.Fin → Shared → Prop} {kz : List PyData} {J : Shared → Prop} {Kp Z : Addr → Prop}
/-- a key as it lies in the heap h -/
def KAt (Kp : Addr → Prop) (kS : Addr) (h : Heap) (v : Value) (k : PyData) : Prop := ∃ p o, v = .ref p ∧ Kp p ∧ p ≠ kS ∧ h.get? p = some o ∧ ∀ h' : Heap, h'.get? p = some o → ∃ as, Reads h' v k as
theorem keyK_rest {f : Value} (KJ : Keeps J Kp Z) (hJ : J s) (zk : Z kS) (za : Z a) (nk : s.heap.get? kS = some (seqObj "list" #[] 0)) (na : s.heap.get? a = some (seqObj "list" #[] e1)) (hka : kS ≠ a)
    (hlen : kz.length = vs.length) (hZ : vs.length ≤ sizeLine) (hal : AllAlike kz) (hsk : Sortable kz) (hu : ∀ d, d ∈ kz → A.units + d.depth < cLine)
    (turn : ∀ (i : Nat) (v : Value) (k : PyData), vs[i]? = some v → kz[i]? = some k → ∀ (s' : Shared), J s' →
      wpAny (model prog w) A (call f [v]) (KeyStay J Kp k s') (fun _ _ => False) s')
    (h : ∀ s' out c, J s' → s'.heap.get? a = some (seqObj "list" (List.toArray out) c) → KeyedOut b kz vs out → P (.done (.ret .none)) s') :
    wpAny (model prog w) A (ksk_rest a f b vs.toArray e1 (.ref kS)) P E s := by
  unfold ksk_rest
  refine wpAny_bind (wpAny_rule ?_)
  first
    | rw [List.forIn_toArray]
    | (rw [← Array.forIn_toList]; simp only [List.toList_toArray])
    | rw [← Array.forIn_toList]
  refine wpAny_bind (ksk_fold (fun i s' => ∃ kA e, J s' ∧ s'.heap.get? kS = some (seqObj "list" kA e) ∧ s'.heap.get? a = some (seqObj "list" #[] e1) ∧ EachIs (KAt Kp kS s'.heap) kA.toList (kz.take i)) vs 0 s
    ⟨#[], 0, hJ, nk, na, by rw [List.take_zero]; exact EachIs.nil⟩ ?step ?done)
  case step =>
    rintro j x s' hx ⟨kA, e, hj', nk', na', hk⟩
    simp only [Nat.zero_add] at hk ⊢
    have hj : j < vs.length := (List.getElem?_eq_some_iff.mp hx).1
    obtain ⟨k, hkj⟩ : ∃ k, kz[j]? = some k := ⟨_, List.getElem?_eq_getElem (by omega)⟩
    have hz : kA.size ≤ vs.length := by
      have h1 := hk.length
      rw [Array.length_toList, List.length_take] at h1
      omega
    refine wpAny_bind (wpAny_attempt (wpAny_mono (turn j x k hx hkj s' hj') (fun v s'' he => ?_) fun _ _ hF => hF.elim))
    obtain ⟨hj2, hg, p, o, rfl, zp, np, ep, hr⟩ := he
    try dsimp only
    have nk2 : s''.heap.get? kS = some (seqObj "list" kA e) := hg _ _ (KJ.zk _ zk) nk'
    have na2 : s''.heap.get? a = some (seqObj "list" #[] e1) := hg _ _ (KJ.zk _ za) na'
    have hpS : p ≠ kS := fun z => by
      rw [z, nk'] at np
      cases np
    have s1 := Heap.SameBut.update s''.heap kS (Obj.mapSeq (·.push (.ref p)))
    obtain ⟨c2, hc2⟩ : ∃ c2, (s''.heap.update kS (Obj.mapSeq (·.push (.ref p)))).get? kS = some (seqObj "list" (kA.push (.ref p)) c2) := ⟨_, get?_update_seq nk2 (·.push (.ref p))⟩
    have ek : kz.take (j + 1) = kz.take j ++ [k] := by rw [List.take_add_one, hkj]; simp
    have ea : (kA.push (.ref p)).toList = kA.toList ++ [.ref p] := by simp
    refine wpAny_bind (listUpdate_at nk2 rfl ?_ (Nat.le_trans hz hZ) (Nat.le_trans (Nat.le_of_eq (Array.size_push ..)) (Nat.succ_le_succ (Nat.le_trans hz hZ))))
    refine wpAny_pure ⟨rfl, kA.push (.ref p), c2, KJ.stay s'' _ s''.toks [kS] hj2 (fun c hc => by rw [List.mem_singleton.mp hc]; exact zk) (fun b o hb q => (s1.2 b fun z => hb (by rw [z]; exact List.mem_singleton.mpr rfl)).trans q), hc2, (s1.2 a hka.symm).trans na2, ?_⟩
    rw [ea, ek]
    refine each_snoc (R := KAt Kp kS (s''.heap.update kS (Obj.mapSeq (·.push (.ref p))))) ⟨p, o, rfl, zp, hpS, (s1.2 p hpS).trans ep, hr⟩ ?_
    exact hk.mono fun u d ⟨p', o', e1', z', n', e2', r'⟩ => ⟨p', o', e1', z', n', (s1.2 p' n').trans (hg _ _ z' e2'), r'⟩
  case done =>
    rintro s' ⟨kA, e, hj', nk', na', hk⟩
    have hk' : EachIs (fun v k => ∃ as, Reads s'.heap v k as) kA.toList kz := by
      have e3 : kz.take (0 + vs.length) = kz := List.take_of_length_le (by omega)
      rw [e3] at hk
      exact hk.mono fun v k ⟨p, o, e1, _, _, e2, r⟩ => r _ e2
    have hsz : kA.size = vs.length := by
      have h1 := hk'.length
      rw [Array.length_toList] at h1
      omega
    try dsimp only
    refine wpAny_bind (listItems_at nk' rfl ?_)
    exact keyH_end (κ := dataKind s'.heap kz) (h₁ := hideAll s'.heap [kS]) (fun b o _ q => of_hideAll _ q) (hideAll_none _ (List.mem_singleton.mpr rfl)) nk' na' hka (SortsAt.data (s := s') hk' hal hsk hu) hsz hZ fun h3 tk3 c k3 n3 =>
      h { s' with heap := h3, toks := tk3 } _ c (KJ.stay s' h3 tk3 [kS, a] hj' (fun c hc => by
        rcases List.mem_cons.mp hc with z | z
        · rw [z]; exact zk
        · rw [List.mem_singleton.mp z]; exact za) (fun b o hb q => k3 b o (fun z => hb (by rw [z]; simp)) (hideAll_get _ q fun z => hb (by rw [List.mem_singleton.mp z]; simp)))) n3 ⟨s'.heap, kA.toList, hal, rfl, hk'⟩
theorem keyK_tree {f : Value} {n : Nat} (KJ : Keeps J Kp Z) (hJ : J s) (za : Z a) (ho : s.heap.get? a = some (seqObj "list" vs.toArray n)) (hlen : kz.length = vs.length) (hZ : vs.length ≤ sizeLine) (hal : AllAlike kz) (hsk : Sortable kz) (hu : ∀ d, d ∈ kz → A.units + d.depth < cLine)
    (turn : ∀ (i : Nat) (v : Value) (k : PyData), vs[i]? = some v → kz[i]? = some k → ∀ (s' : Shared), J s' →
      wpAny (model prog w) A (call f [v]) (KeyStay J Kp k s') (fun _ _ => False) s')
    (h : ∀ s' out c, J s' → s'.heap.get? a = some (seqObj "list" (List.toArray out) c) → KeyedOut b kz vs out → P (.done (.ret .none)) s') :
    wpAny (model prog w) A (ksk_tree a f b) P E s := by
  have ha : a < s.heap.objs.size := Heap.lt_size ho
  obtain ⟨e1, ho1⟩ : ∃ e1, (s.heap.update a (Obj.mapSeq fun _ => (#[] : Array Value))).get? a = some (seqObj "list" #[] e1) := ⟨_, get?_update_seq ho fun _ => #[]⟩
  have hkS : ((s.heap.update a (Obj.mapSeq fun _ => (#[] : Array Value))).push (seqObj "tuple" vs.toArray 0)).objs.size = s.heap.objs.size + 1 := by rw [size_push', Heap.size_update]
  unfold ksk_tree
  refine wpAny_bind (listItems_at ho rfl ?_)
  refine wpAny_bind (listUpdate_at ho rfl ?_ (by rw [List.size_toArray]; exact hZ) (Nat.zero_le _))
  refine wpAny_bind (seqEpoch_at ho1 rfl ?_)
  refine wpAny_bind (wpAny_newTuple ?_ (by show vs.length ≤ _; exact hZ))
  refine wpAny_bind (wpAny_newList ?_ (Nat.zero_le _))
  refine wpAny_holding ?_
  have kp : KeepsBut a s.heap (sortingHeap s.heap a vs) := fun b o hb q => sortingHeap_old hb q
  refine keyK_rest (kz := kz) (s := { s with heap := ((s.heap.update a (Obj.mapSeq fun _ => (#[] : Array Value))).push (seqObj "tuple" vs.toArray 0)).push (seqObj "list" #[] 0) }) (kS := ((s.heap.update a (Obj.mapSeq fun _ => (#[] : Array Value))).push (seqObj "tuple" vs.toArray 0)).objs.size)
    KJ (KJ.stay s _ s.toks [a] hJ (fun c hc => by rw [List.mem_singleton.mp hc]; exact za) (fun b o hb q => kp b o (fun z => hb (by rw [z]; exact List.mem_singleton.mpr rfl)) q)) (KJ.fresh s hJ _ (by rw [hkS]; exact Nat.le_succ _)) za (Heap.get?_push_size _ rfl) (Heap.get?_push_of_some _ (Heap.get?_push_of_some _ ho1)) (by rw [hkS]; exact Nat.ne_of_gt (Nat.lt_succ_of_lt ha)) hlen hZ hal hsk hu turn h
end
section
variable {prog : Program} {w : World} {A : Around} {E : Value → Shared → Prop} {s : Shared} {β : Type} {vs : List Value} {bs : List β} {R : Value → β → Prop} {J : Shared → Prop} {Kp Z : Addr → Prop}
theorem keyK_turns {f : Value} {k : β → PyData} (e : EachIs R vs bs)
    (turn : ∀ (v : Value) (x : β), R v x → x ∈ bs → ∀ (s' : Shared), J s' → wpAny (model prog w) A (call f [v]) (KeyStay J Kp (k x) s') (fun _ _ => False) s') :
    ∀ (i : Nat) (v : Value) (d : PyData), vs[i]? = some v → (bs.map k)[i]? = some d → ∀ (s' : Shared), J s' →
      wpAny (model prog w) A (call f [v]) (KeyStay J Kp d s') (fun _ _ => False) s' := by
  intro i v d hv hd s' hj
  rw [List.getElem?_map] at hd
  cases q : bs[i]? with
  | none => rw [q] at hd; simp at hd
  | some x =>
    rw [q] at hd
    have hd' : some (k x) = some d := hd
    rw [← Option.some.inj hd']
    have hz : (v, x) ∈ vs.zip bs := List.mem_of_getElem? (i := i) (by rw [List.getElem?_zip_eq_some]; exact ⟨hv, q⟩)
    exact turn v x (e.zip _ hz) (List.mem_of_getElem? q) s' hj
/-- sorted(src, key=f), where src's items are vs -/
theorem sortedK_at {src : Addr} {f : Value} {kw : List (Str × Value)} {b : Bool} {Q : Value → Shared → Prop} (k : β → PyData) (KJ : Keeps J Kp Z) (hJ : J s) (hal : AllAlike (bs.map k)) (hk : Sortable (bs.map k)) (hL : bs.length ≤ sizeLine)
    (hu : ∀ x, x ∈ bs → A.units + 2 + (k x).depth < cLine) (ha1 : argsOk "sorted" ⟨[.ref src], kw⟩) (ha2 : ∀ x, argsOk "list.sort" ⟨[.ref x], kw⟩) (ht : ∀ x, Builtin.«list.sort» ⟨[.ref x], kw⟩ = ksk_tree x f b)
    (hcol : ∀ (Q' : List Value → Shared → Prop) (E' : Value → Shared → Prop), (∀ h' tk vs, (∀ b o, s.heap.get? b = some o → h'.get? b = some o) → EachIs R vs bs → Q' vs { s with heap := h', toks := tk }) → wpAny (model prog w) A.in1 (collect (.ref src)) Q' E' s)
    (turn : ∀ (v : Value) (x : β), R v x → x ∈ bs → ∀ (s' : Shared), J s' →
      wpAny (model prog w) A.in1.in1 (call f [v]) (KeyStay J Kp (k x) s') (fun _ _ => False) s')
    (h : ∀ out c p s', J s' → Z p → (∀ o, s.heap.get? p ≠ some o) → s'.heap.get? p = some (seqObj "list" (List.toArray out) c) → out.length = bs.length → EachIs R out (bs.mergeSort (dataLe b k)) → Q (.ref p) s') :
    wpAny (model prog w) A (call (.builtin "sorted") [.ref src] kw) Q E s := by
  refine call_function_entry_kw kind_sorted plain_sorted entry_sorted ha1 ?_
  unfold Builtin.«sorted»
  refine wpAny_bind (m := checkCount "sorted" 1 1 _) (wpAny_pure ?_)
  refine wpAny_bind (hcol _ _ fun h1 tk1 vs k1 e => ?_)
  have hvl : vs.length ≤ sizeLine := by rw [e.length]; exact hL
  refine wpAny_bind (wpAny_newList ?_ hvl)
  have k2 : ∀ b o, s.heap.get? b = some o → (h1.push (seqObj "list" vs.toArray 0)).get? b = some o := fun b o q => Heap.get?_push_of_some _ (k1 b o q)
  have at1 : (h1.push (seqObj "list" vs.toArray 0)).get? h1.objs.size = some (seqObj "list" vs.toArray 0) := Heap.get?_push_size _ rfl
  have J1 : J { s with heap := h1, toks := tk1 } := KJ.stay s h1 tk1 [] hJ (fun c hc => by cases hc) fun b o _ q => k1 b o q
  have za : Z h1.objs.size := KJ.fresh _ J1 _ (Nat.le_refl _)
  have J2 : J { s with heap := h1.push (seqObj "list" vs.toArray 0), toks := tk1 } := KJ.stay s _ tk1 [] hJ (fun c hc => by cases hc) fun b o _ q => k2 b o q
  show wpAny _ _ _ _ _ { s with heap := h1.push (seqObj "list" vs.toArray 0), toks := tk1 }
  refine wpAny_bind (wpAny_holding (wpAny_call_entry_kw slot_list_sort ⟨_, at1, rfl⟩ entry_list_sort ?body (ha2 _)))
  case body =>
    show wpAny (model prog w) A.in1.in1 (Builtin.«list.sort» ⟨[.ref h1.objs.size], kw⟩) _ _ _
    rw [ht]
    refine keyK_tree (kz := bs.map k) (s := { s with heap := h1.push (seqObj "list" vs.toArray 0), toks := tk1 }) KJ J2 za at1 (by rw [List.length_map]; exact e.length.symm) hvl hal hk (bound_map (A := A.in1.in1) hu)
      (keyK_turns e fun v x hR hx s' hj => turn v x hR hx s' hj) fun s' out c hj hD ko => ?_
    exact ⟨_, rfl, wpAny_pure ⟨_, rfl, h out c _ s' hj za (fun o q => Nat.lt_irrefl _ (Heap.lt_size (k1 _ _ q))) hD ((ko.length (by rw [List.length_map]; exact e.length.symm)).trans e.length) (keyedOut_each k ko e)⟩⟩
end
/-! the call of a lambda with one parameter, its captured names lists -/
open L2 LamX
structure LamP (sc scope : Scope) (x : Str) : Prop where
  kind : scope.kind = .function
  co : scope.isCoroutine = false
  gen : scope.isGenerator = false
  own : ∀ y ∈ scope.names, y.2 ≠ .cell ∧ (y.2 = .local → y.1 = x)
  par : scope.names.lookup x = some .local
  free : ∀ y ∈ scope.names, y.2 = .free → sc.names.lookup y.1 = some .cell ∨ sc.names.lookup y.1 = some .free
def lamPB (sc scope : Scope) (x : Str) : Bool :=
  decide (scope.kind = .function) && !scope.isCoroutine && !scope.isGenerator && decide (scope.names.lookup x = some .local) && scope.names.all fun y => !decide (y.2 = .cell) && (!decide (y.2 = .local) || decide (y.1 = x)) && (!decide (y.2 = .free) || decide (sc.names.lookup y.1 = some .cell) || decide (sc.names.lookup y.1 = some .free))
theorem lamP_by {sc scope : Scope} {x : Str} (h : lamPB sc scope x = true) : LamP sc scope x := by
  unfold lamPB at h
  simp only [Bool.and_eq_true, Bool.or_eq_true, Bool.not_eq_true', decide_eq_true_eq, decide_eq_false_iff_not, List.all_eq_true] at h
  obtain ⟨⟨⟨⟨h1, h2⟩, h3⟩, h5⟩, h4⟩ := h
  refine ⟨h1, h2, h3, fun y hy => ⟨(h4 y hy).1.1, fun e => ?_⟩, h5, fun y hy e => ?_⟩
  · rcases (h4 y hy).1.2 with z | z
    · exact absurd e z
    · exact z
  · rcases (h4 y hy).2 with (z | z) | z
    · exact absurd e z
    · exact .inl z
    · exact .inr z
theorem LamP.has {X : Cx} {scope : Scope} {x : Str} (L : LamP X.env.scope scope x) (ok : X.Ok) : ∀ y ∈ scope.names, y.2 = .free → ∃ c, X.env.cells.lookup y.1 = some c := fun y hy e => by
  rcases L.free y hy e with k | k
  · exact ok.has _ (.inl k)
  · exact ok.has _ (.inr k)
/-- the context of the lambda's body -/
def lamCxN (X : Cx) (A : Around) (outer : List Env) (s : Shared) (H : Hp) (E : XK) (scope : Scope) (f c' : Addr) (N : List Str) : Cx where
  prog := X.prog
  w := X.w
  K := X.K
  mg := X.mg
  base := X.base
  A := A.deeper (lamEnv X scope s.heap.objs.size f c')
  N := N
  s_0 := s
  H_0 := H
  env := lamEnv X scope s.heap.objs.size f c'
  outer := outer
  stack := lamEnv X scope s.heap.objs.size f c' :: outer
  ex := []
  fn := fun _ => false
  calm := true
  pn := []
  xe := fun e s' => wpAny (model X.prog X.w) (A.deeper (lamEnv X scope s.heap.objs.size f c')) (leaving (lamEnv X scope s.heap.objs.size f c') e) (fun _ s'' => L2.CX X.prog X.w outer H s E e s'') (fun e' s'' => L2.CX X.prog X.w outer H s E e' s'') s'
/-- the parameter and the captured names that the body reads, as the lambda's own slots -/
def LamSl (X : Cx) (σ : L2.St) (x : Str) (v0 : V) (N' : List Str) (σ' : L2.St) : Prop := σ'.length = N'.length ∧
  ∀ (i : Nat) (y : Str) (v : V), N'[i]? = some y → σ'[i]? = some (some v) → (y = x ∧ v = v0) ∨ (y ≠ x ∧ ∃ j : Nat, X.N[j]? = some y ∧ σ[j]? = some (some v))
section
variable {X : Cx} {pins : List (Addr × Obj)} {σ σ' : L2.St} {H HZ : Hp} {s : Shared}
theorem lam_startP {A : Around} {outer : List Env} {E : XK} {scope : Scope} {f c' : Addr} {h₁ : Heap} {tk : Nat} {x : Str} {u : Value} {v0 : V} {N' : List Str} (I : Inv X pins σ H s) (L : LamP X.env.scope scope x) (sub : ∀ b, H b = none → HZ b = none) (e0 : Env0 X.prog X.w X.K X.mg X.base A outer s HZ) (hd : A.handled = none)
    (hns : h₁.Ns s.heap.objs.size fun y => ([(x, u)] : List (Str × Value)).reverse.lookup y) (kp : ∀ b o, s.heap.get? b = some o → h₁.get? b = some o) (rv : RelV v0 u) (hσ : LamSl X σ x v0 N' σ') :
    Inv (lamCxN X A outer s HZ E scope f c' N') [] σ' HZ { s with heap := h₁, toks := tk } := by
  have hfree := L.has I.ok
  have cm : ∀ {y c}, (cloFrom X.env.cells scope.names []).lookup y = some c → X.env.cells.lookup y = some c := fun {y c} e => by
    rcases cloFrom_mem (PySem.mem_of_lookup e) with hm | ⟨h1, h2⟩
    · cases hm
    · obtain ⟨c1, hc⟩ := hfree _ h1 rfl
      have hc : X.env.cells.lookup y = some c1 := hc
      have e2 : c = c1 := by
        rw [h2, hc] <;> rfl
      rw [e2]
      exact hc
  have look : ∀ {y}, scope.names.lookup y = some .free → ∃ c, (cloFrom X.env.cells scope.names []).lookup y = some c := fun {y} hl => by
    have hy : (y, NameKind.free) ∈ scope.names := PySem.mem_of_lookup hl
    exact mem_lookup (cloFrom_has (cells := X.env.cells) (acc := []) hy)
  have cellK : ∀ {c : Addr} {v : Option Value}, s.heap.IsCell c v → h₁.IsCell c v := fun {c v} ⟨o, ho, hd⟩ => ⟨o, kp _ _ ho, hd⟩
  have noA : ∀ b : Addr, b ∉ (lamCxN X A outer s HZ E scope f c' N').ex := fun b z => absurd (show b ∈ ([] : List Addr) from z) (by simp)
  refine ⟨⟨e0.mod, L.kind, rfl, rfl, Nat.le_refl _, fun y z c e1 e2 => I.ok.inj y z c (cm e1) (cm e2), fun y hy => ?_, fun y c z _ => ?_, fun _ => hd, Around.frames_deeper e0.frames, .inr ⟨rfl, rfl⟩, fun b z => absurd z (noA b), e0.bs, e0.bsz, fun b _ _ => noA b,
      fun b z => absurd z (noA b), e0.funs, e0.frf⟩,
    rfl, e0.bare, Un.kept kp, ⟨_, hns, fun i y v e1 e2 e3 => ?_⟩, fun y c e => ?_, e0.hok.fresh (Nat.le_refl _), fun y c e => ?_, fun q hq => absurd (show q ∈ ([] : List (Addr × Obj)) ++ [] from hq) (by simp), e0.hok.kept kp, hσ.1⟩
  · have hy : scope.names.lookup y = some .cell ∨ scope.names.lookup y = some .free := hy
    rcases hy with hy | hy
    · exact absurd rfl (L.own _ (PySem.mem_of_lookup hy)).1
    · exact look hy
  · have z : false = true := z
    cases z
  · have e3 : Vis scope y := e3
    rcases hσ.2 i y v e1 e2 with ⟨rfl, rfl⟩ | ⟨hne, j, j1, j2⟩
    · exact ⟨u, rv, .inl ⟨L.par, by simp⟩⟩
    rcases e3 with k | k | k
    · exact absurd ((L.own _ (PySem.mem_of_lookup k)).2 rfl) hne
    · exact absurd rfl (L.own _ (PySem.mem_of_lookup k)).1
    · obtain ⟨m, hn, hl⟩ := I.loc
      have hvis : Vis X.env.scope y := (L.free _ (PySem.mem_of_lookup k) rfl).elim (fun k => .inr (.inl k)) (fun k => .inr (.inr k))
      obtain ⟨w', r, q⟩ := hl j y v j1 j2 hvis
      obtain ⟨c2, h2⟩ := look k
      refine ⟨w', r, .inr ⟨.inr k, c2, h2, ?_⟩⟩
      have c1 := cm h2
      rcases q with ⟨k', _⟩ | ⟨_, c3, e', z⟩
      · have k' : X.env.scope.names.lookup y = some .local := k'
        rcases L.free _ (PySem.mem_of_lookup k) rfl with k2 | k2 <;> rw [show X.env.scope.names.lookup y = _ from k2] at k' <;> cases k'
      · rw [c1] at e'
        cases e'
        exact cellK z
  · obtain ⟨w', z⟩ := I.cell y c (cm e)
    exact ⟨w', cellK z⟩
  · exact sub _ (I.freeC y c (cm e))
/-- a key that is told: a tuple, a list of ints -/
def KeyO (o : HO) (kd : PyData) : Prop := ∃ ns : List Int, (o = .tup (ns.map V.int) ∧ kd = .tuple (ns.map .int)) ∨ (o = .lst (ns.map V.int) ∧ kd = .list (ns.map .int))
theorem readsAll_ints {h : Heap} : ∀ {its : List Value} {ns : List Int}, Vals (ns.map V.int) its → ReadsAll h its (ns.map .int) []
  | its, [], r => by
    cases r
    exact .nil
  | its, n :: ns, r => by
    cases r with
    | cons r1 r2 =>
      obtain ⟨t, rfl⟩ := r1
      exact .cons (as := []) (bs := []) (.int n t) (readsAll_ints r2)
theorem KeyO.at {P : Program} {w : World} {h : Heap} {p : Addr} {o : HO} {kd : PyData} (k : KeyO o kd) (ok : ObjOk P w H h p o) : ∃ ob, h.get? p = some ob ∧ ∀ h' : Heap, h'.get? p = some ob → ∃ as, Reads h' (.ref p) kd as := by
  obtain ⟨ns, ⟨rfl, rfl⟩ | ⟨rfl, rfl⟩⟩ := k
  · obtain ⟨_, its, r, ob, e1, e2, n, e3⟩ := ok
    exact ⟨ob, e1, fun h' e => ⟨[], .tuple e e2 e3 (by rw [List.toList_toArray]; exact readsAll_ints r)⟩⟩
  · obtain ⟨_, its, n, r, e1⟩ := ok
    exact ⟨_, e1, fun h' e => ⟨[p], .list e rfl rfl (by rw [List.toList_toArray]; exact readsAll_ints r)⟩⟩
theorem objOk_ex {P : Program} {w : World} {H : Hp} {h : Heap} {a : Addr} {o : HO} (x : ObjOk P w H h a o) : ∃ ob, h.get? a = some ob := by
  cases o with
  | lst xs => obtain ⟨_, _, _, _, e⟩ := x; exact ⟨_, e⟩
  | tup xs => obtain ⟨_, _, _, o, e, _⟩ := x; exact ⟨_, e⟩
  | dK kvs => obtain ⟨_, _, _, _, o, _, _, e, _⟩ := x; exact ⟨_, e⟩
  | dT kvs => obtain ⟨_, _, _, _, o, _, _, e, _⟩ := x; exact ⟨_, e⟩
  | set S n => obtain ⟨o, _, _, _, e, _⟩ := x; exact ⟨_, e⟩
  | ins C dx fs => obtain ⟨_, _, _, e, _⟩ := x; exact ⟨_, e⟩
  | own y => obtain ⟨_, e⟩ := x; exact ⟨_, e⟩
  | xd fs => obtain ⟨_, ⟨_, _, _, e, _⟩, _⟩ := x; exact ⟨_, e⟩
  | rng lo hi => obtain ⟨_, _, _, e⟩ := x; exact ⟨_, e⟩
  | frz ob u => obtain ⟨e, _⟩ := x; exact ⟨_, e⟩
  | tbl ps => exact ⟨_, (show h.get? a = some _ from x)⟩
  | met f y => exact ⟨_, (show h.get? a = some _ from x)⟩
  | ext φ => obtain ⟨_, ⟨_, e⟩, _⟩ := x; exact ⟨_, e⟩
theorem noCX {P : Program} {w : World} {outer : List Env} {e : Value} {s' : Shared} (z : L2.CX P w outer H s (fun _ _ _ => False) e s') : False := by
  obtain ⟨_, _, _, _, _, _, _, _, _, _, _, _, _, _, _, _, z⟩ := z
theorem rec_fr {b : Addr} (I : Inv X pins σ H s) (hb : s.heap.objs.size ≤ b) : b ∉ frs X.stack := fun hb' => by
  rcases List.mem_cons.mp (I.stkSub b hb') with e | e
  · exact absurd e (Nat.ne_of_gt (Nat.lt_of_lt_of_le I.lt hb))
  · exact I.nofs hb e
/-- the function object f and all that the def tells stand -/
def LamJ (X : Cx) (pins : List (Addr × Obj)) (σ : L2.St) (H : Hp) (f : Addr) (fo : Obj) (s' : Shared) : Prop := Inv X pins σ H s' ∧ s'.heap.get? f = some fo
def LamK (X : Cx) (H : Hp) (b : Addr) : Prop := H b = none ∧ b ∉ frs X.stack
def LamZ (X : Cx) (pins : List (Addr × Obj)) (H : Hp) (f b : Addr) : Prop := FpOk X pins H b ∧ b ∉ frs X.stack ∧ b ≠ f
theorem lam_keeps {f : Addr} {fo : Obj} : Keeps (LamJ X pins σ H f fo) (LamK X H) (LamZ X pins H f) where
  zk := fun b z => ⟨z.1.1, z.2.1⟩
  stay := fun s' h tk ch hj hz k => ⟨hj.1.turnedL k fun b hb => (hz b hb).1, k _ _ (fun z => (hz _ z).2.2 rfl) hj.2⟩
  fresh := fun s' hj b hb => ⟨hj.1.fpOk hb (hj.1.hok.fresh hb), (Rc.rec_fr hj.1 hb), fun z => by
    have := Heap.lt_size hj.2
    rw [← z] at this
    exact Nat.lt_irrefl _ (Nat.lt_of_lt_of_le this hb)⟩
/-- what the lambda's body is to give: what it saw stands, a key is new -/
def KeyQ (HZ : Hp) (kd : PyData) : VK := fun v H' => (∀ b o, HZ b = some o → H' b = some o) ∧ ∃ p o, v = .ref p ∧ HZ p = none ∧ H' p = some o ∧ KeyO o kd
theorem lam_turn {A : Around} {k : Nat} {f c' : Addr} {params : Arguments} {body : Expr} {scope : Scope} {pm ctv : Value} {x : Str} {u : Value} {v0 : V} {N' : List Str} {tb : TE} {kd : PyData} (I : Inv X pins σ H s) (L : LamP X.env.scope scope x)
    (hf : s.heap.get? f = some (PySem.W.kla_obj "<lambda>" (X.env.qual ++ "<lambda>") params body scope (cloFrom X.env.cells scope.names []) pm c' ctv)) (hfn : H f = none) (hfr : f ∉ frs X.stack) (hco : H c' = some (CodeO c' (X.env.qual ++ "<lambda>")))
    (hbind : bindArgs (PySem.W.kla_fn "<lambda>" (X.env.qual ++ "<lambda>") params body scope (cloFrom X.env.cells scope.names []) pm (.ref c') ctv) ⟨[u], []⟩ = pure [(x, u)])
    (hr : Room (k + 1) A) (hA : A.frames = some X.stack) (rv : RelV v0 u) (hσ : LamSl X σ x v0 N' σ') (hs : ∀ b o, HZ b = some o → H b = some o ∧ ∃ xs, o = .lst xs)
    (hbody : ∀ (A : Around) (outer : List Env) (s : Shared) (H : Hp) (E : XK) (f c' : Addr), Room k (A.deeper (lamEnv X scope s.heap.objs.size f c')) → L2.PE (lamCxN X A outer s H E scope f c' N') body tb)
    (ht : tb σ' HZ (KeyQ HZ kd)) :
    wpAny (model X.prog X.w) A (call (.ref f) [u]) (KeyStay (LamJ X pins σ H f (PySem.W.kla_obj "<lambda>" (X.env.qual ++ "<lambda>") params body scope (cloFrom X.env.cells scope.names []) pm c' ctv)) (LamK X H) kd s) (fun _ _ => False) s := by
  have sub : ∀ b, H b = none → HZ b = none := fun b n => by
    cases q : HZ b with
    | none => rfl
    | some o =>
      rw [(hs b o q).1] at n
      cases n
  have e0 : Env0 X.prog X.w X.K X.mg X.base A X.stack s HZ := by
    have e := I.env0
    refine ⟨hA, e.mod, fun b o q => ⟨(e.bs b o q).1, sub _ (e.bs b o q).2⟩, e.bsz, e.funs, fun b hb => sub _ (e.frf b hb), fun b o q => ?_, e.bare⟩
    obtain ⟨q1, xs, rfl⟩ := hs b o q
    exact I.hok b _ q1
  obtain ⟨⟨oc, vs, t, hoc, hdc, hvc⟩, _, _⟩ := I.hok c' _ hco
  have rc : codeAny (model X.prog X.w) A (.call (.ref f) ⟨[u], []⟩) (CR (L2.CX X.prog X.w) X.stack X.prog X.w HZ s (KeyQ HZ kd) (fun _ _ _ => False)) s := by
    refine PySem.W.kla_callFunE hr.depth hf rfl L.co L.gen rfl ⟨c', oc, vs, t, rfl, hoc, hdc, hvc⟩ ?_
    rw [hbind]
    refine wpAny_pure (wpAny_newFunctionEnv (fun y hy => (L.own y hy).1) (fun y hy => ?_) (fun h₁ hns hsb => ⟨I.nolimit.fresh _ hsb, ?_⟩) L.kind)
    · rw [List.mem_singleton.mp hy]
      exact L.par
    show codeAny _ _ (.expr body (lamEnv X scope s.heap.objs.size f c')) _ _
    have kp : ∀ b o, s.heap.get? b = some o → h₁.get? b = some o := fun b o e => hsb.extBut b o (Nat.ne_of_lt (Heap.lt_size e)) (Heap.get?_push_of_some _ e)
    have Jv : Inv (lamCxN X A X.stack s HZ (fun _ _ _ => False) scope f c' N') [] σ' HZ { s with heap := h₁, toks := s.toks + ([(x, u)] : List (Str × Value)).length } := lam_startP I L sub e0 hr.hd hns kp rv hσ
    refine PySem.W.kla_codeExpr (wpAny_mono ((hbody _ _ s HZ (fun _ _ _ => False) f c' (hr.deeper _)).run [] _ _ HZ (KeyQ HZ kd) Jv ht) (fun v s' hq => ?_) fun e s' hq => hq)
    obtain ⟨w', H', J', rv, q⟩ := hq
    exact ⟨w', H', J'.os, J'.bare, J'.base, J'.hok, rv, q⟩
  refine wpAny_call (codeAny_mono rc fun r s2 hq => ?_)
  cases r with
  | error e => exact (noCX hq).elim
  | ok fl =>
    cases fl with
    | next => exact False.elim hq
    | brk => exact False.elim hq
    | cont => exact False.elim hq
    | ret v =>
      obtain ⟨w', H', os, bare, un, hok, rv', hsame, p, o, rfl, np, ep, ko⟩ := (show CE X.stack X.prog X.w HZ s (KeyQ HZ kd) v s2 from hq)
      obtain rfl : v = Value.ref p := rv'
      have kp : ∀ b o, LamK X H b → s.heap.get? b = some o → s2.heap.get? b = some o := fun b o hb e => un.keep b o e (sub _ hb.1) hb.2 (by simp)
      have hokH : HOk X.prog X.w H s2.heap := fun b ob e => by
        cases q : HZ b with
        | some o' =>
          obtain ⟨q1, xs, rfl⟩ := hs b o' q
          rw [q1] at e
          cases e
          exact hok b _ (hsame b _ q)
        | none =>
          have nfr : ∀ d u, H d = some u → d ∉ frs X.stack := fun d u hd z => by
            rw [I.stkFree d z] at hd
            cases hd
          refine (I.hok b ob e).stay (fun d v hd qd => ?_) (fun _ q => q) (fun _ _ q => q)
          rcases hd with z | z
          · rw [z] at qd ⊢
            exact un.keep b v qd q (nfr _ _ e) (by simp)
          · refine un.keep d v qd ?_ (nfr _ _ z) (by simp)
            cases q2 : HZ d with
            | none => rfl
            | some o' =>
              obtain ⟨q1, xs, rfl⟩ := hs d o' q2
              rw [q1] at z
              cases z
      have unH : Un (frs X.stack) [] H H s.heap s2.heap := ⟨fun b o e n => un.keep b o e (sub _ n), fun b o e n => un.slot b o e (sub _ n), fun _ _ _ n _ => n, un.there, fun _ _ e => e, fun _ _ _ e => e, fun b ps e => ⟨#[], by rw [e]; simp⟩⟩
      have I2 : Inv X pins σ H s2 := I.call' os unH hokH bare (fun b y => absurd y List.not_mem_nil)
      have nP : s.heap.get? p = none := by
        cases q : s.heap.get? p with
        | none => rfl
        | some o' =>
          have z := un.free p o' q np (by simp)
          rw [ep] at z
          cases z
      obtain ⟨ob, e1, hrd⟩ := ko.at (hok p o ep)
      refine ⟨⟨I2, kp f _ ⟨hfn, hfr⟩ hf⟩, kp, p, ob, rfl, ⟨?_, fun z => ?_⟩, nP, e1, hrd⟩
      · cases q : H p with
        | none => rfl
        | some o' =>
          have z := (I.hok p o' q).lt
          obtain ⟨o2, e2⟩ := objOk_ex (I.hok p o' q)
          rw [nP] at e2
          cases e2
      · obtain ⟨_, o2, e2, _⟩ := I.stack.mem z
        rw [nP] at e2
        cases e2
end
/-! a lambda is made: the def's table of code objects -/
/-- what is known of a table: the code objects that it tells -/
structure LT where
  ps : Array Value
  cs : List Addr
  ok : TriplesOk ps.toList
  am : ∀ (pos : Pos) (cv : Value), codeAmong pos ps.toList = some cv → ∃ c ∈ cs, cv = .ref c
def LT.nil : LT := ⟨#[], [], True.intro, fun pos cv hc => by
  have z : codeAmong pos [] = some cv := hc
  simp [codeAmong] at z⟩
theorem lt_ps (ps : Array Value) (x y z : Value) : (ps ++ #[x, y, z]).toList = ps.toList ++ [x, y, z] := by simp
def LT.add (k : LT) (pos : Pos) (c' : Addr) : LT := ⟨k.ps ++ #[rawInt pos.line, rawInt pos.col, .ref c'], c' :: k.cs, by rw [lt_ps]; exact PySem.TriplesOk_snoc _ _ _ _ k.ok, fun p' cv hcv => by
  rw [lt_ps] at hcv
  rcases among_app _ k.ok hcv with z | z
  · obtain ⟨c0, e1, e2⟩ := k.am p' cv z
    exact ⟨c0, List.mem_cons_of_mem _ e1, e2⟩
  · exact ⟨c', List.mem_cons_self, z⟩⟩
/-- the heap behind the making of a lambda -/
def LamStep (H : Hp) (P : Addr) (k : LT) (q : Str) (H1 : Hp) : Prop := H1 = H ∨ ∃ (pos : Pos) (c' : Addr), H c' = none ∧ H1 = upd (upd H P (.tbl (k.add pos c').ps)) c' (CodeO c' q)
def LTAt (H : Hp) (P : Addr) (k : LT) (q : Str) : Prop := H P = some (.tbl k.ps) ∧ ∀ c ∈ k.cs, H c = some (CodeO c q)
section
variable {X : Cx} {pins : List (Addr × Obj)} {σ : L2.St} {H : Hp} {s : Shared}
theorem lam_make3 {kt : LT} {c P : Addr} {params : Arguments} {body : Expr} {scope : Scope} {pos : Pos} {E : Value → Shared → Prop} {Q : Value → Shared → Prop} (I : Inv X pins σ H s) (TB : TabB X.base X.mg c P) (hcode : X.env.code = .ref c)
    (hT : LTAt H P kt (X.env.qual ++ "<lambda>")) (hdef : defaultsOf params X.env = ([], [])) (hfree : ∀ y ∈ scope.names, y.2 = .free → ∃ c, X.env.cells.lookup y.1 = some c)
    (h : ∀ (f c' : Addr) (pm ctv : Value) (H1 : Hp) (s' : Shared), Inv X pins σ H1 s' → LamStep H P kt (X.env.qual ++ "<lambda>") H1 → (∀ b o, b ≠ P → s.heap.get? b = some o → s'.heap.get? b = some o) →
      s'.heap.get? f = some (PySem.W.kla_obj "<lambda>" (X.env.qual ++ "<lambda>") params body scope (cloFrom X.env.cells scope.names []) pm c' ctv) → H1 f = none → f ∉ frs X.stack → H1 c' = some (CodeO c' (X.env.qual ++ "<lambda>")) → Q (.ref f) s') :
    wpAny (model X.prog X.w) X.A (eval (.Lambda params body scope pos) X.env) Q E s := by
  obtain ⟨hP, hcs⟩ := hT
  have ht := kt.ok
  refine PySem.W.kla_eval hdef ?_
  have bP : s.heap.BuiltinsAt X.mg P := TB.bm.keeps I.bk
  have hP' : s.heap.get? P = some { cls := .none, data := .fields kt.ps } := I.hok P _ hP
  have nofr : ∀ f, s.heap.objs.size ≤ f → f ∉ frs X.stack := fun f hf => rec_fr I hf
  cases hc : codeAmong pos kt.ps.toList with
  | none =>
    refine PySem.W.kla_makeFunction (mg := X.mg) (c := c) (P := P) (ps := kt.ps) (closure_ok hfree) I.ok.glob (I.mod.glob.keeps I.bk) hcode (TB.code.keeps I.bk) hP' ht hc TB.gP bP fun c' ctv h' tk hx hge hlt hrec htb => ?_
    obtain ⟨c2, oc, vs, t, e2, hoc, hd, hv⟩ := hrec
    cases e2
    have hsz : s.heap.objs.size ≤ h'.objs.size := Nat.le_trans hge (Nat.le_of_lt hlt)
    have nC : H c' = none := I.hok.fresh hge
    have I1 := inv_table (t' := tk) (more := #[rawInt pos.line, rawInt pos.col, .ref c']) (h' := h'.push (PySem.W.kla_obj "<lambda>" (X.env.qual ++ "<lambda>") params body scope (cloFrom X.env.cells scope.names []) ((X.mg "__name__").getD .none) c' ctv)) I hP
      (fun b o hb e => Heap.get?_push_of_some _ (hx b o hb e)) (Heap.get?_push_of_some _ htb) hge ⟨oc, vs, t, Heap.get?_push_of_some _ hoc, hd, hv⟩
    refine h h'.objs.size c' ((X.mg "__name__").getD .none) ctv _ _ I1 (.inr ⟨pos, c', nC, rfl⟩) (fun b o hb e => Heap.get?_push_of_some _ (hx b o hb e)) (Heap.get?_push_size _ rfl) ?_ (nofr _ hsz) upd_same
    have n1 : h'.objs.size ≠ c' := Nat.ne_of_gt hlt
    have n2 : h'.objs.size ≠ P := Nat.ne_of_gt (Nat.lt_of_lt_of_le (Heap.lt_size hP') hsz)
    rw [upd_ne n1, upd_ne n2]
    exact I.hok.fresh hsz
  | some cv =>
    obtain ⟨c', em, e⟩ := kt.am pos cv hc
    subst e
    refine PySem.W.kla_makeFunctionHit (mg := X.mg) (c := c) (P := P) (ps := kt.ps) (closure_ok hfree) I.ok.glob (I.mod.glob.keeps I.bk) hcode (TB.code.keeps I.bk) hP' ht hc bP fun ctv h' tk hx hsz => ?_
    have kp : ∀ b o, s.heap.get? b = some o → (h'.push (PySem.W.kla_obj "<lambda>" (X.env.qual ++ "<lambda>") params body scope (cloFrom X.env.cells scope.names []) ((X.mg "__name__").getD .none) c' ctv)).get? b = some o := fun b o e => Heap.get?_push_of_some _ (hx b o e)
    have I1 : Inv X pins σ H { s with heap := h'.push (PySem.W.kla_obj "<lambda>" (X.env.qual ++ "<lambda>") params body scope (cloFrom X.env.cells scope.names []) ((X.mg "__name__").getD .none) c' ctv), toks := tk } := I.kept kp
    exact h h'.objs.size c' ((X.mg "__name__").getD .none) ctv H _ I1 (.inl rfl) (fun b o _ e => kp b o e) (Heap.get?_push_size _ rfl) (I.hok.fresh hsz) (nofr _ hsz) (hcs c' em)
/-- an object that nobody told is told from now on -/
theorem inv_track {p : Addr} {o : HO} (I : Inv X pins σ H s) (z : FpOk X pins H p) (new : ObjOk X.prog X.w (upd H p o) s.heap p o) : Inv X pins σ (upd H p o) s := by
  have hn := z.1
  exact I.step (h' := s.heap) (H' := upd H p o) (g' := s.gens) (d' := s.drawn) (t' := s.toks) (ch := [p]) (fun b hb => by
      rw [List.mem_singleton.mp hb]
      exact ⟨z.2.2.2.1, z.2.1, z.2.2.2.2.1, z.2.2.2.2.2⟩) (fun b o _ _ _ e _ => e) (fun b o _ _ _ e _ => ⟨o.slots, e⟩) (fun b o hb _ n => by rw [upd_ne fun z => hb (List.mem_singleton.mpr z)]; exact n) (fun b o _ e => ⟨o, e⟩)
    (fun b xs e => by rw [upd_ne (ne_of_none e hn)]; exact e) (fun b o u e => by rw [upd_ne (ne_of_none e hn)]; exact e) (fun b ps e => ⟨#[], by rw [upd_ne (ne_of_none e hn), e]; simp⟩) (fun m hm => hm) (fun b u e => by
      by_cases hb : b = p
      · subst hb
        rw [upd_same] at e
        cases e
        exact new
      · rw [upd_ne hb] at e
        exact (I.hok b u e).stay (fun _ _ _ q => q) (fun c q => by rw [upd_ne (ne_of_none q hn)]; exact q) fun c xs q => by rw [upd_ne (ne_of_none q hn)]; exact q) I.bare
theorem LamStep.lst {P : Addr} {kt : LT} {q : Str} {H1 : Hp} {a : Addr} {xs : List V} (st : LamStep H P kt q H1) (hP : H P = some (.tbl kt.ps)) (e : H a = some (.lst xs)) : H1 a = some (.lst xs) := by
  rcases st with rfl | ⟨pos, c', n, rfl⟩
  · exact e
  · rw [upd_ne (ne_of_none e n), upd_ne (fun z => by rw [z, hP] at e; cases e)]
    exact e
/-! sorted(.., key=lambda ..) as an expression -/
theorem vals_enc {α : Type} (enc : α → V) : ∀ {out : List Value} {l : List α}, EachIs (fun v x => RelV (enc x) v) out l → Vals (l.map enc) out
  | _, _, .nil => .nil
  | _, _, .cons r t => .cons r (vals_enc enc t)
theorem each_enc {α : Type} (enc : α → V) : ∀ {out : List Value} {l : List α}, Vals (l.map enc) out → EachIs (fun v x => RelV (enc x) v) out l
  | _, [], r => by cases r; exact .nil
  | _, x :: l, r => by
    cases r with
    | cons r1 r2 => exact .cons r1 (each_enc enc r2)
theorem sort_core {α : Type} {src f c' : Addr} {key : α → PyData} {enc : α → V} {bs : List α} {k : Nat} {params : Arguments} {body : Expr} {scope : Scope} {pm ctv : Value} {x : Str} {N' : List Str} {sl : α → L2.St} {tb : TE} {HZ : Hp} {Q : VK}
    (I : Inv X pins σ H s) (L : LamP X.env.scope scope x)
    (hf : s.heap.get? f = some (PySem.W.kla_obj "<lambda>" (X.env.qual ++ "<lambda>") params body scope (cloFrom X.env.cells scope.names []) pm c' ctv)) (hfn : H f = none) (hfr : f ∉ frs X.stack) (hco : H c' = some (CodeO c' (X.env.qual ++ "<lambda>")))
    (hbind : ∀ u, bindArgs (PySem.W.kla_fn "<lambda>" (X.env.qual ++ "<lambda>") params body scope (cloFrom X.env.cells scope.names []) pm (.ref c') ctv) ⟨[u], []⟩ = pure [(x, u)])
    (hr : Room (k + 3) X.A) (hs : ∀ b o, HZ b = some o → H b = some o ∧ ∃ xs, o = .lst xs)
    (hbody : ∀ (A : Around) (outer : List Env) (s : Shared) (H : Hp) (E : XK) (f c' : Addr), Room k (A.deeper (lamEnv X scope s.heap.objs.size f c')) → L2.PE (lamCxN X A outer s H E scope f c' N') body tb)
    (hσ : ∀ b ∈ bs, LamSl X σ x (enc b) N' (sl b)) (ht : ∀ b ∈ bs, tb (sl b) HZ (KeyQ HZ (key b)))
    (hz : bs.length ≤ 16777216) (hal : AllAlike (bs.map key)) (hk : Sortable (bs.map key)) (hd : ∀ b ∈ bs, (key b).depth ≤ 16)
    (hcol : ∀ (A : Around) (Q' : List Value → Shared → Prop) (E' : Value → Shared → Prop), A.handled = none → (∀ h' tk vs, (∀ b o, s.heap.get? b = some o → h'.get? b = some o) → Vals (bs.map enc) vs → Q' vs { s with heap := h', toks := tk }) → wpAny (model X.prog X.w) A (collect (.ref src)) Q' E' s)
    (q : ∀ p, H p = none → Q (.ref p) (upd H p (.lst ((bs.mergeSort (dataLe false key)).map enc)))) :
    wpAny (model X.prog X.w) X.A (call (.builtin "sorted") [.ref src] [(Str.ofString "key", .ref f)]) (EP X pins σ Q) X.xe s := by
  refine sortedK_at (J := LamJ X pins σ H f (PySem.W.kla_obj "<lambda>" (X.env.qual ++ "<lambda>") params body scope (cloFrom X.env.cells scope.names []) pm c' ctv)) (Kp := LamK X H) (Z := LamZ X pins H f) (b := false) (R := fun v x => RelV (enc x) v) key lam_keeps ⟨I, hf⟩ hal hk (by rw [sizeLine_eq]; exact hz)
    (fun b hb => by have := hr.units; have := hd b hb; omega) (PyProof.Rows.ksk_s1 _ _) (fun _ => PyProof.Rows.ksk_l1 _ _) (fun _ => PyProof.Rows.ksk_t1 _ _) (fun Q' E' hq => hcol _ Q' E' hr.hd fun h' tk vs k1 rv => hq h' tk vs k1 (each_enc enc rv)) (fun v b hR hb s' hj => ?_) (fun out ep p s' hj zp hnp hp hlen hout => ?_)
  · have r2 : Room (k + 1) X.A.in1.in1 := (hr.in1).in1
    exact lam_turn hj.1 L hj.2 hfn hfr hco (hbind v) r2 I.ok.frames hR (hσ b hb) hs hbody (ht b hb)
  · have hml : ((bs.mergeSort (dataLe false key)).map enc).length ≤ sizeLine := by
      rw [List.length_map, List.length_mergeSort, sizeLine_eq]
      exact hz
    exact ⟨.ref p, upd H p (.lst ((bs.mergeSort (dataLe false key)).map enc)), inv_track hj.1 zp.1 ⟨hml, out, ep, vals_enc enc hout, hp⟩, rfl, q p zp.1.1⟩
/-- the places of a word's items, sorted by (item, place) -/
def plKey (word : List Int) (i : Int) : PyData := .tuple ([word.getD i.toNat 0, i].map .int)
def sortPl (word : List Int) : List Int := ((List.range word.length).map fun i : Nat => (i : Int)).mergeSort (dataLe false (plKey word))
def tPlaces (P : Addr) (q : Str) (j : Nat) : TE := fun σ H Q => ∃ (aw : Addr) (word : List Int) (kt : LT), σ[j]? = some (some (V.ref aw)) ∧ H aw = some (.lst (word.map V.int)) ∧ word.length ≤ 16777216 ∧ LTAt H P kt q ∧
  ∀ H2, LamStep H P kt q H2 → ∀ p, H2 p = none → Q (.ref p) (upd H2 p (.lst ((sortPl word).map V.int)))
theorem rgV_zero (n : Nat) : rgV 0 (n : Int) = ((List.range n).map fun i : Nat => (i : Int)).map V.int := by
  unfold rgV
  rw [List.map_map, Int.sub_zero, Int.toNat_natCast]
  refine List.map_congr_left fun i _ => ?_
  show V.int (0 + (i : Int)) = V.int (i : Int)
  rw [Int.zero_add]
theorem pe_sortPlaces {c P : Addr} {k j : Nat} {a x : Str} {params : Arguments} {scope : Scope} {cx : Nat} {p1 p2 p3 p4 p5 p6 p7 p8 p9 p10 p11 lpos kp pos : Pos} (hc : X.calm = true) (hg : Gl X "sorted") (hm : X.mg "sorted" = none) (hgr : Gl X "range") (hmr : X.mg "range" = none) (hgl : Gl X "len") (hml : X.mg "len" = none)
    (TB : TabB X.base X.mg c P) (hcode : X.env.code = .ref c) (hr : Room (k + 3) X.A) (L : LamP X.env.scope scope x) (hva : scope.names.lookup a = some .free) (hax : a ≠ x) (hj : X.N[j]? = some a) (hvj : Vis X.env.scope a) (hdef : defaultsOf params X.env = ([], []))
    (hbind : ∀ (q : Str) (cl : List (Str × Addr)) (pm cv ctv u : Value), bindArgs (PySem.W.kla_fn "<lambda>" q params (.Tuple [.Subscript (.Name a p7) (.Name x p8) p9, .Name x p10] cx p11) scope cl pm cv ctv) ⟨[u], []⟩ = pure [(x, u)])
    (da : (a == ("__debug__" : Str)) = false := by decide) (ca : (a == ("__classdict__" : Str)) = false := by decide) (dx : (x == ("__debug__" : Str)) = false := by decide) (cdx : (x == ("__classdict__" : Str)) = false := by decide) :
    L2.PE X (.Call (.Name "sorted" p1) [.Call (.Name "range" p2) [.Call (.Name "len" p3) [.Name a p4] [] p5] [] p6] [⟨some "key", .Lambda params (.Tuple [.Subscript (.Name a p7) (.Name x p8) p9, .Name x p10] cx p11) scope lpos, kp⟩] pos) (tPlaces P (X.env.qual ++ "<lambda>") j) := by
  refine ⟨fun pins s σ H Q I h => ?_⟩
  obtain ⟨aw, word, kt, hj', haw, hz, hT, hq⟩ := h
  have he : PRg X (.Call (.Name "range" p2) [.Call (.Name "len" p3) [.Name a p4] [] p5] [] p6) (tRg1 (tCB (rLenL X.K) (tCons (tVar j) tNil))) := prg_1 hgr hmr (pe_callB (show CallR X _ (rLenL X.K) from call_lenL) hgl hml (by decide +kernel) (pa_cons (pe_var hj hvj da ca) pa_nil))
  refine wpAny_Call_Name_kw (ld_blt I hg hm rfl ?_)
  refine PyProof.Rows.callWith_kw ?_
  show wpAny _ _ (spliced ((false, eval (.Call (.Name "range" p2) [.Call (.Name "len" p3) [.Name a p4] [] p5] [] p6) X.env) :: backTo pos (starEach [] X.env))) _ _ s
  refine Calls.spliced_cons (thn (he pins s σ H (fun i j H1 => i = 0 ∧ j = (word.length : Int) ∧ H1 = H) I ⟨_, hj', aw, word.length, _, rfl, SqL.of haw, List.length_map _, _, rfl, rfl, rfl, rfl⟩) fun v s1 ⟨r, i, j', t, u, z, H1, ev, hrg, I1, hi, hj2, eH⟩ => ?_)
  subst ev
  subst hi
  subst hj2
  subst eH
  refine Calls.spliced_nil ?_
  show wpAny _ _ (evalAll ((do let v ← eval (.Lambda params (.Tuple [.Subscript (.Name a p7) (.Name x p8) p9, .Name x p10] cx p11) scope lpos) X.env; standAt pos; pure v) :: [])) _ _ s1
  refine wpAny_evalAll_cons (wpAny_bind (lam_make3 I1 TB hcode hT hdef (L.has I1.ok) fun f c' pm ctv H2 s2 I2 st kp hf hfn hfr hco => wpAny_bind (wpAny_standAt (wpAny_pure ?_))))
  refine wpAny_evalAll_nil ?_
  have haw2 := st.lst hT.1 haw
  have hrg2 : IsRange s2.heap r 0 (word.length : Int) 1 t u z := kp r _ (fun e => by
    have e1 := I1.hok P _ hT.1
    rw [e] at hrg
    have e2 := hrg.symm.trans (show s1.heap.get? P = some { cls := .none, data := .fields kt.ps } from e1)
    cases e2) hrg
  show wpAny _ _ (call (.builtin "sorted") [.ref r] [(Str.ofString "key", .ref f)]) _ _ s2
  have mb : ∀ i ∈ (List.range word.length).map (fun i : Nat => (i : Int)), 0 ≤ i ∧ i < (word.length : Int) := fun i hi => by
    obtain ⟨n, hn, rfl⟩ := List.mem_map.mp hi
    have := List.mem_range.mp hn
    omega
  have hxa : x ≠ a := fun z => hax z.symm
  refine sort_core (key := plKey word) (enc := V.int) (bs := (List.range word.length).map fun i : Nat => (i : Int)) (k := k) (N' := [x, a]) (sl := fun i => [some (V.int i), some (V.ref aw)]) (HZ := fun b => if b = aw then some (.lst (word.map V.int)) else none)
    (tb := tTup (tCons (tOp (rIxL X.K) (tVar 1) (tVar 0)) (tCons (tVar 0) tNil))) I2 L hf hfn hfr hco (fun u => hbind _ _ _ _ _ u) hr (fun b o e => ?_) (fun A outer s H E f c' hr' => ?_) (fun i hi => ⟨rfl, fun n y v e1 e2 => ?_⟩) (fun i hi => ?_) ?_ ?_ ?_ ?_ ?_ (fun p np => hq _ st p np)
  · by_cases hb : b = aw
    · rw [if_pos hb] at e
      cases e
      rw [hb]
      exact ⟨haw2, _, rfl⟩
    · rw [if_neg hb] at e
      cases e
  · refine pe_tup (pa_cons (pe_ix (show IxR _ (rIxL X.K) from ix_list) (pe_var rfl (.inr (.inr hva)) da ca) (pe_var rfl (.inl L.par) dx cdx) (fun _ _ => rfl)) (pa_cons (pe_var rfl (.inl L.par) dx cdx) pa_nil))
  · match n, e1, e2 with
    | 0, e1, e2 =>
      cases e1
      cases e2
      exact .inl ⟨rfl, rfl⟩
    | 1, e1, e2 =>
      cases e1
      cases e2
      exact .inr ⟨hax, j, hj, hj'⟩
    | n + 2, e1, e2 => simp at e1
  · obtain ⟨i0, i1⟩ := mb i hi
    refine ⟨_, rfl, _, rfl, aw, _, i, _, rfl, rfl, SqL.of (if_pos rfl), atD 0 i0 i1, _, rfl, by rw [sizeLine_eq]; show 2 ≤ _; omega, fun p np => ⟨fun b o e => ?_, p, _, rfl, np, upd_same, [word.getD i.toNat 0, i], .inl ⟨rfl, rfl⟩⟩⟩
    exact (upd_ne fun z => by
      rw [z] at e
      exact nomatch (e.symm.trans np)).trans e
  · rw [List.length_map, List.length_range]
    exact hz
  · exact AllAlike.of fun b b' => by
      show alike (plKey word b) (plKey word b') = true
      simp only [plKey, alike]
      exact alike_ints _ _
  · exact Sortable.tuples fun b => ⟨_, _, rfl⟩
  · intro b _
    simp only [plKey, PyData.depth]
    rw [depth_ints]
    omega
  · intro A Q' E' hh hq'
    have hn : ((word.length : Int) - 0).toNat = word.length := by omega
    refine collect_range hh hrg2 (small_one (by omega) (by omega) (by omega) (by omega)) (rangeSize_nat 0 (word.length : Int)) (by omega) fun h' tk acc k1 hi => hq' h' tk _ k1 ?_
    rw [← rgV_zero]
    exact vals_rg hi
end
/-! rows sorted by a key that a def of the program tells -/
def lstOnly (H : Hp) : Hp := fun b => match H b with
  | some (.lst xs) => some (.lst xs)
  | _ => none
theorem lstOnly_at {H : Hp} {a : Addr} {xs : List V} (h : H a = some (.lst xs)) : lstOnly H a = some (.lst xs) := by unfold lstOnly; rw [h]
theorem lstOnly_of {H : Hp} {b : Addr} {o : HO} (h : lstOnly H b = some o) : H b = some o ∧ ∃ xs, o = .lst xs := by
  unfold lstOnly at h
  split at h
  · rename_i xs e
    cases h
    exact ⟨e, xs, rfl⟩
  · cases h
def rowKey (key : List Int → List Int) (r : RO (List Int)) : PyData := .list ((key r.2).map .int)
def tSortRows (P : Addr) (q : Str) (jf jo : Nat) (tb : TE) : TE := fun σ H Q => ∃ (af ao : Addr) (rows : List (RO (List Int))) (kt : LT) (key : List Int → List Int), σ[jf]? = some (some (V.ref af)) ∧ σ[jo]? = some (some (V.ref ao)) ∧ H af = some (.lst (rows.map rref)) ∧ rows.length ≤ 16777216 ∧ LTAt H P kt q ∧
  (∀ r ∈ rows, tb [some (rref r), some (V.ref ao)] (lstOnly H) (KeyQ (lstOnly H) (rowKey key r))) ∧
  ∀ H2, LamStep H P kt q H2 → ∀ p, H2 p = none → Q (.ref p) (upd H2 p (.lst ((rows.mergeSort (dataLe false (rowKey key))).map rref)))
section
variable {X : Cx}
theorem pe_sortRows {c P : Addr} {k jf jo : Nat} {f o x : Str} {params : Arguments} {body : Expr} {scope : Scope} {tb : TE} {p1 p2 lpos kp pos : Pos} (hg : Gl X "sorted") (hm : X.mg "sorted" = none)
    (TB : TabB X.base X.mg c P) (hcode : X.env.code = .ref c) (hr : Room (k + 3) X.A) (L : LamP X.env.scope scope x) (hox : o ≠ x) (hf : X.N[jf]? = some f) (hvf : Vis X.env.scope f) (ho : X.N[jo]? = some o) (hdef : defaultsOf params X.env = ([], []))
    (hbind : ∀ (q : Str) (cl : List (Str × Addr)) (pm cv ctv u : Value), bindArgs (PySem.W.kla_fn "<lambda>" q params body scope cl pm cv ctv) ⟨[u], []⟩ = pure [(x, u)])
    (hbody : ∀ (A : Around) (outer : List Env) (s : Shared) (H : Hp) (E : XK) (g c' : Addr), Room k (A.deeper (lamEnv X scope s.heap.objs.size g c')) → L2.PE (lamCxN X A outer s H E scope g c' [x, o]) body tb)
    (df : (f == ("__debug__" : Str)) = false := by decide) (cf : (f == ("__classdict__" : Str)) = false := by decide) :
    L2.PE X (.Call (.Name "sorted" p1) [.Name f p2] [⟨some "key", .Lambda params body scope lpos, kp⟩] pos) (tSortRows P (X.env.qual ++ "<lambda>") jf jo tb) := by
  refine ⟨fun pins s σ H Q I h => ?_⟩
  obtain ⟨af, ao, rows, kt, key, h1, h2, haf, hz, hT, hkey, hq⟩ := h
  refine wpAny_Call_Name_kw (ld_blt I hg hm rfl ?_)
  refine PyProof.Rows.callWith_kw ?_
  show wpAny _ _ (spliced ((false, eval (.Name f p2) X.env) :: backTo pos (starEach [] X.env))) _ _ s
  refine Calls.spliced_cons (thn ((pe_var hf hvf df cf).run pins s σ H (fun v H1 => v = .ref af ∧ H1 = H) I ⟨_, h1, rfl, rfl⟩) fun v s1 ⟨v', H1, I1, rv, ev, eH⟩ => ?_)
  subst ev
  subst eH
  obtain rfl : v = Value.ref af := rv
  refine Calls.spliced_nil ?_
  show wpAny _ _ (evalAll ((do let v ← eval (.Lambda params body scope lpos) X.env; standAt pos; pure v) :: [])) _ _ s1
  refine wpAny_evalAll_cons (wpAny_bind (lam_make3 I1 TB hcode hT hdef (L.has I1.ok) fun g c' pm ctv H2 s2 I2 st kp hg2 hfn hfr hco => wpAny_bind (wpAny_standAt (wpAny_pure ?_))))
  refine wpAny_evalAll_nil ?_
  have haf2 := st.lst hT.1 haf
  show wpAny _ _ (call (.builtin "sorted") [.ref af] [(Str.ofString "key", .ref g)]) _ _ s2
  obtain ⟨its, rv, pl, hz2⟩ := I2.list (SqL.of haf2)
  refine sort_core (key := rowKey key) (enc := rref) (bs := rows) (k := k) (N' := [x, o]) (sl := fun r => [some (rref r), some (V.ref ao)]) (HZ := lstOnly H1) (tb := tb) I2 L hg2 hfn hfr hco (fun u => hbind _ _ _ _ _ u) hr
    (fun b ob e => ⟨?_, (lstOnly_of e).2⟩) hbody (fun r hr2 => ⟨rfl, fun n y v e1 e2 => ?_⟩) hkey hz ?_ ?_ ?_ ?_ (fun p np => hq _ st p np)
  · obtain ⟨e1, xs, rfl⟩ := lstOnly_of e
    exact st.lst hT.1 e1
  · match n, e1, e2 with
    | 0, e1, e2 =>
      cases e1
      cases e2
      exact .inl ⟨rfl, rfl⟩
    | 1, e1, e2 =>
      cases e1
      cases e2
      exact .inr ⟨hox, jo, ho, h2⟩
    | n + 2, e1, e2 => simp at e1
  · exact AllAlike.of fun b b' => by
      show alike (rowKey key b) (rowKey key b') = true
      simp only [rowKey, alike]
      exact alike_ints _ _
  · exact Sortable.others fun b => ⟨fun z => (nomatch z), fun xs z => (nomatch z)⟩
  · intro b _
    simp only [rowKey, PyData.depth]
    rw [depth_ints]
    omega
  · intro A Q' E' hh hq'
    have hl2 : its.length ≤ sizeLine := by
      rw [← rv.length]
      exact hz2
    exact PyProof.Rows.collect_list pl.isList (hq' _ s2.toks its (fun b ob e => (Heap.get?_update_ne _ _ _ _ (Nat.ne_of_lt (Heap.lt_size e))).trans (Heap.get?_push_of_some _ e)) rv) hl2
end
/-- a lambda was made: the table's cluster -/
def ctOwn (P : Addr) (q : Str) (k : LT) : List (Addr × HO) := (P, .tbl k.ps) :: k.cs.map fun c => (c, CodeO c q)
section
variable {H0 H H1 : Hp} {pre : List (Addr × HO)} {ts : List (List (Addr × HO))} {P : Addr} {q : Str} {k : LT}
theorem Fr.ltAt (f : Fr H0 H (pre ++ (ctOwn P q k :: ts).flatten)) : LTAt H P k q := by
  have m : ∀ z ∈ ctOwn P q k, z ∈ pre ++ (ctOwn P q k :: ts).flatten := fun z hz => List.mem_append_right _ (List.mem_flatten.mpr ⟨_, List.mem_cons_self, hz⟩)
  exact ⟨f.mem (m _ List.mem_cons_self), fun c hc => f.mem (m _ (List.mem_cons_of_mem _ (List.mem_map.mpr ⟨c, hc, rfl⟩)))⟩
theorem Fr.lam (f : Fr H0 H (pre ++ (ctOwn P q k :: ts).flatten)) (st : LamStep H P k q H1) : ∃ k', Fr H0 H1 (pre ++ (ctOwn P q k' :: ts).flatten) := by
  rcases st with rfl | ⟨pos, c', n, rfl⟩
  · exact ⟨k, f⟩
  refine ⟨k.add pos c', ?_⟩
  have e1 : (pre ++ (ctOwn P q k :: ts).flatten).Perm ((P, .tbl k.ps) :: (pre ++ (k.cs.map (fun c => (c, CodeO c q)) ++ ts.flatten))) := by
    show (pre ++ ((P, .tbl k.ps) :: (k.cs.map (fun c => (c, CodeO c q)) ++ ts.flatten))).Perm _
    exact List.perm_middle
  have f1 : Fr H0 _ ((P, .tbl (k.add pos c').ps) :: (pre ++ (k.cs.map (fun c => (c, CodeO c q)) ++ ts.flatten))) := (f.perm e1).wr
  have n1 : upd H P (.tbl (k.add pos c').ps) c' = none := by
    rw [upd_ne fun z => ?_]
    · exact n
    · have e2 := (f.ltAt).1
      rw [← z, n] at e2
      cases e2
  refine (f1.new (o := CodeO c' q) n1).perm ?_
  show ((c', CodeO c' q) :: (P, .tbl (k.add pos c').ps) :: (pre ++ (k.cs.map (fun c => (c, CodeO c q)) ++ ts.flatten))).Perm (pre ++ ((P, .tbl (k.add pos c').ps) :: (c', CodeO c' q) :: (k.cs.map (fun c => (c, CodeO c q)) ++ ts.flatten)))
  refine (List.Perm.swap _ _ _).trans ?_
  refine List.Perm.trans ?_ List.perm_middle.symm
  exact (List.Perm.cons _ List.perm_middle.symm)
end
/-! a def that makes a lambda: its code object is known -/
structure FunC (K : PySem.W.Frag) (c : Addr) (x qual : Str) (st : Stmt) (f : Addr) (fd : FuncData) : Prop where
  fn : Fun K x qual st f fd
  cd : fd.code = .ref c
theorem FunC.ok {P : Program} {w : World} {K : PySem.W.Frag} {mg : Str → Option Value} {base : Heap} {c : Addr} {x qual : Str} {st : Stmt} {f : Addr} {fd : FuncData} {N ps : List Str} {k : Nat} {sp : Sp} (F : FunC K c x qual st f fd) (S : FnScope N ps (defScope st)) (len : ∀ vs H Q E, sp vs H Q E → vs.length = ps.length)
    (hbody : ∀ (A : Around) (outer : List Env) (s : Shared) (H : Hp) (vs : List V) (Q : VK) (E : XK), Room k (A.deeper (envOfC qual (defScope st) s.heap.objs.size f (.ref c))) → sp vs H Q E →
      ∃ t, PSs (cxOf CX0 P w K mg base N qual (defScope st) f (.ref c) A outer s H E).nox (defBody st) t ∧ t { nx := fun _ H' => Q .non H', rt := Q } (start N vs) H) : FnOk P w K mg base CX0 (k + 1) f fd ps sp := by
  obtain ⟨oc, od, kV, doc, pm, an, cdv, ct, osl, e, lk, hcd⟩ := F.fn.ex
  have ec : cdv = .ref c := by
    have z := F.cd
    rw [e] at z
    exact z
  subst ec
  subst e
  refine fn_of lk hcd S len fun A outer s H vs Q E hr hsp => ?_
  obtain ⟨t, h, q⟩ := hbody A outer s H vs Q E hr hsp
  exact ⟨t, h.nox, q⟩
/-- the end: the table of the def x0 is empty -/
theorem walk_ofLam {l : PySem.W.OpenLaw} {n k : Nat} {q : Program} {loose : List Str} {XP : (Str → Option Value) → Heap → Prop} {YP : World → Heap → Prop} {d d0 : DefRec} {K : Params → PySem.W.Frag} {CX : World → CXT} {x x0 : Str}
    (hn : l.most = some n) (hn2 : n ≤ sizeLine) (hdf : d.params.defaults = []) (hr : Room k callerA) (hrec : (recsOf q).find? (fun e => e.name == x0) = some d0) (hY : ∀ (w : World) (h : Heap), YP w h → (K w.params).In h)
    (F : ∀ (w : World) (mg : Str → Option Value) (fa : Addr) (h : Heap), (K w.params).In h → h.Ns mainGlobals mg → mg d.name = some (.ref fa) → (∀ c P, PySem.W.tabIn (K w.params) x0 = some (c, P) → PySem.W.CodeHd h c P ∧ h.get? P = some { cls := .none, data := .fields #[] }) → LawAtS l w (K w.params) (CX w) k n x mg fa h)
    (hCX : ∀ (w : World) (H : Hp) (s : Shared) (e : Value) (s' : Shared), CX w [] H s (fun _ _ _ => False) e s' → False) :
    PySem.W.WalkO q loose XP YP l.row.toRowW d [] (fun f vs => PySem.call f vs) := by
  refine Att.attach_callB hn hdf fun w s₀ s₁ mg mb fa o pm cd doc a vs ns G Y ho hd hcd hmg hobj hints hlen hbits hg => ?_
  have KX := hY w _ Y
  obtain ⟨fd, cs, sp, hT, nT, C, hb, hsp, hF⟩ := F w mg fa _ KX G.T.g hmg fun c P e => PySem.W.tab_of G.T KX hrec e
  exact law_callTs KX G.T.g G.T.b G.T.builtins G.T.nolimit hg hT nT C G.T.bmain hobj hints (Nat.le_trans hlen hn2) hr hF hb (fun H hH hS => hsp H a ns hlen hbits hH hS) fun H e s' => hCX w H s₁ e s'
theorem lent_tbl {H : Hp} {P : Addr} {q : Str} (h : H P = some (.tbl #[])) : Lent (minus H [P]) H (ctOwn P q LT.nil) := by
  refine ⟨⟨fun b x e => ?_, fun z hz => ?_, ?_⟩, fun b x e hb => ?_⟩
  · unfold minus at e
    by_cases hb : b ∈ [P]
    · rw [if_pos hb] at e; cases e
    · rw [if_neg hb] at e; exact e
  · have e : z = (P, .tbl #[]) := List.mem_singleton.mp hz
    subst e
    exact ⟨by unfold minus; rw [if_pos (List.mem_singleton.mpr rfl)], h⟩
  · exact (List.nodup_cons.mpr ⟨List.not_mem_nil, List.nodup_nil⟩ : [P].Nodup)
  · unfold minus
    rw [if_neg (show ¬ b ∈ [P] from hb)]
    exact e
theorem sqL_minus {K : PySem.W.Frag} {H : Hp} {P a : Addr} {xs : List V} (h : SqL K H a xs) (hP : H P = some (.tbl #[])) : SqL K (minus H [P]) a xs := by
  rcases h with (h | ⟨o, h⟩) | h
  · refine .inl (.inl ?_)
    unfold minus
    rw [if_neg]
    · exact h
    · intro hb
      rw [List.mem_singleton.mp hb, hP] at h
      cases h
  · refine .inl (.inr ⟨o, ?_⟩)
    unfold minus
    rw [if_neg]
    · exact h
    · intro hb
      rw [List.mem_singleton.mp hb, hP] at h
      cases h
  · exact .inr h
/-- a law's promise, the table of code objects empty at the entry -/
theorem lawAt_of {l : PySem.W.OpenLaw} {w : World} {K : PySem.W.Frag} {k n : Nat} {x : Str} {mg : Str → Option Value} {fa cL PL : Addr} {h : Heap} {fd : FuncData} (hT : PySem.W.CodeHd h cL PL ∧ h.get? PL = some { cls := .none, data := .fields #[] }) (nT : K.lookup PL = none)
    (hb : ∀ (s : Shared) (u : Value), BindsTo s fd ⟨[u], []⟩ [(x, u)]) (hF : ∀ base : Heap, K.In base → base.Ns mainGlobals mg → TabB base mg cL PL → ∃ sp : Sp, FnOk l.prog w K mg base CX0 k fa fd [x] sp ∧
      ∀ (H : Hp) (a : Addr) (ns : List Int) (Q : VK) (E : XK), ns.length ≤ n → H PL = some (.tbl #[]) → SqL K H a (ns.map V.int) → (∀ H1, Q (.bl true) H1) → sp [.ref a] H Q E) : LawAtS l w K CX0 k n x mg fa h := by
  refine ⟨fd, [(cL, PL)], fun vs H Q E => ∃ (a : Addr) (ns : List Int), vs = [.ref a] ∧ ns.length ≤ n ∧ H PL = some (.tbl #[]) ∧ SqL K H a (ns.map V.int) ∧ ∀ H1, Q (.bl true) H1, fun p hp => ?_, fun p hp => ?_, fun p hp => ?_, hb, fun H a ns hl _ hP hS => ⟨a, ns, rfl, hl, hP (cL, PL) (List.mem_singleton.mpr rfl), hS, fun _ => rfl⟩, fun base hK hN hTB => ?_⟩
  · rw [List.mem_singleton.mp hp]; exact hT.2
  · rw [List.mem_singleton.mp hp]; exact nT
  · rw [List.mem_singleton.mp hp]; exact hT.1
  · obtain ⟨sp, F, hsp⟩ := hF base hK hN (hTB (cL, PL) (List.mem_singleton.mpr rfl))
    exact F.imp fun vs H Q E ⟨a, ns, e, hl, hP, hS, hq⟩ => by
      subst e
      exact hsp H a ns Q E hl hP hS hq
theorem tabIn_of {K : PySem.W.Frag} {x : Str} {f cL PL : Addr} {oc oc2 : Value} {od od2 : Option Addr} {fd : FuncData} {sl sl2 : Array (Option Value)} {vs : Array Value} (a : PySem.W.nsIn K mainGlobals x = some (some (.ref f))) (l : K.lookup f = some ⟨oc, od, .func fd, sl⟩) (c : fd.code = .ref cL)
    (k : K.lookup cL = some ⟨oc2, od2, .fields vs, sl2⟩) (v : vs[11]? = some (.ref PL)) : PySem.W.tabIn K x = some (cL, PL) := by
  unfold PySem.W.tabIn
  simp only [a, l, c, k, v]
/-! rows picked out of a table, rows in another order -/
section
variable {β : Type} {H0 H : Hp} {pre : List (Addr × HO)} {ts : List (List (Addr × HO))} {g : β → HO} {rows rows' : List (RO β)} {C : List β} {P : RO β → Bool} {p : β → Bool} {y : RO β} {i : Nat}
theorem sel_t (e : rows[i]? = some y) (h : P y = true) : HO.lst (((List.filter P (List.take i rows)).map rref) ++ [V.ref y.1]) = .lst ((List.filter P (List.take (i + 1) rows)).map rref) := by
  rw [List.take_add_one, e, List.filter_append, List.map_append]
  show _ = HO.lst (_ ++ (List.filter P [y]).map rref)
  rw [List.filter_cons_of_pos h]
  rfl
theorem sel_f (e : rows[i]? = some y) (h : P y = false) : HO.lst ((List.filter P (List.take i rows)).map rref) = .lst ((List.filter P (List.take (i + 1) rows)).map rref) := by
  rw [List.take_add_one, e, List.filter_append, List.map_append]
  show _ = HO.lst (_ ++ (List.filter P [y]).map rref)
  rw [List.filter_cons_of_neg (by rw [h]; exact Bool.false_ne_true)]
  simp
theorem sel_all (h : rows.map (·.2) = C) : HO.lst ((List.filter P (List.take C.length rows)).map rref) = .lst ((List.filter P rows).map rref) := by
  rw [← h, List.length_map, List.take_length]
theorem sel_map (h : rows.map (·.2) = C) : (rows.filter fun z => p z.2).map (·.2) = C.filter p := by
  rw [← h, List.filter_map]
  rfl
theorem Fr.sel (P : RO β → Bool) (f : Fr H0 H (pre ++ (rosOwn g rows :: ts).flatten)) : Fr H0 H (pre ++ (rosOwn g (rows.filter P) :: ts).flatten) :=
  f.sub (List.Sublist.append (List.Sublist.refl _) (by
    show (rosOwn g (rows.filter P) ++ ts.flatten).Sublist (rosOwn g rows ++ ts.flatten)
    exact List.Sublist.append (List.filter_sublist.map _) (List.Sublist.refl _)))
theorem Fr.tperm (h : rows.Perm rows') (f : Fr H0 H (pre ++ (rosOwn g rows :: ts).flatten)) : Fr H0 H (pre ++ (rosOwn g rows' :: ts).flatten) :=
  f.perm (List.Perm.append_left _ (by
    show (rosOwn g rows ++ ts.flatten).Perm (rosOwn g rows' ++ ts.flatten)
    exact List.Perm.append_right _ (h.map _)))
end
theorem sel_len {β : Type} {rows : List (RO β)} {P : RO β → Bool} {i n : Nat} (h : i ≤ n) (hn : n < 100000) : ((List.filter P (List.take i rows)).map rref).length < sizeLine := by
  rw [List.length_map, sizeLine_eq]
  have h1 := List.length_filter_le P (List.take i rows)
  have h2 := List.length_take_le i rows
  omega
end Rc
namespace Rc
open PySem PySem.Spec PyProof.Rows L2
/-! lists of whole numbers by order -/
def lexGt : List Int → List Int → Bool
  | [], _ => false
  | _ :: _, [] => true
  | x :: xs, y :: ys => if x = y then lexGt xs ys else decide (y < x)
theorem firstLt_map (e r : Nat → Bool) (z : Bool) : ∀ l : List Nat, SeqAt.firstLt e r z (l.map (· + 1)) = SeqAt.firstLt (fun j => e (j + 1)) (fun j => r (j + 1)) z l
  | [] => rfl
  | j :: l => by
    show (if e (j + 1) = true then SeqAt.firstLt e r z (l.map (· + 1)) else r (j + 1)) = (if e (j + 1) = true then SeqAt.firstLt (fun j => e (j + 1)) (fun j => r (j + 1)) z l else r (j + 1))
    rw [firstLt_map e r z l]
theorem firstLt_gt : ∀ ns ms : List Int, SeqAt.firstLt (fun j => decide (ns.getD j 0 = ms.getD j 0)) (fun j => decide (ms.getD j 0 < ns.getD j 0)) (decide (ns.length > ms.length)) (List.range (min ns.length ms.length)) = lexGt ns ms
  | [], ms => by simp [SeqAt.firstLt, lexGt]
  | x :: xs, [] => by simp [SeqAt.firstLt, lexGt]
  | x :: xs, y :: ys => by
    have ih := firstLt_gt xs ys
    have e : List.range (min (x :: xs).length (y :: ys).length) = 0 :: (List.range (min xs.length ys.length)).map (· + 1) := by
      rw [List.length_cons, List.length_cons, show min (xs.length + 1) (ys.length + 1) = min xs.length ys.length + 1 by omega, List.range_succ_eq_map]
    rw [e]
    show (if decide (x = y) = true then SeqAt.firstLt _ _ _ ((List.range (min xs.length ys.length)).map (· + 1)) else decide (y < x)) = (if x = y then lexGt xs ys else decide (y < x))
    by_cases h : x = y
    · rw [if_pos h, if_pos (decide_eq_true h), firstLt_map, ← ih]
      have e3 : decide ((x :: xs).length > (y :: ys).length) = decide (xs.length > ys.length) := by
        congr 1; simp
      rw [e3]; rfl
    · rw [if_neg h, if_neg (by rw [decide_eq_false h]; exact Bool.false_ne_true)]
def rGtL (K : PySem.W.Frag) : R2 := fun x y H Q => ∃ (a b : Addr) (ns ms : List Int), x = .ref a ∧ y = .ref b ∧ SqL K H a (ns.map V.int) ∧ SqL K H b (ms.map V.int) ∧ Q (.bl (lexGt ns ms)) H
theorem op_gtL {X : Cx} (hu : X.A.units < cLine) : OpR X (compareOp .Gt) (rGtL X.K) := by
  intro pins s σ H x y v u Q I rx ry h
  obtain ⟨a, b, ns, ms, rfl, rfl, ha, hb, q⟩ := h
  cases rx
  cases ry
  obtain ⟨its, r1, p1, _⟩ := I.list ha
  obtain ⟨its2, r2, p2, _⟩ := I.list hb
  have i1 : IntsAre its ns := Vals.ints r1
  have i2 : IntsAre its2 ms := Vals.ints r2
  have e1 : its.toArray.size = ns.length := by rw [List.size_toArray]; exact i1.length
  have e2 : its2.toArray.size = ms.length := by rw [List.size_toArray]; exact i2.length
  have at1 : ∀ j (h1 : j < its.toArray.size), ∃ t, its.toArray[j] = .int (ns.getD j 0) t := fun j h1 => PyProof.Rows.IntsAre.int_at i1 _ _ (by simp at h1; simp [h1])
  have at2 : ∀ j (h1 : j < its2.toArray.size), ∃ t, its2.toArray[j] = .int (ms.getD j 0) t := fun j h1 => PyProof.Rows.IntsAre.int_at i2 _ _ (by simp at h1; simp [h1])
  have R := SeqAt.RcOp.lists_gt (A := X.A) (s := s) (e := fun j => decide (ns.getD j 0 = ms.getD j 0)) (r := fun j => decide (ms.getD j 0 < ns.getD j 0)) p1.isList p2.isList hu (fun j h1 h2 => by
    obtain ⟨t, et⟩ := at1 j h1
    obtain ⟨t', et'⟩ := at2 j h2
    rw [et, et']
    have z : (ns.getD j 0 == ms.getD j 0) = decide (ns.getD j 0 = ms.getD j 0) := by
      by_cases q : ns.getD j 0 = ms.getD j 0
      · rw [decide_eq_true q]; exact beq_iff_eq.mpr q
      · rw [decide_eq_false q]; exact beq_eq_false_iff_ne.mpr q
    rw [← z]
    exact SeqAt.EqAt.int_int _ _ _ _) (fun j h1 h2 _ => by
    obtain ⟨t, et⟩ := at1 j h1
    obtain ⟨t', et'⟩ := at2 j h2
    rw [et, et']
    exact fun _ _ _ _ h => PyProof.Rows.gt_int h)
  rw [e1, e2, firstLt_gt] at R
  exact R X.prog X.w X.xe (EP X pins σ Q) ⟨.bl _, H, I, rfl, q⟩
end Rc
namespace Rc
/-- the number of ways to choose -/
def bin : Nat → Nat → Nat
  | _, 0 => 1
  | 0, _ + 1 => 0
  | n + 1, k + 1 => bin n k + bin n (k + 1)
@[simp] theorem bin_zero (n : Nat) : bin n 0 = 1 := by cases n <;> rfl
@[simp] theorem bin_zero_succ (k : Nat) : bin 0 (k + 1) = 0 := rfl
theorem bin_succ (n k : Nat) : bin (n + 1) (k + 1) = bin n k + bin n (k + 1) := rfl
theorem bin_gt : ∀ {n k : Nat}, n < k → bin n k = 0
  | _, 0, h => by omega
  | 0, _ + 1, _ => rfl
  | n + 1, k + 1, h => by rw [bin_succ, bin_gt (show n < k by omega), bin_gt (show n < k + 1 by omega)]
@[simp] theorem bin_self : ∀ n : Nat, bin n n = 1
  | 0 => rfl
  | n + 1 => by rw [bin_succ, bin_self n, bin_gt (Nat.lt_succ_self n)]
theorem bin_one : ∀ n : Nat, bin n 1 = n
  | 0 => rfl
  | n + 1 => by rw [bin_succ, bin_zero, bin_one n]; omega
theorem bin_smul : ∀ n k : Nat, (k + 1) * bin (n + 1) (k + 1) = (n + 1) * bin n k
  | 0, 0 => rfl
  | 0, k + 1 => by rw [bin_succ]; simp
  | n + 1, 0 => by rw [bin_one]; simp
  | n + 1, k + 1 => by
    have h1 := bin_smul n k
    have h2 := bin_smul n (k + 1)
    have e : bin (n + 1) (k + 1) = bin n k + bin n (k + 1) := bin_succ n k
    rw [bin_succ (n + 1) (k + 1)]
    grind
theorem bin_mul (n k : Nat) : (k + 1) * bin n (k + 1) + k * bin n k = n * bin n k := by
  have h := bin_smul n k
  rw [bin_succ] at h
  grind
theorem bin_mulZ (n k : Nat) : (bin n (k + 1) : Int) * (k + 1) = bin n k * ((n : Int) - k) := by
  have h := bin_mul n k
  have h' : ((k : Int) + 1) * bin n (k + 1) + k * bin n k = n * bin n k := by exact_mod_cast h
  grind
theorem bin_add_symm : ∀ a b : Nat, bin (a + b) a = bin (a + b) b
  | 0, b => by simp
  | a + 1, 0 => by simp
  | a + 1, b + 1 => by
    have h1 := bin_add_symm a (b + 1)
    have h2 := bin_add_symm (a + 1) b
    have e1 : a + 1 + (b + 1) = (a + (b + 1)) + 1 := by omega
    have e2 : a + 1 + b = a + (b + 1) := by omega
    rw [e2] at h2
    rw [e1, bin_succ, bin_succ]
    omega
theorem bin_symm {n k : Nat} (h : k ≤ n) : bin n k = bin n (n - k) := by
  have := bin_add_symm k (n - k)
  rwa [show k + (n - k) = n by omega] at this
/-- choose, of whole numbers -/
def chooseZ (n k : Int) : Int := if k < 0 ∨ n < k then 0 else (bin n.toNat k.toNat : Nat)
theorem chooseZ_out {n k : Int} (h : k < 0 ∨ n < k) : chooseZ n k = 0 := if_pos h
theorem chooseZ_in {n k : Int} (h0 : 0 ≤ k) (h1 : k ≤ n) : chooseZ n k = bin n.toNat k.toNat := if_neg (by omega)
theorem chooseZ_min {n k : Int} (h0 : 0 ≤ k) (h1 : k ≤ n) : chooseZ n k = bin n.toNat (min k (n - k)).toNat := by
  rw [chooseZ_in h0 h1]
  by_cases h : k ≤ n - k
  · rw [show min k (n - k) = k by omega]
  · rw [show min k (n - k) = n - k by omega, bin_symm (show k.toNat ≤ n.toNat by omega)]
    congr 2; omega
theorem choose_step {n : Int} {t : Nat} {found : Int} (hf : found = (bin n.toNat t : Nat)) (hn : 0 ≤ n) (ht : (t : Int) < n) : found * (n - t) / (t + 1) = (bin n.toNat (t + 1) : Nat) := by
  have h := bin_mulZ n.toNat t
  rw [Int.toNat_of_nonneg hn] at h
  rw [hf, ← h]
  exact Int.mul_ediv_cancel _ (by omega)
/-- n (n - 1) .. k factors -/
def falling (n : Int) : Nat → Int
  | 0 => 1
  | k + 1 => falling n k * (n - k)
theorem bin_falling (n : Nat) : ∀ k, (bin n k : Int) * falling k k = falling n k := by
  have key : ∀ k j : Nat, falling ((k + 1 : Nat) : Int) (j + 1) = ((k : Int) + 1) * falling k j := by
    intro k j
    induction j with
    | zero => simp [falling]
    | succ j ih => rw [falling, ih, falling]; grind
  intro k
  induction k with
  | zero => simp [falling]
  | succ k ih =>
    rw [key, falling, ← ih]
    have := bin_mulZ n k
    grind
theorem choose_falls {n k : Int} (h0 : 0 ≤ k) (h1 : k ≤ n) : (bin n.toNat k.toNat : Int) * falling k k.toNat = falling n k.toNat := by
  obtain ⟨a, rfl⟩ := Int.eq_ofNat_of_zero_le h0
  obtain ⟨b, rfl⟩ := Int.eq_ofNat_of_zero_le (show 0 ≤ n by omega)
  exact bin_falling b a
theorem chooseZ_pascal {n k : Int} (hn : 0 < n) : chooseZ (n - 1) k + chooseZ (n - 1) (k - 1) = chooseZ n k := by
  by_cases h0 : k < 0
  · rw [chooseZ_out (.inl h0), chooseZ_out (by omega), chooseZ_out (.inl h0)]; rfl
  by_cases h1 : n < k
  · rw [chooseZ_out (by omega), chooseZ_out (by omega), chooseZ_out (.inr h1)]; rfl
  obtain ⟨m, hm⟩ : ∃ m : Nat, n = m + 1 := ⟨(n - 1).toNat, by omega⟩
  subst hm
  have em : ((m : Int) + 1 - 1) = m := by omega
  rw [em, chooseZ_in (n := (m : Int) + 1) (by omega) (by omega)]
  have e1 : ((m : Int) + 1).toNat = m + 1 := by omega
  rw [e1]
  by_cases hk : k = 0
  · subst hk
    rw [chooseZ_in (by omega) (by omega), chooseZ_out (by omega)]; simp
  · obtain ⟨j, hj⟩ : ∃ j : Nat, k = j + 1 := ⟨(k - 1).toNat, by omega⟩
    subst hj
    have e2 : ((j : Int) + 1).toNat = j + 1 := by omega
    have e3 : ((j : Int) + 1 - 1) = j := by omega
    rw [e2, e3, bin_succ]
    rw [chooseZ_in (n := (m : Int)) (k := (j : Int)) (by omega) (by omega), Int.toNat_natCast, Int.toNat_natCast]
    by_cases hl : (j : Int) + 1 ≤ m
    · rw [chooseZ_in (by omega) hl, e2, Int.toNat_natCast]; omega
    · rw [chooseZ_out (by omega), bin_gt (show m < j + 1 by omega)]; simp
theorem chooseZ_sub {n k : Int} (h0 : 0 ≤ k) (h1 : k ≤ n) : chooseZ n (n - k) = chooseZ n k := by
  rw [chooseZ_in (by omega) (by omega), chooseZ_in h0 h1, bin_symm (show k.toNat ≤ n.toNat by omega)]
  congr 2; omega
/-- bounds -/
structure Bd (k : Nat) (i : Int) : Prop where
  lt : i.natAbs < 2 ^ k
theorem Bd.mono {a b : Nat} {i : Int} (h : Bd a i) (hab : a ≤ b) : Bd b i := ⟨Nat.lt_of_lt_of_le h.lt (Nat.pow_le_pow_right (by decide) hab)⟩
theorem Bd.mul {a b : Nat} {i j : Int} (h : Bd a i) (h' : Bd b j) : Bd (a + b) (i * j) := ⟨by
  rw [Int.natAbs_mul, Nat.pow_add]
  exact Nat.mul_lt_mul'' h.lt h'.lt⟩
theorem Bd.one (k : Nat) : Bd (k + 1) 1 := ⟨by
  have := Nat.pow_le_pow_right (n := 2) (by decide) (show 1 ≤ k + 1 by omega)
  have : (1 : Int).natAbs = 1 := rfl
  omega⟩
theorem bin_le_pow (n : Nat) : ∀ k, bin n k ≤ n ^ k := by
  induction n with
  | zero => intro k; cases k <;> simp
  | succ n ih =>
    intro k
    cases k with
    | zero => simp
    | succ k =>
      rw [bin_succ, Nat.pow_succ]
      have h1 := ih k
      have h2 := ih (k + 1)
      have h3 : n ^ k ≤ (n + 1) ^ k := Nat.pow_le_pow_left (by omega) k
      rw [Nat.pow_succ] at h2
      have h4 : n ^ k * n ≤ (n + 1) ^ k * n := Nat.mul_le_mul_right _ h3
      have : (n + 1) ^ k * (n + 1) = (n + 1) ^ k * n + (n + 1) ^ k := by rw [Nat.mul_add, Nat.mul_one]
      omega
theorem Bd.bin {n t B : Nat} (hn : n < 2 ^ B) : Bd (B * t + 1) (Rc.bin n t : Nat) := ⟨by
  rw [Int.natAbs_natCast]
  have h1 := bin_le_pow n t
  have h2 : n ^ t ≤ (2 ^ B) ^ t := Nat.pow_le_pow_left (Nat.le_of_lt hn) t
  rw [← Nat.pow_mul] at h2
  have h3 : 2 ^ (B * t) < 2 ^ (B * t + 1) := Nat.pow_lt_pow_right (by decide) (by omega)
  omega⟩
theorem Bd.falling {n : Int} {B : Nat} (hB : Bd B n) (h0 : 0 ≤ n) : ∀ {t : Nat}, (t : Int) ≤ n → Bd (B * t + 1) (Rc.falling n t)
  | 0, _ => Bd.one _
  | t + 1, h => by
    have h1 : Bd B (n - t) := ⟨by have := hB.lt; omega⟩
    have := (Bd.falling hB h0 (t := t) (by omega)).mul h1
    exact this.mono (by rw [Nat.mul_succ]; omega)
end Rc
namespace Rc
theorem pick60 (c : Int) : 1 ≤ ([60, 12] : List Int).getD (Int.toNat (min 1 (c % 8))) 0 ∧ ([60, 12] : List Int).getD (Int.toNat (min 1 (c % 8))) 0 ≤ 60 := by
  have h : min 1 (c % 8) = 0 ∨ min 1 (c % 8) = 1 := by omega
  rcases h with h | h <;> rw [h] <;> decide
def upto (n : Nat) : List Int := (List.range n).map fun i : Nat => (i : Int)
@[simp] theorem upto_length (n : Nat) : (upto n).length = n := by simp [upto]
theorem upto_succ (n : Nat) : upto (n + 1) = upto n ++ [(n : Int)] := by simp [upto, List.range_succ]
theorem mem_upto {n : Nat} {x : Int} : x ∈ upto n ↔ 0 ≤ x ∧ x < n := by
  unfold upto
  rw [List.mem_map]
  constructor
  · rintro ⟨i, hi, rfl⟩
    have := List.mem_range.mp hi
    omega
  · rintro ⟨h0, h1⟩
    exact ⟨x.toNat, List.mem_range.mpr (by omega), by omega⟩
theorem upto_nodup (n : Nat) : (upto n).Nodup := by
  unfold upto
  rw [List.nodup_iff_pairwise_ne, List.pairwise_map]
  exact (List.nodup_range (n := n)).imp fun h e => h (Int.ofNat.inj e)
theorem upto_getElem? {n i : Nat} (h : i < n) : (upto n)[i]? = some (i : Int) := by
  unfold upto; rw [List.getElem?_map, List.getElem?_range h]; rfl
theorem upto_getElem {n i : Nat} (h : i < (upto n).length) : (upto n)[i] = (i : Int) := by simp [upto]
/-- an order of its cards -/
def IsOrd (xs : List Int) : Prop := xs.Perm (upto xs.length)
theorem IsOrd.nodup {xs : List Int} (h : IsOrd xs) : xs.Nodup := h.nodup_iff.mpr (upto_nodup _)
theorem IsOrd.mem {xs : List Int} (h : IsOrd xs) {x : Int} : x ∈ xs ↔ 0 ≤ x ∧ x < xs.length := by rw [List.Perm.mem_iff h, mem_upto]
theorem IsOrd.bd {xs : List Int} (h : IsOrd xs) {i : Nat} {x : Int} (e : xs[i]? = some x) : 0 ≤ x ∧ x < xs.length := h.mem.mp (List.mem_of_getElem? e)
theorem isOrd_upto (n : Nat) : IsOrd (upto n) := by unfold IsOrd; rw [upto_length]
theorem isOrd_of {xs : List Int} {n : Nat} (h : xs.Perm (upto n)) : IsOrd xs := by
  have := h.length_eq
  rw [upto_length] at this
  unfold IsOrd; rwa [this]
theorem perm_of_nodup : ∀ {xs ys : List Int}, xs.Nodup → (∀ x ∈ xs, x ∈ ys) → ys.length ≤ xs.length → xs.Perm ys
  | [], ys, _, _, hl => by
    have : ys = [] := List.eq_nil_of_length_eq_zero (by simpa using hl)
    subst this; exact List.Perm.refl _
  | x :: xs, ys, hn, hs, hl => by
    have hx : x ∈ ys := hs x List.mem_cons_self
    have h1 := List.perm_cons_erase hx
    have hlen : (ys.erase x).length = ys.length - 1 := List.length_erase_of_mem hx
    have hn' := List.nodup_cons.mp hn
    have ih := perm_of_nodup (ys := ys.erase x) hn'.2 (fun y hy => by
      have hne : y ≠ x := fun e => hn'.1 (e ▸ hy)
      exact (List.mem_erase_of_ne hne).mpr (hs y (List.mem_cons_of_mem _ hy))) (by
        rw [List.length_cons] at hl; omega)
    exact (ih.cons x).trans h1.symm
theorem eraseIdx_perm {α : Type} : ∀ {ls : List α} {k : Nat} (h : k < ls.length), (ls[k] :: ls.eraseIdx k).Perm ls
  | [], _, h => by simp at h
  | _ :: _, 0, _ => List.Perm.refl _
  | x :: ls, k + 1, h => by
    have hk : k < ls.length := by simpa using h
    have ih := eraseIdx_perm hk
    show (ls[k] :: x :: ls.eraseIdx k).Perm (x :: ls)
    exact (List.Perm.swap _ _ _).trans (ih.cons x)
/-- as many different cards below their number -/
theorem isOrd_of_nodup {xs : List Int} (hn : xs.Nodup) (hb : ∀ x ∈ xs, 0 ≤ x ∧ x < xs.length) : IsOrd xs := by
  exact perm_of_nodup hn (fun x hx => mem_upto.mpr (hb x hx)) (by rw [upto_length]; exact Nat.le_refl _)
/-- a card taken out of what is left -/
theorem take_perm {os ls : List Int} {n k : Nat} (h : (os ++ ls).Perm (upto n)) (hk : k < ls.length) : ((os ++ [ls.getD k 0]) ++ ls.eraseIdx k).Perm (upto n) := by
  have e : ls.getD k 0 = ls[k] := by simp [List.getD, hk]
  have h1 : (ls[k] :: ls.eraseIdx k).Perm ls := eraseIdx_perm hk
  refine List.Perm.trans ?_ h
  rw [e, List.append_assoc]
  exact List.Perm.append_left _ h1
def placesI (o : List Int) : List Int := (List.range o.length).map fun c : Nat => (o.idxOf (c : Int) : Int)
def laidI (one other : List Int) : List Int := other.map fun p => one.getD p.toNat 0
@[simp] theorem placesI_length (o : List Int) : (placesI o).length = o.length := by simp [placesI]
@[simp] theorem laidI_length (one other : List Int) : (laidI one other).length = other.length := by simp [laidI]
theorem idxOf_lt {o : List Int} (h : IsOrd o) {c : Nat} (hc : c < o.length) : o.idxOf (c : Int) < o.length := List.idxOf_lt_length_of_mem (h.mem.mpr ⟨by omega, by omega⟩)
theorem idxOf_at {o : List Int} (h : o.Nodup) {i : Nat} {x : Int} (e : o[i]? = some x) : o.idxOf x = i := by
  obtain ⟨hi, rfl⟩ := List.getElem?_eq_some_iff.mp e
  exact h.idxOf_getElem i hi
theorem at_idxOf {o : List Int} {x : Int} (h : x ∈ o) : o.getD (o.idxOf x) 0 = x := by
  have hl := List.idxOf_lt_length_of_mem h
  rw [List.getD_eq_getElem?_getD, List.getElem?_eq_getElem hl, List.getElem_idxOf]; rfl
theorem placesI_getD {o : List Int} {c : Nat} (hc : c < o.length) : (placesI o).getD c 0 = (o.idxOf (c : Int) : Int) := by
  rw [List.getD_eq_getElem?_getD]; simp [placesI, hc]
theorem isOrd_placesI {o : List Int} (h : IsOrd o) : IsOrd (placesI o) := by
  refine isOrd_of_nodup ?_ ?_
  · unfold placesI
    rw [List.nodup_iff_pairwise_ne, List.pairwise_map]
    refine List.Pairwise.imp_of_mem ?_ (List.nodup_range (n := o.length))
    intro a b ha hb hne e
    have ha' := List.mem_range.mp ha
    have hb' := List.mem_range.mp hb
    have e1 : o.idxOf (a : Int) = o.idxOf (b : Int) := by omega
    have h1 := at_idxOf (h.mem.mpr ⟨show (0 : Int) ≤ (a : Int) by omega, show (a : Int) < o.length by omega⟩)
    have h2 := at_idxOf (h.mem.mpr ⟨show (0 : Int) ≤ (b : Int) by omega, show (b : Int) < o.length by omega⟩)
    rw [e1, h2] at h1
    omega
  · intro x hx
    obtain ⟨c, hc, rfl⟩ := List.mem_map.mp hx
    have := idxOf_lt h (List.mem_range.mp hc)
    rw [placesI_length]
    omega
theorem placesI_idxOf {o : List Int} (h : IsOrd o) {i : Nat} {x : Int} (e : o[i]? = some x) : (placesI o).idxOf (i : Int) = x.toNat := by
  have hb := h.bd e
  have hx : x.toNat < o.length := by omega
  refine idxOf_at (isOrd_placesI h).nodup ?_
  unfold placesI
  rw [List.getElem?_map, List.getElem?_range hx]
  have : ((x.toNat : Nat) : Int) = x := by omega
  simp only [Option.map_some, this, idxOf_at h.nodup e]
theorem placesI_placesI {o : List Int} (h : IsOrd o) : placesI (placesI o) = o := by
  apply List.ext_getElem?
  intro i
  by_cases hi : i < o.length
  · have e : o[i]? = some o[i] := List.getElem?_eq_getElem hi
    have := placesI_idxOf h e
    have hb := h.bd e
    rw [e]
    show ((List.range (placesI o).length).map fun c : Nat => ((placesI o).idxOf (c : Int) : Int))[i]? = _
    rw [List.getElem?_map, List.getElem?_range (by simpa using hi)]
    simp only [Option.map_some, this]
    congr 1; omega
  · rw [List.getElem?_eq_none (by simp; omega), List.getElem?_eq_none (by omega)]
theorem laidI_upto {o : List Int} (h : IsOrd o) : laidI (upto o.length) o = o := by
  unfold laidI
  conv => rhs; rw [← List.map_id o]
  apply List.map_congr_left
  intro x hx
  have := h.mem.mp hx
  rw [List.getD_eq_getElem?_getD, upto_getElem? (by omega)]
  simp; omega
theorem laidI_places {o : List Int} (h : IsOrd o) : laidI o (placesI o) = upto o.length := by
  unfold laidI placesI upto
  rw [List.map_map]
  apply List.map_congr_left
  intro c hc
  have hc' := List.mem_range.mp hc
  simp only [Function.comp]
  rw [Int.toNat_natCast]
  exact at_idxOf (h.mem.mpr ⟨by omega, by omega⟩)
theorem laidI_assoc {a b c : List Int} (hb : ∀ p ∈ c, 0 ≤ p ∧ p < b.length) : laidI (laidI a b) c = laidI a (laidI b c) := by
  unfold laidI
  rw [List.map_map]
  apply List.map_congr_left
  intro p hp
  have := hb p hp
  simp only [Function.comp]
  rw [List.getD_eq_getElem?_getD, List.getElem?_map, List.getD_eq_getElem?_getD (l := b), List.getElem?_eq_getElem (show p.toNat < b.length by omega)]
  rfl
theorem isOrd_laidI {a b : List Int} (ha : IsOrd a) (hb : IsOrd b) (hl : a.length = b.length) : IsOrd (laidI a b) := by
  have h1 : (laidI a b).Perm (laidI a (upto b.length)) := List.Perm.map _ hb
  have h2 : laidI a (upto b.length) = a := by
    unfold laidI upto
    rw [List.map_map, ← hl]
    apply List.ext_getElem
    · simp
    · intro i h1 h2
      simp only [List.getElem_map, List.getElem_range, Function.comp, Int.toNat_natCast]
      rw [List.getD_eq_getElem?_getD, List.getElem?_eq_getElem h2]; rfl
  rw [h2] at h1
  exact isOrd_of (h1.trans ha)
/-- the places as they are filled -/
def placesTo (o : List Int) (i : Nat) : List Int := (List.range o.length).map fun c : Nat => if o.idxOf (c : Int) < i then (o.idxOf (c : Int) : Int) else 0
theorem placesTo_zero (o : List Int) : placesTo o 0 = List.replicate o.length 0 := by
  unfold placesTo
  rw [List.eq_replicate_iff]
  simp
theorem placesTo_all {o : List Int} (h : IsOrd o) : placesTo o o.length = placesI o := by
  unfold placesTo placesI
  apply List.map_congr_left
  intro c hc
  rw [if_pos (idxOf_lt h (List.mem_range.mp hc))]
theorem placesTo_next {o : List Int} (h : IsOrd o) {i : Nat} {x : Int} (e : o[i]? = some x) : (placesTo o i).set x.toNat (i : Int) = placesTo o (i + 1) := by
  have hb := h.bd e
  have hi := idxOf_at h.nodup e
  apply List.ext_getElem
  · simp [placesTo]
  · intro c h1 h2
    have hc : c < o.length := by simpa [placesTo] using h2
    simp only [placesTo, List.getElem_set, List.getElem_map, List.getElem_range]
    by_cases ex : x.toNat = c
    · subst ex
      have : ((x.toNat : Nat) : Int) = x := by omega
      rw [if_pos rfl, this, hi, if_pos (by omega)]
    · rw [if_neg ex]
      have hne : o.idxOf (c : Int) ≠ i := by
        intro z
        have h3 := at_idxOf (h.mem.mpr ⟨show (0 : Int) ≤ (c : Int) by omega, show (c : Int) < o.length by omega⟩)
        rw [z, List.getD_eq_getElem?_getD, e] at h3
        simp at h3
        omega
      by_cases h4 : o.idxOf (c : Int) < i
      · rw [if_pos h4, if_pos (by omega)]
      · rw [if_neg h4, if_neg (by omega)]
theorem sorted_eq {a b x y : List Int} (ha : a.Pairwise (· ≤ ·)) (hb : b.Pairwise (· ≤ ·)) (pa : a.Perm x) (pb : b.Perm y) (h : x.Perm y) : a = b := by
  have hp : a.Perm b := pa.trans (h.trans pb.symm)
  clear pa pb h
  induction a generalizing b with
  | nil => exact (List.nil_perm.mp hp).symm
  | cons u a ih =>
    cases b with
    | nil => exact absurd hp.length_eq (by simp)
    | cons v b =>
      have h1 := List.pairwise_cons.mp ha
      have h2 := List.pairwise_cons.mp hb
      have e : u = v := by
        have hu : u ∈ v :: b := hp.mem_iff.mp List.mem_cons_self
        have hv : v ∈ u :: a := hp.mem_iff.mpr List.mem_cons_self
        rcases List.mem_cons.mp hu with e | hu
        · exact e
        · rcases List.mem_cons.mp hv with e | hv
          · exact e.symm
          · have := h1.1 v hv; have := h2.1 u hu; omega
      subst e
      rw [ih h1.2 h2.2 ((List.perm_cons u).mp hp)]
theorem ord_perm {a b : List Int} (ha : IsOrd a) (hb : IsOrd b) (hl : a.length = b.length) : a.Perm b := by
  unfold IsOrd at ha hb
  rw [hl] at ha
  exact ha.trans hb.symm
end Rc
namespace Rc
def isFall (p : List Int) (i : Nat) : Bool := decide (p.getD (i + 1) 0 < p.getD i 0)
/-- the falls among the first c cards -/
def fc (p : List Int) (c : Nat) : Nat := ((List.range (c - 1)).filter (isFall p)).length
def fallsI (o : List Int) : Nat := fc o o.length
theorem fallsI_eq (o : List Int) : ((List.range (Int.toNat ((o.length : Int) - 1))).filter (fun i : Nat => decide (o.getD (Int.toNat ((i : Int) + 1)) 0 < o.getD (Int.toNat (i : Int)) 0))).length = fallsI o := by
  unfold fallsI fc
  have : Int.toNat ((o.length : Int) - 1) = o.length - 1 := by omega
  rw [this]; rfl
theorem fc_succ (p : List Int) (c : Nat) (hc : 1 ≤ c) : fc p (c + 1) = fc p c + if isFall p (c - 1) = true then 1 else 0 := by
  unfold fc
  obtain ⟨d, rfl⟩ : ∃ d, c = d + 1 := ⟨c - 1, by omega⟩
  show ((List.range (d + 1)).filter _).length = ((List.range d).filter _).length + _
  rw [List.range_succ, List.filter_append, List.length_append]
  congr 1
  show _ = if isFall p d = true then 1 else 0
  by_cases h : isFall p d = true
  · rw [if_pos h, List.filter_cons_of_pos h]; rfl
  · rw [if_neg h, List.filter_cons_of_neg h]; rfl
theorem fc_yes {o : List Int} {i : Nat} (h : o.getD (Int.toNat ((i : Int) + 1)) 0 < o.getD (Int.toNat (i : Int)) 0) : (fc o (i + 1) : Int) + 1 = (fc o (i + 1 + 1) : Nat) := by
  rw [fc_succ _ (i + 1) (by omega), if_pos (show isFall o (i + 1 - 1) = true from decide_eq_true h)]; omega
theorem fc_no {o : List Int} {i : Nat} (h : ¬ o.getD (Int.toNat ((i : Int) + 1)) 0 < o.getD (Int.toNat (i : Int)) 0) : (fc o (i + 1) : Int) = (fc o (i + 1 + 1) : Nat) := by
  rw [fc_succ _ (i + 1) (by omega), if_neg (by rw [show isFall o (i + 1 - 1) = false from decide_eq_false h]; exact Bool.false_ne_true)]; omega
theorem fc_run (p : List Int) {c d : Nat} (hcd : c ≤ d) (h : ∀ e, c ≤ e → e < d → 1 ≤ e → isFall p (e - 1) = false) (h1 : 1 ≤ d) : fc p d = if c = 0 then 0 else fc p c := by
  induction d with
  | zero => omega
  | succ d ih =>
    by_cases hd : d = 0
    · subst hd
      by_cases hc : c = 0
      · subst hc; rfl
      · have : c = 1 := by omega
        subst this; rfl
    · by_cases hc : c = d + 1
      · subst hc; rw [if_neg (by omega)]
      · rw [fc_succ p d (by omega), h d (by omega) (by omega) (by omega), ih (by omega) (fun e h1 h2 h3 => h e h1 (by omega) h3) (by omega)]; simp
/-- rounds behind so many cards -/
def roundsAt (p : List Int) (c : Nat) : Int := if c = 0 then 0 else 1 + (fc p c : Int)
/-- one pass from card c on: behind i places cur is looked for -/
structure Pass (o : List Int) (c i cur : Int) : Prop where
  le : 0 ≤ c ∧ c ≤ cur ∧ cur ≤ o.length
  seen : ∀ d : Int, c ≤ d → d < cur → (o.idxOf d : Int) < i
  up : ∀ d : Int, c < d → d < cur → o.idxOf (d - 1) < o.idxOf d
  nx : cur < o.length → (i ≤ o.idxOf cur ∨ (c < cur ∧ o.idxOf cur < o.idxOf (cur - 1)))
theorem Pass.start {o : List Int} {c : Int} (h0 : 0 ≤ c) (h1 : c < o.length) : Pass o c 0 c :=
  ⟨⟨h0, Int.le_refl _, by omega⟩, fun d _ _ => by omega, fun d _ _ => by omega, fun _ => .inl (by omega)⟩
theorem Pass.hit {o : List Int} {c cur : Int} {i : Nat} (ho : IsOrd o) (p : Pass o c i cur) (e : o[i]? = some cur) : Pass o c ((i : Int) + 1) (cur + 1) := by
  have hi := idxOf_at ho.nodup e
  have hb := ho.bd e
  have hl := p.le
  refine ⟨by omega, fun d h1 h2 => ?_, fun d h1 h2 => ?_, fun h => ?_⟩
  · by_cases hd : d = cur
    · subst hd; omega
    · have := p.seen d h1 (by omega); omega
  · by_cases hd : d = cur
    · subst hd
      have := p.seen (d - 1) (by omega) (by omega)
      omega
    · exact p.up d h1 (by omega)
  · by_cases hq : (i : Int) + 1 ≤ o.idxOf (cur + 1)
    · exact .inl hq
    · refine .inr ⟨by omega, ?_⟩
      rw [show cur + 1 - 1 = cur by omega, hi]
      have hne : o.idxOf (cur + 1) ≠ i := fun z => by
        have h3 := at_idxOf (ho.mem.mpr ⟨show (0 : Int) ≤ cur + 1 by omega, h⟩)
        rw [z, List.getD_eq_getElem?_getD, e] at h3
        simp at h3
        omega
      omega
theorem Pass.miss {o : List Int} {c cur x : Int} {i : Nat} (ho : IsOrd o) (p : Pass o c i cur) (e : o[i]? = some x) (hne : ¬ x = cur) : Pass o c ((i : Int) + 1) cur := by
  have hl := p.le
  refine ⟨hl, fun d h1 h2 => by have := p.seen d h1 h2; omega, p.up, fun h => ?_⟩
  rcases p.nx h with q | q
  · left
    have : o.idxOf cur ≠ i := fun z => by
      have h3 := at_idxOf (ho.mem.mpr ⟨show (0 : Int) ≤ cur by omega, h⟩)
      rw [z, List.getD_eq_getElem?_getD, e] at h3
      simp at h3
      omega
    omega
  · exact .inr q
theorem Pass.more {o : List Int} {c cur : Int} (ho : IsOrd o) (hc : c < o.length) (p : Pass o c o.length cur) : c < cur := by
  have hl := p.le
  by_cases h : c = cur
  · subst h
    rcases p.nx hc with q | q
    · have := List.idxOf_lt_length_of_mem (ho.mem.mpr ⟨hl.1, hc⟩); omega
    · omega
  · omega
theorem placesI_at {o : List Int} {d : Nat} (h : d < o.length) : (placesI o).getD d 0 = (o.idxOf (d : Int) : Int) := placesI_getD h
theorem Pass.rounds {o : List Int} {c cur r : Int} (ho : IsOrd o) (hc : c < o.length) (p : Pass o c o.length cur) (hr : r = roundsAt (placesI o) c.toNat)
    (hs : c = 0 ∨ c = o.length ∨ isFall (placesI o) (c.toNat - 1) = true) : r + 1 = roundsAt (placesI o) cur.toNat := by
  have hl := p.le
  have hm := p.more ho hc
  obtain ⟨a, rfl⟩ := Int.eq_ofNat_of_zero_le hl.1
  obtain ⟨b, rfl⟩ := Int.eq_ofNat_of_zero_le (show 0 ≤ cur by omega)
  rw [Int.toNat_natCast] at *
  have key := fc_run (placesI o) (c := a + 1) (d := b) (by omega) (fun e h1 h2 h3 => by
    have hu := p.up (e : Int) (by omega) (by omega)
    unfold isFall
    rw [placesI_at (by omega), placesI_at (by omega)]
    have e1 : ((e - 1 + 1 : Nat) : Int) = e := by omega
    have e2 : ((e - 1 : Nat) : Int) = (e : Int) - 1 := by omega
    rw [e1, e2]
    exact decide_eq_false (by omega)) (by omega)
  rw [if_neg (by omega)] at key
  unfold roundsAt at *
  rw [if_neg (show ¬ b = 0 by omega), key, hr]
  by_cases h0 : a = 0
  · subst h0; rfl
  · rw [if_neg h0, fc_succ _ _ (by omega)]
    rcases hs with q | q | q
    · omega
    · omega
    · rw [if_pos q]; omega
theorem Pass.fall {o : List Int} {c cur : Int} (ho : IsOrd o) (hc : c < o.length) (p : Pass o c o.length cur) : cur = 0 ∨ cur = o.length ∨ isFall (placesI o) (cur.toNat - 1) = true := by
  have hl := p.le
  have hm := p.more ho hc
  by_cases h : cur < o.length
  · right; right
    rcases p.nx h with q | q
    · have := List.idxOf_lt_length_of_mem (ho.mem.mpr ⟨show 0 ≤ cur by omega, h⟩); omega
    · obtain ⟨b, rfl⟩ := Int.eq_ofNat_of_zero_le (show 0 ≤ cur by omega)
      rw [Int.toNat_natCast]
      unfold isFall
      rw [placesI_at (by omega), placesI_at (by omega)]
      have e1 : ((b - 1 + 1 : Nat) : Int) = b := by omega
      have e2 : ((b - 1 : Nat) : Int) = (b : Int) - 1 := by omega
      rw [e1, e2]
      exact decide_eq_true (by omega)
  · omega
/-- runs -/
def runsI (o : List Int) : Nat := 1 + fallsI (placesI o)
theorem taken_runs {o : List Int} {c r : Int} (h1 : 1 ≤ o.length) (hc : c = o.length) (hr : r = roundsAt (placesI o) c.toNat) : r = runsI o := by
  subst hc
  rw [hr, Int.toNat_natCast]
  unfold roundsAt runsI fallsI
  rw [if_neg (by omega), placesI_length]; omega
theorem range_rev (m : Nat) : (List.range m).map (fun i => m - 1 - i) = (List.range m).reverse := by
  apply List.ext_getElem
  · simp
  · intro i h1 h2
    simp at h1 ⊢
theorem count_rev (m : Nat) (p : Nat → Bool) : ((List.range m).filter fun i => p (m - 1 - i)).length = ((List.range m).filter p).length := by
  have h1 : ((List.range m).filter fun i => p (m - 1 - i)).length = (((List.range m).map fun i => m - 1 - i).filter p).length := by
    rw [List.filter_map, List.length_map]; rfl
  rw [h1, range_rev, List.filter_reverse, List.length_reverse]
theorem count_not (l : List Nat) (p : Nat → Bool) : (l.filter p).length + (l.filter fun i => !p i).length = l.length := by
  induction l with
  | nil => rfl
  | cons x l ih =>
    cases h : p x <;> simp [List.filter_cons, h] <;> omega
theorem falls_reverse {o : List Int} (hn : o.Nodup) (h1 : 1 ≤ o.length) : (fallsI o.reverse : Int) = (o.length : Int) - 1 - fallsI o := by
  unfold fallsI fc
  rw [List.length_reverse]
  have hc := count_not (List.range (o.length - 1)) (isFall o)
  have hr := count_rev (o.length - 1) (fun i => !isFall o i)
  have he : ((List.range (o.length - 1)).filter (isFall o.reverse)).length = ((List.range (o.length - 1)).filter fun i => !isFall o (o.length - 1 - 1 - i)).length := by
    congr 1
    apply List.filter_congr
    intro i hi
    have hi' := List.mem_range.mp hi
    have e1 : o.reverse.getD (i + 1) 0 = o.getD (o.length - 1 - 1 - i) 0 := by
      rw [List.getD_eq_getElem?_getD, List.getElem?_reverse (by omega), List.getD_eq_getElem?_getD]
      congr 2; omega
    have e2 : o.reverse.getD i 0 = o.getD (o.length - 1 - 1 - i + 1) 0 := by
      rw [List.getD_eq_getElem?_getD, List.getElem?_reverse (by omega), List.getD_eq_getElem?_getD]
      congr 2; omega
    unfold isFall
    rw [e1, e2]
    generalize hj : o.length - 1 - 1 - i = j
    have hj1 : j + 1 < o.length := by omega
    have hne : o.getD j 0 ≠ o.getD (j + 1) 0 := by
      intro z
      have q1 : o[j]? = some (o.getD j 0) := by rw [List.getD_eq_getElem?_getD, List.getElem?_eq_getElem (by omega)]; rfl
      have q2 : o[j + 1]? = some (o.getD (j + 1) 0) := by rw [List.getD_eq_getElem?_getD, List.getElem?_eq_getElem hj1]; rfl
      have := idxOf_at hn q1
      have := idxOf_at hn q2
      rw [z] at *
      omega
    by_cases hlt : o.getD j 0 < o.getD (j + 1) 0
    · rw [decide_eq_true hlt, decide_eq_false (by omega)]; rfl
    · rw [decide_eq_false hlt, decide_eq_true (by omega)]; rfl
  rw [he, hr]
  rw [List.length_range] at hc
  omega
theorem runs_places {o : List Int} (h : IsOrd o) : runsI (placesI o) = fallsI o + 1 := by
  unfold runsI; rw [placesI_placesI h]; omega
end Rc
namespace Rc
/-- orders by their falls -/
def eul : Nat → Nat → Nat
  | 0, 0 => 1
  | 0, _ + 1 => 0
  | m + 1, 0 => eul m 0
  | m + 1, k + 1 => (k + 2) * eul m (k + 1) + (m - k) * eul m k
def eulRow (n : Nat) : List Int := (List.range n).map fun k => (eul n k : Int)
@[simp] theorem eulRow_length (n : Nat) : (eulRow n).length = n := by simp [eulRow]
theorem eul_s0 (m : Nat) : eul (m + 1) 0 = eul m 0 := by cases m <;> rfl
theorem eul_ss (m k : Nat) : eul (m + 1) (k + 1) = (k + 2) * eul m (k + 1) + (m - k) * eul m k := by cases m <;> rfl
theorem eul_gt : ∀ {m k : Nat}, m < k → eul m k = 0
  | _, 0, h => by omega
  | 0, _ + 1, _ => rfl
  | m + 1, k + 1, h => by rw [eul_ss, eul_gt (show m < k + 1 by omega), eul_gt (show m < k by omega)]; simp
theorem eul_self (m : Nat) : eul (m + 1) (m + 1) = 0 := by
  rw [eul_ss, eul_gt (Nat.lt_succ_self m)]; simp
theorem eul_zero : ∀ m : Nat, eul m 0 = 1
  | 0 => rfl
  | m + 1 => by rw [eul_s0, eul_zero m]
theorem eul_le : ∀ {m : Nat} (k : Nat), m ≤ 60 → eul m k ≤ 64 ^ m
  | 0, 0, _ => by decide
  | 0, _ + 1, _ => by simp [eul]
  | m + 1, 0, h => by rw [eul_zero]; exact Nat.one_le_pow _ _ (by decide)
  | m + 1, k + 1, h => by
    by_cases hk : k ≤ m
    · have h1 := eul_le (m := m) (k + 1) (by omega)
      have h2 := eul_le (m := m) k (by omega)
      rw [eul_ss, Nat.pow_succ]
      have a := Nat.mul_le_mul_left (k + 2) h1
      have b := Nat.mul_le_mul_left (m - k) h2
      have c : (k + 2) * 64 ^ m + (m - k) * 64 ^ m = (m + 2) * 64 ^ m := by rw [← Nat.add_mul]; congr 1; omega
      have d : (m + 2) * 64 ^ m ≤ 64 * 64 ^ m := Nat.mul_le_mul_right _ (by omega)
      omega
    · rw [eul_gt (by omega)]; exact Nat.zero_le _
theorem Bd.eul {m : Nat} (k : Nat) (h : m ≤ 60) : Bd 361 (Rc.eul m k : Nat) := ⟨by
  rw [Int.natAbs_natCast]
  have h1 := eul_le k h
  have h2 : (64 : Nat) ^ m ≤ 64 ^ 60 := Nat.pow_le_pow_right (by decide) h
  have h3 : (64 : Nat) ^ 60 < 2 ^ 361 := by decide
  omega⟩
theorem eul_symm : ∀ (m k : Nat), k ≤ m → eul (m + 1) k = eul (m + 1) (m - k)
  | 0, k, h => by rw [show k = 0 by omega]
  | m + 1, 0, _ => by
    rw [show m + 1 - 0 = m + 1 by omega, eul_ss (m + 1) m, eul_self, eul_zero]
    have := eul_symm m 0 (by omega)
    rw [eul_zero] at this
    rw [show m - 0 = m by omega] at this
    rw [← this]; simp
  | m + 1, k + 1, h => by
    by_cases hk : k = m
    · subst hk
      rw [show k + 1 - (k + 1) = 0 by omega, eul_zero, eul_ss, eul_self]
      have := eul_symm k 0 (by omega)
      rw [eul_zero, show k - 0 = k by omega] at this
      rw [← this]; simp
    · obtain ⟨j, hj⟩ : ∃ j, m = k + 1 + j := ⟨m - k - 1, by omega⟩
      have e1 := eul_symm m (k + 1) (by omega)
      have e2 := eul_symm m k (by omega)
      rw [show m + 1 - (k + 1) = j + 1 by omega]
      rw [eul_ss (m + 1) k, eul_ss (m + 1) j, e1, e2, show m - (k + 1) = j by omega, show m - k = j + 1 by omega,
        show m + 1 - k = j + 2 by omega, show m + 1 - j = k + 2 by omega]
      omega
theorem eulRow_reverse {n : Nat} (h : 1 ≤ n) : (eulRow n).reverse = eulRow n := by
  obtain ⟨m, rfl⟩ : ∃ m, n = m + 1 := ⟨n - 1, by omega⟩
  apply List.ext_getElem?
  intro i
  by_cases hi : i < m + 1
  · rw [List.getElem?_reverse (by simpa using hi)]
    simp only [eulRow, List.length_map, List.length_range]
    rw [List.getElem?_map, List.getElem?_map, List.getElem?_range (by omega), List.getElem?_range hi]
    simp only [Option.map_some]
    rw [show m + 1 - 1 - i = m - i by omega, ← eul_symm m i (by omega)]
  · rw [List.getElem?_eq_none (by simpa using by omega), List.getElem?_eq_none (by simpa using by omega)]
/-- a row's number, and nought beside it -/
theorem wider_getD (m k : Nat) : (([0] ++ eulRow m) ++ [0]).getD (k + 1) 0 = if k < m then (eul m k : Int) else 0 := by
  simp only [List.getD_eq_getElem?_getD]
  by_cases h : k < m
  · rw [if_pos h, List.getElem?_append_left (by simp; omega), List.getElem?_append_right (by simp)]
    simp [eulRow, h]
  · rw [if_neg h]
    by_cases h2 : k = m
    · rw [List.getElem?_append_right (by simp; omega)]
      simp [h2]
    · rw [List.getElem?_eq_none (by simp; omega)]; rfl
theorem wider_zero (m : Nat) : (([0] ++ eulRow m) ++ [0]).getD 0 0 = 0 := by simp
theorem wider_bd {m : Nat} (h : m ≤ 60) (k : Nat) : Bd 361 ((([0] ++ eulRow m) ++ [0]).getD k 0) := by
  cases k with
  | zero => rw [wider_zero]; exact ⟨by decide⟩
  | succ k =>
    rw [wider_getD]
    split
    · exact Bd.eul _ h
    · exact ⟨by decide⟩
theorem eul_next {m : Nat} : (List.range (m + 2)).map (fun i : Nat => ((i : Int) + 1) * (([0] ++ eulRow (m + 1)) ++ [0]).getD (i + 1) 0 + (2 + (m : Int) - i) * (([0] ++ eulRow (m + 1)) ++ [0]).getD i 0) = eulRow (m + 2) := by
  rw [show eulRow (m + 2) = (List.range (m + 2)).map fun k => (eul (m + 2) k : Int) from rfl]
  apply List.map_congr_left
  intro i hi
  have hi := List.mem_range.mp hi
  rw [wider_getD]
  cases i with
  | zero =>
    rw [wider_zero, if_pos (by omega), eul_zero, eul_zero]; simp
  | succ k =>
    rw [wider_getD, if_pos (show k < m + 1 by omega), eul_ss (m + 1) k]
    by_cases hk : k + 1 < m + 1
    · rw [if_pos hk]
      obtain ⟨j, rfl⟩ : ∃ j, m = k + 1 + j := ⟨m - k - 1, by omega⟩
      rw [show k + 1 + j + 1 - k = j + 2 by omega]
      push_cast
      grind
    · have : k = m := by omega
      subst this
      rw [if_neg hk, eul_self, show k + 1 - k = 1 by omega]
      push_cast
      grind
/-- Worpitzky's law -/
theorem worp_id (x K n : Nat) (h : K ≤ n) : (K + 1) * bin (x + K) (n + 1) + (n - K) * bin (x + K + 1) (n + 1) = x * bin (x + K) n := by
  have h1 := bin_mul (x + K) n
  rw [bin_succ]
  obtain ⟨j, rfl⟩ : ∃ j, n = K + j := ⟨n - K, by omega⟩
  rw [show K + j - K = j by omega]
  have h2 : ((K + j) + 1) * bin (x + K) (K + j + 1) + (K + j) * bin (x + K) (K + j) = (x + K) * bin (x + K) (K + j) := h1
  grind
def worpS (x n : Nat) : Nat → Nat
  | 0 => 0
  | K + 1 => worpS x n K + eul n K * bin (x + K) n
theorem worp_step (x n : Nat) : ∀ K, K ≤ n → worpS x (n + 1) (K + 1) + (n - K) * (eul n K * bin (x + K + 1) (n + 1)) = x * worpS x n (K + 1)
  | 0, _ => by
    have := worp_id x 0 n (by omega)
    simp only [worpS, eul_zero, Nat.add_zero, Nat.zero_add, Nat.one_mul, Nat.sub_zero] at this ⊢
    exact this
  | K + 1, h => by
    have ih := worp_step x n K (by omega)
    have id := worp_id x (K + 1) n h
    rw [show worpS x n (K + 1 + 1) = worpS x n (K + 1) + eul n (K + 1) * bin (x + (K + 1)) n from rfl, show worpS x (n + 1) (K + 1 + 1) = worpS x (n + 1) (K + 1) + eul (n + 1) (K + 1) * bin (x + (K + 1)) (n + 1) from rfl, Nat.mul_add, ← ih, eul_ss]
    have e : x * (eul n (K + 1) * bin (x + (K + 1)) n) = eul n (K + 1) * (x * bin (x + (K + 1)) n) := by
      rw [← Nat.mul_assoc, Nat.mul_comm x, Nat.mul_assoc]
    rw [e, ← id, show x + K + 1 = x + (K + 1) by omega]
    grind
theorem worp : ∀ (n x : Nat), worpS x n (n + 1) = x ^ n
  | 0, x => by simp [worpS, eul]
  | n + 1, x => by
    have h := worp_step x n n (Nat.le_refl _)
    have ih := worp n x
    rw [worpS, eul_self, Nat.pow_succ, ← ih]
    simp only [Nat.sub_self, Nat.zero_mul, Nat.add_zero] at h ⊢
    rw [h, Nat.mul_comm]
theorem worp_all {n : Nat} (x : Nat) (h : 1 ≤ n) : worpS x n n = x ^ n := by
  obtain ⟨m, rfl⟩ : ∃ m, n = m + 1 := ⟨n - 1, by omega⟩
  have := worp (m + 1) x
  rwa [worpS, eul_self, Nat.zero_mul, Nat.add_zero] at this
theorem worp_sum (x n : Nat) (f : Nat → Int) (hf : ∀ k, k < n → f k = (eul n k : Int) * (bin (x + k) n : Int)) : ∀ K, K ≤ n → ((List.range K).map f).sum = (worpS x n K : Int)
  | 0, _ => rfl
  | K + 1, h => by
    rw [List.range_succ, List.map_append, List.sum_append, worp_sum x n f hf K (by omega), worpS]
    simp [hf K (by omega)]
theorem worpitzky {n : Nat} {x : Int} (h0 : 0 ≤ x) (h : 1 ≤ n) (f : Nat → Int) (hf : ∀ k, k < n → f k = (eulRow n).getD k 0 * chooseZ (x + k) n) : ((List.range n).map f).sum = x ^ n := by
  obtain ⟨y, rfl⟩ := Int.eq_ofNat_of_zero_le h0
  rw [worp_sum y n f ?_ n (Nat.le_refl _), worp_all y h]
  · simp
  · intro k hk
    rw [hf k hk]
    congr 1
    · simp [eulRow, hk, List.getD_eq_getElem?_getD]
    · unfold chooseZ
      split
      · rename_i hc
        rw [bin_gt (by omega)]; rfl
      · congr 2
theorem Bd.pow {B : Nat} {x : Int} (h : Bd B x) : ∀ i : Nat, Bd (B * i + 1) (x ^ i)
  | 0 => by simpa using Bd.one 0
  | i + 1 => by
    rw [Int.pow_succ, show B * (i + 1) + 1 = (B * i + 1) + B by rw [Nat.mul_succ]; omega]
    exact (Bd.pow h i).mul h
theorem eulRow_bd {n : Nat} (h : n ≤ 60) (k : Nat) : Bd 361 ((eulRow n).getD k 0) := by
  by_cases hk : k < n
  · rw [show (eulRow n).getD k 0 = (eul n k : Int) by simp [eulRow, hk, List.getD_eq_getElem?_getD]]
    exact Bd.eul _ h
  · rw [show (eulRow n).getD k 0 = 0 by rw [List.getD_eq_getElem?_getD, List.getElem?_eq_none (by simpa using by omega)]; rfl]
    exact ⟨by decide⟩
theorem Bd.choose {n k : Int} {B : Nat} (hn : n < 2 ^ B) (hk : 0 ≤ k) (hk2 : k ≤ 60) : Bd (B * 60 + 1) (chooseZ n k) := by
  unfold chooseZ
  split
  · exact ⟨by have := Nat.pow_le_pow_right (n := 2) (by decide) (show 1 ≤ B * 60 + 1 by omega); show 0 < _; omega⟩
  · have e : n.toNat < 2 ^ B := by
      have : ((2 ^ B : Nat) : Int) = 2 ^ B := by push_cast; rfl
      omega
    exact (Bd.bin e).mono (by have := Nat.mul_le_mul_left B (show k.toNat ≤ 60 by omega); omega)
/-- the orders that a number draws -/
def drawTo (x : Int) (n : Nat) : Nat → List Int × List Int × Int
  | 0 => ([], upto n, x)
  | k + 1 =>
    let s := drawTo x n k
    (s.1 ++ [s.2.1.getD (Int.toNat (s.2.2 % (s.2.1.length : Int))) 0], s.2.1.eraseIdx (Int.toNat (s.2.2 % (s.2.1.length : Int))), s.2.2 / ((n : Int) - k))
def drawI (x : Int) (n : Nat) : List Int := (drawTo x n n).1
def factI : Nat → Int
  | 0 => 1
  | k + 1 => factI k * (k + 1)
theorem factI_6 : ∀ {n : Nat}, n ≤ 6 → 1 ≤ factI n ∧ factI n ≤ 720
  | 0, _ | 1, _ | 2, _ | 3, _ | 4, _ | 5, _ | 6, _ => by decide
def listTo (n : Nat) : Nat → List Int
  | 0 => List.replicate n 0
  | j + 1 => (listTo n j).set (fallsI (drawI j n)) ((listTo n j).getD (fallsI (drawI j n)) 0 + 1)
@[simp] theorem listTo_length (n : Nat) : ∀ j, (listTo n j).length = n
  | 0 => by simp [listTo]
  | j + 1 => by rw [listTo, List.length_set, listTo_length n j]
def listedI (n : Nat) : List Int := listTo n (factI n).toNat
set_option maxRecDepth 100000 in
theorem listed_fin : ∀ n : Fin 6, eulRow (n.1 + 1) = listedI (n.1 + 1) := by decide +kernel
theorem listed_eul {n : Nat} (h1 : 1 ≤ n) (h2 : n ≤ 6) : eulRow n = listedI n := by
  have := listed_fin ⟨n - 1, by omega⟩
  rwa [show n - 1 + 1 = n by omega] at this
theorem drawTo_len (x : Int) (n : Nat) : ∀ k, (drawTo x n k).1.length = k
  | 0 => rfl
  | k + 1 => by rw [drawTo]; simp [drawTo_len x n k]
theorem drawI_length (x : Int) (n : Nat) : (drawI x n).length = n := drawTo_len x n n
theorem falls_count {o : List Int} {n : Int} (h : o.length = Int.toNat n) (h1 : 1 ≤ n) : (List.map (fun i : Nat => (i : Int)) (List.filter (fun i : Nat => decide (o.getD (Int.toNat ((i : Int) + 1)) 0 < o.getD (Int.toNat (i : Int)) 0)) (List.range (Int.toNat (n - 1))))).length = fallsI o := by
  rw [List.length_map, ← fallsI_eq, show n - 1 = (o.length : Int) - 1 by omega]
theorem fallsI_lt {o : List Int} {n : Int} (h : o.length = Int.toNat n) (h1 : 1 ≤ n) : (fallsI o : Int) < n := by
  rw [← falls_count h h1, List.length_map]
  have := List.length_filter_le (fun i : Nat => decide (o.getD (Int.toNat ((i : Int) + 1)) 0 < o.getD (Int.toNat (i : Int)) 0)) (List.range (Int.toNat (n - 1)))
  rw [List.length_range] at this
  omega
end Rc
namespace Rc
theorem gcd_step {a b : Int} : Int.gcd b (a % b) = Int.gcd a b := by
  have h := Int.gcd_add_mul_left_right b (a % b) (a / b)
  rw [Int.emod_add_mul_ediv] at h
  rw [← h, Int.gcd_comm]
theorem gcd_zero' {a : Int} (h : 0 ≤ a) : ((Int.gcd a 0 : Nat) : Int) = a := by
  rw [Int.gcd_zero_right]; omega
theorem gcd_pos' {a b : Int} (h : 1 ≤ b) : 1 ≤ ((Int.gcd a b : Nat) : Int) := by
  have := Int.gcd_pos_of_ne_zero_right a (show b ≠ 0 by omega)
  omega
theorem gcd_le' {a b : Int} (h : 1 ≤ b) : ((Int.gcd a b : Nat) : Int) ≤ b := by
  have : (Int.gcd a b : Int) ∣ b := Int.gcd_dvd_right ..
  exact Int.le_of_dvd (by omega) this
theorem Bd.gcd {a b : Int} {B : Nat} (h : 1 ≤ b) (hb : Bd B b) : Bd B ((Int.gcd a b : Nat) : Int) := ⟨by
  have h1 := hb.lt
  have := gcd_le' (a := a) h
  omega⟩
theorem frac_eq (a b : Int) : a / (Int.gcd a b : Int) * b = a * (b / (Int.gcd a b : Int)) := by
  obtain ⟨x, hx⟩ : (Int.gcd a b : Int) ∣ a := Int.gcd_dvd_left ..
  obtain ⟨y, hy⟩ : (Int.gcd a b : Int) ∣ b := Int.gcd_dvd_right ..
  by_cases h : (Int.gcd a b : Int) = 0
  · rw [h] at hx hy
    have hx0 : a = 0 := by simpa using hx
    have hy0 : b = 0 := by simpa using hy
    simp [hx0, hy0]
  · generalize hg : (Int.gcd a b : Int) = g at *
    rw [hx, hy, Int.mul_ediv_cancel_left _ h, Int.mul_ediv_cancel_left _ h]
    grind
theorem frac_cop {a b : Int} (h : 1 ≤ b) : Int.gcd (a / (Int.gcd a b : Int)) (b / (Int.gcd a b : Int)) = 1 :=
  Int.gcd_ediv_gcd_ediv_gcd (by have := gcd_pos' (a := a) h; omega)
theorem frac_pos {a b : Int} (h : 1 ≤ b) : 1 ≤ b / (Int.gcd a b : Int) := by
  have h1 := gcd_pos' (a := a) h
  exact (Int.le_ediv_iff_mul_le (by omega)).mpr (by have := gcd_le' (a := a) h; omega)
theorem frac_zero {a b : Int} (h0 : 0 ≤ a) (h : 1 ≤ b) : a / (Int.gcd a b : Int) = 0 ↔ a = 0 := by
  constructor
  · intro e
    have := frac_eq a b
    rw [e] at this
    have hp := frac_pos (a := a) h
    have h0' : a * (b / (Int.gcd a b : Int)) = 0 := by simpa using this.symm
    rcases Int.mul_eq_zero.mp h0' with h | h
    · exact h
    · omega
  · intro e; subst e; simp
theorem Bd.div {a b : Int} {B : Nat} (h : Bd B a) (h0 : 0 ≤ a) (hb : 1 ≤ b) : Bd B (a / b) := ⟨by
  have h1 := Int.ediv_le_self b h0
  have h2 := Int.ediv_nonneg h0 (show 0 ≤ b by omega)
  have := h.lt
  omega⟩
theorem Bd.add {a : Nat} {i j : Int} (h : Bd a i) (h' : Bd a j) : Bd (a + 1) (i + j) := ⟨by
  have h1 := h.lt
  have h2 := h'.lt
  have : 2 ^ (a + 1) = 2 * 2 ^ a := by rw [Nat.pow_succ, Nat.mul_comm]
  omega⟩
/-- chances -/
theorem falling_fact (k : Nat) : falling ((k + 1 : Nat) : Int) (k + 1) = ((k : Int) + 1) * falling k k := by
  have key : ∀ k j : Nat, falling ((k + 1 : Nat) : Int) (j + 1) = ((k : Int) + 1) * falling k j := by
    intro k j
    induction j with
    | zero => simp [falling]
    | succ j ih => rw [falling, ih, falling]; grind
  exact key k k
def factN (k : Nat) : Int := falling k k
theorem factN_succ (k : Nat) : factN k * ((k : Int) + 1) = factN (k + 1) := by
  unfold factN; rw [falling_fact, Int.mul_comm]
theorem factN_pos : ∀ k : Nat, 0 < factN k
  | 0 => by decide
  | k + 1 => by rw [← factN_succ]; exact Int.mul_pos (factN_pos k) (by omega)
theorem choose_div {n : Int} {k : Nat} (h0 : 0 ≤ n) (h1 : (k : Int) ≤ n) : falling n k / factN k = chooseZ n k := by
  rw [chooseZ_in (by omega) h1]
  have := choose_falls (n := n) (k := k) (by omega) h1
  rw [Int.toNat_natCast] at this ⊢
  unfold factN
  rw [← this]
  exact Int.mul_ediv_cancel _ (by have := factN_pos k; unfold factN at this; omega)
theorem Bd.factN {k : Nat} (h : k ≤ 30) : Bd 200 (Rc.factN k) := by
  have := Bd.falling (n := k) (B := 5) ⟨by omega⟩ (by omega) (t := k) (by omega)
  exact this.mono (by omega)
theorem chooseZ_nonneg (n k : Int) : 0 ≤ chooseZ n k := by unfold chooseZ; split <;> omega
theorem bin_mono {a b : Nat} (h : a ≤ b) : ∀ k, bin a k ≤ bin b k := by
  induction h with
  | refl => intro k; exact Nat.le_refl _
  | step _ ih =>
    intro k
    cases k with
    | zero => simp
    | succ k => rw [bin_succ]; have := ih (k + 1); omega
theorem chooseZ_mono {a b k : Int} (h : a ≤ b) : chooseZ a k ≤ chooseZ b k := by
  by_cases hk : 0 ≤ k ∧ k ≤ a
  · rw [chooseZ_in hk.1 hk.2, chooseZ_in hk.1 (by omega)]
    exact_mod_cast bin_mono (show a.toNat ≤ b.toNat by omega) k.toNat
  · rw [chooseZ_out (n := a) (by omega)]; exact chooseZ_nonneg _ _
theorem chooseZ_zero_iff {n h r : Int} (hn : 1 ≤ n) (hr : r ≤ n) (hh : 1 ≤ h) : chooseZ (h + n - r) n = 0 ↔ h < r := by
  constructor
  · intro e
    by_cases hc : h < r
    · exact hc
    · exfalso
      rw [chooseZ_in (by omega) (by omega)] at e
      have : 0 < bin (h + n - r).toNat n.toNat := by
        have h1 := bin_mono (show n.toNat ≤ (h + n - r).toNat by omega) n.toNat
        rw [bin_self] at h1; omega
      omega
  · intro hc; exact chooseZ_out (by omega)
/-- the sum by runs -/
def totI (n : Nat) (h : Int) (i : Nat) : Int := ((List.range i).map fun k : Nat => (eulRow n).getD k 0 * chooseZ (h + n - (1 + k)) n).sum
theorem totI_succ (n : Nat) (h : Int) (i : Nat) : totI n h (i + 1) = totI n h i + (eulRow n).getD i 0 * chooseZ (h + n - (1 + i)) n := by
  unfold totI; rw [List.range_succ, List.map_append, List.sum_append]; simp
theorem eulRow_getD {n k : Nat} (h : k < n) : (eulRow n).getD k 0 = (eul n k : Int) := by simp [eulRow, h, List.getD_eq_getElem?_getD]
theorem eulRow_symm {n k : Nat} (h : k < n) : (eulRow n).getD (n - 1 - k) 0 = (eulRow n).getD k 0 := by
  rw [eulRow_getD h, eulRow_getD (by omega)]
  obtain ⟨m, rfl⟩ : ∃ m, n = m + 1 := ⟨n - 1, by omega⟩
  rw [show m + 1 - 1 - k = m - k by omega, ← eul_symm m k (by omega)]
theorem totI_all {n : Nat} {h : Int} (h0 : 0 ≤ h) (h1 : 1 ≤ n) : totI n h n = h ^ n := by
  rw [← worpitzky h0 h1 (fun k => (eulRow n).getD k 0 * chooseZ (h + k) n) (fun _ _ => rfl)]
  unfold totI
  have e : (List.range n).map (fun k : Nat => (eulRow n).getD k 0 * chooseZ (h + n - (1 + k)) n) = ((List.range n).map fun i => n - 1 - i).map (fun k : Nat => (eulRow n).getD k 0 * chooseZ (h + k) n) := by
    rw [List.map_map]
    apply List.map_congr_left
    intro k hk
    have hk := List.mem_range.mp hk
    simp only [Function.comp_apply]
    rw [eulRow_symm hk, show h + n - (1 + (k : Int)) = h + ((n - 1 - k : Nat) : Int) by omega]
  rw [e, range_rev, List.map_reverse, List.sum_reverse]
theorem first_le {n : Nat} {h : Int} (h0 : 0 ≤ h) (h1 : 1 ≤ n) : chooseZ (h + n - 1) n ≤ h ^ n := by
  rw [← totI_all h0 h1]
  have key : ∀ i, chooseZ (h + n - 1) n ≤ totI n h (i + 1) := by
    intro i
    induction i with
    | zero =>
      rw [totI_succ, eulRow_getD (by omega), eul_zero]
      simp [totI]
    | succ i ih =>
      rw [totI_succ]
      have a : 0 ≤ (eulRow n).getD (i + 1) 0 := by
        by_cases hi : i + 1 < n
        · rw [eulRow_getD hi]; omega
        · rw [List.getD_eq_getElem?_getD, List.getElem?_eq_none (by simpa using by omega)]; simp
      have := Int.mul_nonneg a (chooseZ_nonneg (h + n - (1 + ((i + 1 : Nat) : Int))) n)
      omega
  have := key (n - 1)
  rwa [show n - 1 + 1 = n by omega] at this
/-- the row, a number at a time -/
def eulTo (n k : Nat) : List Int := (List.range k).map fun k => (eul n k : Int)
theorem eulTo_next {n k : Nat} {c : Int} (h : c = (eul n k : Int)) : eulTo n k ++ [c] = eulTo n (k + 1) := by
  unfold eulTo; rw [h, List.range_succ, List.map_append]; rfl
theorem eul_mid {m k : Nat} (h : k < m + 1) (h0 : 0 < k) (hk : k ≤ m) : (0 : Int) + ((k : Int) + 1) * (eulRow m).getD k 0 + ((m : Int) + 1 - k) * (eulRow m).getD (k - 1) 0 = (eul (m + 1) k : Int) := by
  obtain ⟨j, rfl⟩ : ∃ j, k = j + 1 := ⟨k - 1, by omega⟩
  rw [eul_ss, Nat.add_sub_cancel, eulRow_getD (show j < m by omega)]
  have e : (eulRow m).getD (j + 1) 0 = (eul m (j + 1) : Int) := by
    by_cases hj : j + 1 < m
    · exact eulRow_getD hj
    · rw [List.getD_eq_getElem?_getD, List.getElem?_eq_none (by simpa using by omega)]
      have : j + 1 = m := by omega
      rw [← this, eul_self]; rfl
  rw [e]
  obtain ⟨d, rfl⟩ : ∃ d, m = j + d := ⟨m - j, by omega⟩
  rw [show j + d - j = d by omega]
  push_cast
  grind
end Rc
namespace Rc
theorem eulRow_out {m k : Nat} (h : m ≤ k) : (eulRow m).getD k 0 = 0 := by
  rw [List.getD_eq_getElem?_getD, List.getElem?_eq_none (by simpa using h)]; rfl
theorem eul_c2 {m k : Nat} (h : ¬ (k : Int) < 2 + (m : Int) - 1) (hk : k < m + 2) (h0 : 0 < (k : Int)) : (0 : Int) + (2 + (m : Int) - k) * (eulRow (m + 1)).getD (Int.toNat ((k : Int) - 1)) 0 = (eul (m + 1 + 1) k : Int) := by
  have e : k = m + 1 := by omega
  subst e
  rw [eul_ss, eul_self, show Int.toNat (((m + 1 : Nat) : Int) - 1) = m by omega, eulRow_getD (by omega), show m + 1 - m = 1 by omega]
  push_cast
  grind
theorem eul_c3 {m k : Nat} (h0 : ¬ 0 < (k : Int)) : (0 : Int) + ((k : Int) + 1) * (eulRow (m + 1)).getD (Int.toNat (k : Int)) 0 = (eul (m + 1 + 1) k : Int) := by
  have e : k = 0 := by omega
  subst e
  rw [show Int.toNat ((0 : Nat) : Int) = 0 by rfl, eulRow_getD (by omega), eul_zero, eul_zero]; rfl
theorem eul_c1 {m k : Nat} (h : (k : Int) < 2 + (m : Int) - 1) (h0 : 0 < (k : Int)) : (0 : Int) + ((k : Int) + 1) * (eulRow (m + 1)).getD (Int.toNat (k : Int)) 0 + (2 + (m : Int) - k) * (eulRow (m + 1)).getD (Int.toNat ((k : Int) - 1)) 0 = (eul (m + 1 + 1) k : Int) := by
  have := eul_mid (m := m + 1) (k := k) (by omega) (by omega) (by omega)
  rw [← this, Int.toNat_natCast, show Int.toNat ((k : Int) - 1) = k - 1 by omega]
  push_cast
  grind
end Rc
namespace Rc
theorem bne_of {p q : Prop} {_ : Decidable p} {_ : Decidable q} (h : p ↔ q) : (decide p != decide q) = false := by
  by_cases hq : q
  · simp [h.mpr hq, hq]
  · have hp : ¬ p := fun e => hq (h.mp e)
    simp [hp, hq]
end Rc
namespace Rc
/-- the parts of a word for m heaps -/
def IsW (m : Nat) (w : List Int) : Prop := ∀ x ∈ w, 0 ≤ x ∧ x < m
theorem IsW.at {m : Nat} {w : List Int} (h : IsW m w) {i : Nat} {x : Int} (e : w[i]? = some x) : 0 ≤ x ∧ x < m := h x (List.mem_of_getElem? e)
theorem IsW.nil (m : Nat) : IsW m [] := fun _ h => nomatch h
theorem IsW.app {m : Nat} {w : List Int} {x : Int} (h : IsW m w) (h0 : 0 ≤ x) (h1 : x < m) : IsW m (w ++ [x]) := fun y hy => by
  rcases List.mem_append.mp hy with hy | hy
  · exact h y hy
  · rw [List.mem_singleton.mp hy]; exact ⟨h0, h1⟩
theorem take_nxt {α : Type} {ns : List α} {i : Nat} {y : α} (h : ns[i]? = some y) : ns.take (i + 1) = ns.take i ++ [y] := by rw [List.take_add_one, h]; rfl
/-- how often each heap stands -/
def sizesI (m : Nat) (w : List Int) : List Int := (List.range m).map fun h : Nat => (w.count (h : Int) : Int)
@[simp] theorem sizesI_length (m : Nat) (w : List Int) : (sizesI m w).length = m := by simp [sizesI]
theorem sizesI_getD {m : Nat} {w : List Int} {h : Nat} (hh : h < m) : (sizesI m w).getD h 0 = (w.count (h : Int) : Int) := by
  rw [List.getD_eq_getElem?_getD]; simp [sizesI, hh]
theorem sizesI_nil (m : Nat) : sizesI m [] = List.replicate m 0 := by
  unfold sizesI; rw [List.eq_replicate_iff]; simp
theorem sizesI_next {m : Nat} {w : List Int} (hw : IsW m w) {i : Nat} {x : Int} (e : w[i]? = some x) :
    (sizesI m (w.take i)).set x.toNat ((sizesI m (w.take i)).getD x.toNat 0 + 1) = sizesI m (w.take (i + 1)) := by
  have hb := hw.at e
  rw [take_nxt e, sizesI_getD (show x.toNat < m by omega)]
  apply List.ext_getElem
  · simp
  · intro c h1 h2
    have hc : c < m := by simpa using h2
    simp only [sizesI, List.getElem_set, List.getElem_map, List.getElem_range, List.count_append, List.count_singleton]
    by_cases ex : x.toNat = c
    · subst ex
      have : ((x.toNat : Nat) : Int) = x := by omega
      rw [if_pos rfl, this]; simp
    · rw [if_neg ex]
      have : (x == (c : Int)) = false := by rw [beq_eq_false_iff_ne]; omega
      simp [this]
/-- how many stand in heaps ahead of h -/
def startI (w : List Int) : Nat → Nat
  | 0 => 0
  | h + 1 => startI w h + w.count (h : Int)
theorem startI_mono (w : List Int) {h h' : Nat} (hh : h ≤ h') : startI w h ≤ startI w h' := by
  induction h' with
  | zero => have : h = 0 := by omega
            subst this; exact Nat.le_refl _
  | succ k ih =>
    by_cases e : h = k + 1
    · subst e; exact Nat.le_refl _
    · have := ih (by omega); show _ ≤ startI w k + _; omega
theorem startI_lt {w : List Int} {h h' : Nat} (hh : h < h') : startI w h + w.count (h : Int) ≤ startI w h' := startI_mono w (show h + 1 ≤ h' from hh)
theorem startI_filter (w : List Int) (hw : ∀ x ∈ w, 0 ≤ x) : ∀ h : Nat, startI w h = (w.filter fun x => decide (x < (h : Int))).length
  | 0 => by
    have : (w.filter fun x => decide (x < ((0 : Nat) : Int))) = [] := List.filter_eq_nil_iff.mpr fun x hx => by have := hw x hx; simp; omega
    rw [this]; rfl
  | h + 1 => by
    show startI w h + _ = _
    rw [startI_filter w hw h, show ((h + 1 : Nat) : Int) = (h : Int) + 1 by omega]
    clear hw
    induction w with
    | nil => rfl
    | cons x w ih =>
      simp only [List.count_cons, List.filter_cons]
      by_cases h1 : x < (h : Int)
      · have e1 : decide (x < (h : Int)) = true := decide_eq_true h1
        have e2 : decide (x < (h : Int) + 1) = true := decide_eq_true (by omega)
        have e3 : (x == (h : Int)) = false := by rw [beq_eq_false_iff_ne]; omega
        simp only [e1, e2, e3, if_true, List.length_cons]; simp; omega
      · have e1 : decide (x < (h : Int)) = false := decide_eq_false h1
        by_cases h2 : x = (h : Int)
        · have e2 : decide (x < (h : Int) + 1) = true := decide_eq_true (by omega)
          have e3 : (x == (h : Int)) = true := beq_iff_eq.mpr h2
          simp only [e1, e2, e3, if_true, List.length_cons]; simp; omega
        · have e2 : decide (x < (h : Int) + 1) = false := decide_eq_false (by omega)
          have e3 : (x == (h : Int)) = false := by rw [beq_eq_false_iff_ne]; omega
          simp only [e1, e2, e3]; simp; omega
theorem startI_all {m : Nat} {w : List Int} (hw : IsW m w) : startI w m = w.length := by
  rw [startI_filter w (fun x hx => (hw x hx).1)]
  congr 1
  exact List.filter_eq_self.mpr fun x hx => decide_eq_true (hw x hx).2
theorem sizesI_take_sum (m : Nat) (w : List Int) : ∀ {h : Nat}, h ≤ m → ((sizesI m w).take h).sum = startI w h
  | 0, _ => by simp; rfl
  | h + 1, hh => by
    have e : (sizesI m w)[h]? = some (w.count (h : Int) : Int) := by simp [sizesI, show h < m by omega]
    rw [take_nxt e, List.sum_append, sizesI_take_sum m w (by omega)]
    show _ + _ = ((startI w h + _ : Nat) : Int)
    simp
theorem sizesI_sum {m : Nat} {w : List Int} (hw : IsW m w) : (sizesI m w).sum = w.length := by
  have := sizesI_take_sum m w (Nat.le_refl m)
  rw [startI_all hw, List.take_of_length_le (by simp)] at this
  exact this
/-- the place from which the card comes that lies at place j: w[j] = h -/
def topI (ms : List Bool) (w : List Int) (h : Nat) (c : Nat) : Int := if ms.getD h false = true then (startI w h : Int) + w.count (h : Int) - 1 - c else startI w h + c
def cntI (w : List Int) (j : Nat) : Nat := (w.take j).count (w.getD j 0)
def numAt (ms : List Bool) (w : List Int) (j : Nat) : Int := topI ms w (w.getD j 0).toNat (cntI w j)
def numI (ms : List Bool) (w : List Int) : List Int := (List.range w.length).map (numAt ms w)
@[simp] theorem numI_length (ms : List Bool) (w : List Int) : (numI ms w).length = w.length := by simp [numI]
theorem getD_of {α : Type} {xs : List α} {i : Nat} {x d : α} (e : xs[i]? = some x) : xs.getD i d = x := by rw [List.getD_eq_getElem?_getD, e]; rfl
theorem getElem?_getD {α : Type} {xs : List α} {i : Nat} (d : α) (h : i < xs.length) : xs[i]? = some (xs.getD i d) := by
  rw [List.getD_eq_getElem?_getD, List.getElem?_eq_getElem h]; rfl
theorem cnt_lt {w : List Int} {j : Nat} {x : Int} (e : w[j]? = some x) : (w.take j).count x < w.count x := by
  have h1 := take_nxt e
  have h2 : (w.take (j + 1)).count x ≤ w.count x := (List.take_sublist _ _).count_le x
  rw [h1, List.count_append, List.count_singleton] at h2
  simp at h2
  omega
theorem topI_bd {m : Nat} {ms : List Bool} {w : List Int} (hw : IsW m w) {h c : Nat} (hh : h < m) (hc : c < w.count (h : Int)) :
    (startI w h : Int) ≤ topI ms w h c ∧ topI ms w h c < startI w h + w.count (h : Int) ∧ startI w h + w.count (h : Int) ≤ w.length := by
  have h1 := startI_lt (w := w) (show h < h + 1 by omega)
  have h2 := startI_mono w (show h + 1 ≤ m from hh)
  rw [startI_all hw] at h2
  have h3 : startI w (h + 1) = startI w h + w.count (h : Int) := rfl
  unfold topI
  split <;> omega
theorem numAt_bd {m : Nat} {ms : List Bool} {w : List Int} (hw : IsW m w) {j : Nat} (hj : j < w.length) : 0 ≤ numAt ms w j ∧ numAt ms w j < w.length := by
  have e := getElem?_getD 0 hj
  have hb := hw.at e
  have hc := cnt_lt e
  unfold numAt cntI
  have ex : (((w.getD j 0).toNat : Nat) : Int) = w.getD j 0 := by omega
  have := topI_bd (ms := ms) hw (h := (w.getD j 0).toNat) (c := (w.take j).count (w.getD j 0)) (by omega) (by rw [ex]; exact hc)
  rw [ex] at this
  omega
theorem numAt_inj {m : Nat} {ms : List Bool} {w : List Int} (hw : IsW m w) {i j : Nat} (hi : i < w.length) (hj : j < w.length) (he : numAt ms w i = numAt ms w j) : i = j := by
  have ei := getElem?_getD 0 hi
  have ej := getElem?_getD 0 hj
  have bi := hw.at ei
  have bj := hw.at ej
  have ci := cnt_lt ei
  have cj := cnt_lt ej
  have xi : (((w.getD i 0).toNat : Nat) : Int) = w.getD i 0 := by omega
  have xj : (((w.getD j 0).toNat : Nat) : Int) = w.getD j 0 := by omega
  have ti := topI_bd (ms := ms) hw (h := (w.getD i 0).toNat) (c := cntI w i) (by omega) (by rw [xi]; exact ci)
  have tj := topI_bd (ms := ms) hw (h := (w.getD j 0).toNat) (c := cntI w j) (by omega) (by rw [xj]; exact cj)
  have same : (w.getD i 0).toNat = (w.getD j 0).toNat := by
    unfold numAt at he
    rcases Nat.lt_trichotomy (w.getD i 0).toNat (w.getD j 0).toNat with h | h | h
    · have := startI_lt (w := w) h; omega
    · exact h
    · have := startI_lt (w := w) h; omega
  have sv : w.getD i 0 = w.getD j 0 := by omega
  have hcnt : cntI w i = cntI w j := by
    unfold numAt at he
    rw [same] at he
    unfold topI at he
    split at he <;> omega
  unfold cntI at hcnt
  rw [← sv] at hcnt
  rw [← sv] at ej
  rcases Nat.lt_trichotomy i j with h | h | h
  · have h1 : (w.take (i + 1)).count (w.getD i 0) ≤ (w.take j).count (w.getD i 0) := by
      have : (w.take (i + 1)).Sublist (w.take j) := List.take_sublist_take_left (by omega)
      exact this.count_le _
    rw [take_nxt ei, List.count_append, List.count_singleton_self] at h1
    omega
  · exact h
  · have h1 : (w.take (j + 1)).count (w.getD i 0) ≤ (w.take i).count (w.getD i 0) := by
      have : (w.take (j + 1)).Sublist (w.take i) := List.take_sublist_take_left (by omega)
      exact this.count_le _
    rw [take_nxt ej, List.count_append, List.count_singleton_self] at h1
    omega
theorem isOrd_numI {m : Nat} (ms : List Bool) {w : List Int} (hw : IsW m w) : IsOrd (numI ms w) := by
  refine isOrd_of_nodup ?_ ?_
  · unfold numI
    rw [List.nodup_iff_pairwise_ne, List.pairwise_map]
    refine List.Pairwise.imp_of_mem ?_ (List.nodup_range (n := w.length))
    intro a b ha hb hne e
    exact hne (numAt_inj hw (List.mem_range.mp ha) (List.mem_range.mp hb) e)
  · intro x hx
    obtain ⟨j, hj, rfl⟩ := List.mem_map.mp hx
    rw [numI_length]
    exact numAt_bd hw (List.mem_range.mp hj)
/-- the order behind a riffle, and the one ahead -/
def riffleI (o : List Int) (ms : List Bool) (w : List Int) : List Int := laidI o (numI ms w)
def undoneI (o : List Int) (ms : List Bool) (w : List Int) : List Int := laidI o (placesI (numI ms w))
@[simp] theorem riffleI_length (o : List Int) (ms : List Bool) (w : List Int) : (riffleI o ms w).length = w.length := by simp [riffleI]
@[simp] theorem undoneI_length (o : List Int) (ms : List Bool) (w : List Int) : (undoneI o ms w).length = w.length := by simp [undoneI]
theorem laidI_self_places {p : List Int} (h : IsOrd p) : laidI (placesI p) p = upto p.length := by
  have := laidI_places (isOrd_placesI h)
  rwa [placesI_placesI h, placesI_length] at this
theorem laidI_id {o : List Int} : laidI o (upto o.length) = o := by
  unfold laidI upto
  rw [List.map_map]
  apply List.ext_getElem
  · simp
  · intro i h1 h2
    simp only [List.getElem_map, List.getElem_range, Function.comp, Int.toNat_natCast]
    rw [List.getD_eq_getElem?_getD, List.getElem?_eq_getElem h2]; rfl
theorem riffle_undone {m : Nat} {o : List Int} {ms : List Bool} {w : List Int} (hw : IsW m w) (hl : o.length = w.length) : riffleI (undoneI o ms w) ms w = o := by
  have h := isOrd_numI ms hw
  unfold riffleI undoneI
  rw [laidI_assoc (fun p hp => by have := h.mem.mp hp; rwa [placesI_length]), laidI_self_places h, numI_length, ← hl, laidI_id]
theorem undone_riffle {m : Nat} {o : List Int} {ms : List Bool} {w : List Int} (hw : IsW m w) (hl : o.length = w.length) : undoneI (riffleI o ms w) ms w = o := by
  have h := isOrd_numI ms hw
  unfold riffleI undoneI
  rw [laidI_assoc (fun p hp => by have := (isOrd_placesI h).mem.mp hp; rwa [placesI_length] at this), laidI_places h, numI_length, ← hl, laidI_id]
theorem isOrd_riffleI {m : Nat} {o : List Int} (ms : List Bool) {w : List Int} (ho : IsOrd o) (hw : IsW m w) (hl : o.length = w.length) : IsOrd (riffleI o ms w) :=
  isOrd_laidI ho (isOrd_numI ms hw) (by simpa using hl)
theorem isOrd_undoneI {m : Nat} {o : List Int} (ms : List Bool) {w : List Int} (ho : IsOrd o) (hw : IsW m w) (hl : o.length = w.length) : IsOrd (undoneI o ms w) :=
  isOrd_laidI ho (isOrd_placesI (isOrd_numI ms hw)) (by simpa using hl)
theorem riffle_laid {m : Nat} {o : List Int} {ms : List Bool} {w : List Int} {n : Int} (hw : IsW m w) (hl : w.length = o.length) (hn : (o.length : Int) = n) : riffleI o ms w = laidI o (riffleI (upto n.toNat) ms w) := by
  have h := isOrd_numI ms hw
  subst hn
  unfold riffleI
  rw [Int.toNat_natCast, ← laidI_assoc (fun p hp => by have := h.mem.mp hp; rw [numI_length] at this; rw [upto_length]; omega), laidI_id]
theorem undone_laid {m : Nat} {o : List Int} {ms : List Bool} {w : List Int} {n : Int} (hw : IsW m w) (hl : w.length = o.length) (hn : (o.length : Int) = n) : undoneI o ms w = laidI o (undoneI (upto n.toNat) ms w) := by
  have h := isOrd_placesI (isOrd_numI ms hw)
  subst hn
  unfold undoneI
  rw [Int.toNat_natCast, ← laidI_assoc (fun p hp => by have := h.mem.mp hp; rw [placesI_length, numI_length] at this; rw [upto_length]; omega), laidI_id]
theorem ord_bd {a : List Int} {n : Nat} (h : IsOrd a) (hl : a.length = n) : ∀ p ∈ a, 0 ≤ p ∧ p < (n : Int) := fun p hp => by have := h.mem.mp hp; omega
/-! the programs' loops -/
theorem size_at {m : Nat} {w : List Int} {i : Nat} {y : Int} (e : (sizesI m w)[i]? = some y) : y = (w.count (i : Int) : Int) := by
  have hl := (List.getElem?_eq_some_iff.mp e).1
  have := getD_of (d := 0) e
  rw [sizesI_getD (by simpa using hl)] at this
  exact this.symm
def topsTo (ms : List Bool) (w : List Int) (n j : Nat) : List Int := (List.range n).map fun h => topI ms w h ((w.take j).count (h : Int))
theorem topI_t {ms : List Bool} {w : List Int} {h c : Nat} (hm : ms.getD (Int.toNat (h : Int)) false = true) : topI ms w h c = (startI w h : Int) + w.count (h : Int) - 1 - c := by
  rw [Int.toNat_natCast] at hm; unfold topI; rw [if_pos hm]
theorem topI_f {ms : List Bool} {w : List Int} {h c : Nat} (hm : ms.getD (Int.toNat (h : Int)) false = false) : topI ms w h c = (startI w h : Int) + c := by
  rw [Int.toNat_natCast] at hm; unfold topI; rw [if_neg (by rw [hm]; exact Bool.false_ne_true)]
theorem topsTo_next (ms : List Bool) (w : List Int) (n : Nat) {x : Int} (h : x = topI ms w n 0) : topsTo ms w n 0 ++ [x] = topsTo ms w (n + 1) 0 := by
  unfold topsTo; rw [List.range_succ, List.map_append, h]; simp
theorem topsTo_getD {ms : List Bool} {w : List Int} {n j h : Nat} (hh : h < n) : (topsTo ms w n j).getD h 0 = topI ms w h ((w.take j).count (h : Int)) := by
  rw [List.getD_eq_getElem?_getD]; simp [topsTo, hh]
def numTo (ms : List Bool) (w : List Int) (j : Nat) : List Int := (List.range j).map (numAt ms w)
theorem numTo_next {ms : List Bool} {w : List Int} (hw : IsW ms.length w) {i : Nat} {y : Int} (e : w[i]? = some y) : numTo ms w i ++ [(topsTo ms w ms.length i).getD y.toNat 0] = numTo ms w (i + 1) := by
  have hb := hw.at e
  unfold numTo
  rw [List.range_succ, List.map_append, topsTo_getD (by omega)]
  show _ = _ ++ [numAt ms w i]
  unfold numAt cntI
  rw [getD_of e, show ((y.toNat : Nat) : Int) = y by omega]
theorem tops_step {ms : List Bool} {w : List Int} (hw : IsW ms.length w) {i : Nat} {y v : Int} (e : w[i]? = some y) (hv : v = topI ms w y.toNat ((w.take i).count y + 1)) :
    (topsTo ms w ms.length i).set y.toNat v = topsTo ms w ms.length (i + 1) := by
  have hb := hw.at e
  apply List.ext_getElem
  · simp [topsTo]
  · intro c h1 h2
    simp only [topsTo, List.getElem_set, List.getElem_map, List.getElem_range]
    rw [take_nxt e, List.count_append, List.count_singleton]
    by_cases ex : y.toNat = c
    · subst ex
      have : ((y.toNat : Nat) : Int) = y := by omega
      rw [if_pos rfl, this, hv]; simp
    · rw [if_neg ex]
      have : (y == (c : Int)) = false := by rw [beq_eq_false_iff_ne]; omega
      simp [this]
theorem tops_t {ms : List Bool} {w : List Int} (hw : IsW ms.length w) {i : Nat} {y : Int} (e : w[i]? = some y) (hm : ms.getD y.toNat false = true) :
    (topsTo ms w ms.length i).set y.toNat ((topsTo ms w ms.length i).getD y.toNat 0 - 1) = topsTo ms w ms.length (i + 1) := by
  have hb := hw.at e
  refine tops_step hw e ?_
  rw [topsTo_getD (by omega), show ((y.toNat : Nat) : Int) = y by omega]
  unfold topI; rw [if_pos hm, if_pos hm]; omega
theorem tops_f {ms : List Bool} {w : List Int} (hw : IsW ms.length w) {i : Nat} {y : Int} (e : w[i]? = some y) (hm : ms.getD y.toNat false = false) :
    (topsTo ms w ms.length i).set y.toNat ((topsTo ms w ms.length i).getD y.toNat 0 + 1) = topsTo ms w ms.length (i + 1) := by
  have hb := hw.at e
  refine tops_step hw e ?_
  rw [topsTo_getD (by omega), show ((y.toNat : Nat) : Int) = y by omega]
  have hn : ¬ ms.getD y.toNat false = true := by rw [hm]; exact Bool.false_ne_true
  unfold topI; rw [if_neg hn, if_neg hn]; omega
def undoTo (o p : List Int) (i : Nat) : List Int := (List.range o.length).map fun c : Nat => if p.idxOf (c : Int) < i then o.getD (p.idxOf (c : Int)) 0 else 0
theorem undoTo_zero (o p : List Int) : o.map (fun _ => (0 : Int)) = undoTo o p 0 := by
  unfold undoTo
  apply List.ext_getElem
  · simp
  · intro i h1 h2; simp
theorem undoTo_all {o p : List Int} (h : IsOrd p) (hl : o.length = p.length) : undoTo o p (min o.length p.length) = laidI o (placesI p) := by
  unfold undoTo laidI placesI
  rw [List.map_map, hl, Nat.min_self]
  apply List.map_congr_left
  intro c hc
  rw [if_pos (idxOf_lt h (List.mem_range.mp hc))]; rfl
theorem undoTo_next {o p : List Int} (h : IsOrd p) (hl : o.length = p.length) {i : Nat} {x y : Int} (e : o[i]? = some x) (e2 : p[i]? = some y) : (undoTo o p i).set y.toNat x = undoTo o p (i + 1) := by
  have hb := h.bd e2
  have hi := idxOf_at h.nodup e2
  apply List.ext_getElem
  · simp [undoTo]
  · intro c h1 h2
    have hc : c < p.length := by rw [← hl]; simpa [undoTo] using h2
    simp only [undoTo, List.getElem_set, List.getElem_map, List.getElem_range]
    by_cases ex : y.toNat = c
    · subst ex
      have : ((y.toNat : Nat) : Int) = y := by omega
      rw [if_pos rfl, this, hi, if_pos (by omega), getD_of e]
    · rw [if_neg ex]
      have hne : p.idxOf (c : Int) ≠ i := by
        intro z
        have h3 := at_idxOf (h.mem.mpr ⟨show (0 : Int) ≤ (c : Int) by omega, show (c : Int) < p.length by omega⟩)
        rw [z, getD_of e2] at h3
        omega
      by_cases h4 : p.idxOf (c : Int) < i
      · rw [if_pos h4, if_pos (by omega)]
      · rw [if_neg h4, if_neg (by omega)]
/-! the law's heaps -/
def heapI (o : List Int) (ms : List Bool) (w : List Int) (h : Nat) : List Int :=
  if ms.getD h false = true then ((o.drop (startI w h)).take (w.count (h : Int))).reverse else (o.drop (startI w h)).take (w.count (h : Int))
def heapsTo (o : List Int) (ms : List Bool) (w : List Int) (n : Nat) : List (List Int) := (List.range n).map (heapI o ms w)
def heapsAt (o : List Int) (ms : List Bool) (w : List Int) (j : Nat) : List (List Int) := (List.range ms.length).map fun h => (heapI o ms w h).drop ((w.take j).count (h : Int))
theorem heapsTo_next (o : List Int) (ms : List Bool) (w : List Int) (n : Nat) : heapsTo o ms w (n + 1) = heapsTo o ms w n ++ [heapI o ms w n] := by
  unfold heapsTo; rw [List.range_succ, List.map_append]; rfl
theorem heapsAt_zero (o : List Int) (ms : List Bool) (w : List Int) : heapsAt o ms w 0 = heapsTo o ms w ms.length := by
  unfold heapsAt heapsTo
  apply List.map_congr_left
  intro h _; simp
theorem count_room {m : Nat} {w : List Int} (hw : IsW m w) {h : Nat} (hh : h < m) : startI w h + w.count (h : Int) ≤ w.length := by
  have h2 := startI_mono w (show h + 1 ≤ m from hh)
  rw [startI_all hw] at h2
  exact h2
theorem heapI_length {m : Nat} {o : List Int} {ms : List Bool} {w : List Int} (hw : IsW m w) (hl : w.length = o.length) {h : Nat} (hh : h < m) : (heapI o ms w h).length = w.count (h : Int) := by
  have := count_room hw hh
  unfold heapI
  split
  · rw [List.length_reverse, List.length_take, List.length_drop]; omega
  · rw [List.length_take, List.length_drop]; omega
theorem heapI_getD {m : Nat} {o : List Int} {ms : List Bool} {w : List Int} (hw : IsW m w) (hl : w.length = o.length) {h c : Nat} (hh : h < m) (hc : c < w.count (h : Int)) :
    (heapI o ms w h).getD c 0 = o.getD (topI ms w h c).toNat 0 := by
  have hr := count_room hw hh
  have hln := heapI_length (ms := ms) hw hl hh
  unfold heapI topI at *
  by_cases hm : ms.getD h false = true
  · rw [if_pos hm] at hln ⊢
    rw [if_pos hm]
    rw [List.getD_eq_getElem?_getD, List.getElem?_reverse (by rw [List.length_reverse] at hln; omega), List.getElem?_take_of_lt (by rw [List.length_reverse] at hln; omega), List.getElem?_drop, List.getD_eq_getElem?_getD]
    rw [List.length_reverse] at hln
    congr 2
    omega
  · rw [if_neg hm] at hln ⊢
    rw [if_neg hm]
    rw [List.getD_eq_getElem?_getD, List.getElem?_take_of_lt hc, List.getElem?_drop, List.getD_eq_getElem?_getD]
    congr 2
theorem heapsAt_row {o : List Int} {ms : List Bool} {w : List Int} {j : Nat} {y : Int} {rows : List (Nat × List Int)} (hl : w.length = o.length) (hb : 0 ≤ y ∧ y < ms.length) (hh : rows.map (·.2) = heapsAt o ms w j) :
    (rows.getD y.toNat (0, [])).2 = (heapI o ms w y.toNat).drop ((w.take j).count y) := by
  have e : (rows.map (·.2)).getD y.toNat [] = (rows.getD y.toNat (0, [])).2 := by
    rw [List.getD_eq_getElem?_getD, List.getElem?_map, List.getD_eq_getElem?_getD]
    cases rows[y.toNat]? <;> rfl
  rw [← e, hh, List.getD_eq_getElem?_getD]
  have : y.toNat < ms.length := by omega
  simp only [heapsAt, List.getElem?_map, List.getElem?_range this, Option.map_some, Option.getD_some]
  rw [show ((y.toNat : Nat) : Int) = y by omega]
theorem heapAt_length {o : List Int} {ms : List Bool} {w : List Int} (hw : IsW ms.length w) (hl : w.length = o.length) {i : Nat} {y : Int} (e : w[i]? = some y) :
    0 < ((heapI o ms w y.toNat).drop ((w.take i).count y)).length ∧ ((heapI o ms w y.toNat).drop ((w.take i).count y)).length ≤ w.length := by
  have hb := hw.at e
  have hc := cnt_lt e
  rw [List.length_drop, heapI_length hw hl (show y.toNat < ms.length by omega), show ((y.toNat : Nat) : Int) = y by omega]
  have := w.count_le_length (a := y)
  omega
def riffTo (o : List Int) (ms : List Bool) (w : List Int) (j : Nat) : List Int := (List.range j).map fun j => o.getD (numAt ms w j).toNat 0
theorem riffTo_all {o : List Int} {ms : List Bool} {w : List Int} (hw : IsW ms.length w) (hl : w.length = o.length) : riffTo o ms w w.length = riffleI o ms w := by
  unfold riffTo riffleI laidI numI
  rw [List.map_map]; rfl
theorem riffTo_next {o : List Int} {ms : List Bool} {w : List Int} (hw : IsW ms.length w) (hl : w.length = o.length) {i : Nat} {y : Int} (e : w[i]? = some y) :
    riffTo o ms w i ++ [((heapI o ms w y.toNat).drop ((w.take i).count y)).getD 0 0] = riffTo o ms w (i + 1) := by
  have hb := hw.at e
  have hc := cnt_lt e
  have ey : ((y.toNat : Nat) : Int) = y := by omega
  unfold riffTo
  rw [List.range_succ, List.map_append]
  congr 1
  have := heapI_getD (o := o) (ms := ms) hw hl (show y.toNat < ms.length by omega) (c := (w.take i).count y) (by rw [ey]; exact hc)
  rw [List.getD_eq_getElem?_getD, List.getElem?_drop, Nat.add_zero, ← List.getD_eq_getElem?_getD, this]
  show [_] = [o.getD (numAt ms w i).toNat 0]
  unfold numAt cntI
  rw [getD_of e]
theorem heapsAt_next {o : List Int} {ms : List Bool} {w : List Int} (hw : IsW ms.length w) {i : Nat} {y : Int} (e : w[i]? = some y) {r : List Int} (hr : r = ((heapI o ms w y.toNat).drop ((w.take i).count y)).drop 1) :
    (heapsAt o ms w i).set y.toNat r = heapsAt o ms w (i + 1) := by
  have hb := hw.at e
  apply List.ext_getElem
  · simp [heapsAt]
  · intro c h1 h2
    simp only [heapsAt, List.getElem_set, List.getElem_map, List.getElem_range]
    rw [take_nxt e, List.count_append, List.count_singleton]
    by_cases ex : y.toNat = c
    · subst ex
      have : ((y.toNat : Nat) : Int) = y := by omega
      rw [if_pos rfl, this, hr, List.drop_drop]; simp
    · rw [if_neg ex]
      have : (y == (c : Int)) = false := by rw [beq_eq_false_iff_ne]; omega
      simp [this]
end Rc
namespace Rc
/-! the ways, counted from the last card -/
def gBeh (p : List Int) : Nat → Int
  | 0 => 0
  | j + 1 => gBeh p j + p.getD (p.length - 1 - j) 0
def gOne (sh : Nat → Bool) (p : List Int) (t : Nat) : Int := gBeh p t + if sh (p.length - 1 - t) = true then p.getD (p.length - 1 - t) 0 else 0
def gTo (sh : Nat → Bool) (p : List Int) (j : Nat) : List Int := (List.range j).map (gOne sh p)
def gStep (sh : Nat → Bool) (p : List Int) : List Int := (gTo sh p p.length).reverse
def shI (ms : List Bool) (x y : Int) (h : Nat) : Bool := if ms.getD h false = true then decide (y < x) else decide (x < y)
def gRow (ms : List Bool) (at_ : List Int) : Nat → List Int
  | 0 => ms.map fun _ => 1
  | m + 1 => gStep (shI ms (at_.getD (at_.length - 2 - m) 0) (at_.getD (at_.length - 1 - m) 0)) (gRow ms at_ m)
@[simp] theorem gStep_length (sh : Nat → Bool) (p : List Int) : (gStep sh p).length = p.length := by simp [gStep, gTo]
@[simp] theorem gRow_length (ms : List Bool) (at_ : List Int) : ∀ m, (gRow ms at_ m).length = ms.length
  | 0 => by simp [gRow]
  | m + 1 => by rw [gRow, gStep_length, gRow_length ms at_ m]
def gRows (ms : List Bool) (at_ : List Int) (k : Nat) : List (List Int) := (List.range k).map (gRow ms at_)
def howI (o : List Int) (ms : List Bool) : Int := (gRow ms (placesI o) (o.length - 1)).sum
theorem gTo_next (sh : Nat → Bool) (p : List Int) {j : Nat} {x : Int} (h : x = gOne sh p j) : gTo sh p j ++ [x] = gTo sh p (j + 1) := by
  unfold gTo; rw [List.range_succ, List.map_append, h]; rfl
theorem gRows_next (ms : List Bool) (at_ : List Int) (k : Nat) : gRows ms at_ k ++ [gRow ms at_ k] = gRows ms at_ (k + 1) := by
  unfold gRows; rw [List.range_succ, List.map_append]; rfl
theorem gRows_last {rows : List (Nat × List Int)} {ms : List Bool} {at_ : List Int} {k : Nat} (h : rows.map (·.2) = gRows ms at_ (k + 1)) : rows.length = k + 1 ∧ (rows.getD (rows.length - 1) (0, [])).2 = gRow ms at_ k := by
  have hl : rows.length = k + 1 := by have := congrArg List.length h; simpa [gRows] using this
  refine ⟨hl, ?_⟩
  have e : (rows.map (·.2)).getD (rows.length - 1) [] = (rows.getD (rows.length - 1) (0, [])).2 := by
    rw [List.getD_eq_getElem?_getD, List.getElem?_map, List.getD_eq_getElem?_getD]
    cases rows[rows.length - 1]? <;> rfl
  rw [← e, h, hl, List.getD_eq_getElem?_getD]
  simp [gRows]
theorem gRows_first {rows : List (Nat × List Int)} {o : List Int} {ms : List Bool} (h1 : 1 ≤ o.length) (h : rows.map (·.2) = (gRows ms (placesI o) o.length).reverse) : 1 ≤ rows.length ∧ (rows.getD 0 (0, [])).2.sum = howI o ms := by
  have hl : rows.length = o.length := by have := congrArg List.length h; simpa [gRows] using this
  refine ⟨by omega, ?_⟩
  have e : (rows.map (·.2)).getD 0 [] = (rows.getD 0 (0, [])).2 := by
    rw [List.getD_eq_getElem?_getD, List.getElem?_map, List.getD_eq_getElem?_getD]
    cases rows[0]? <;> rfl
  rw [← e, h, List.getD_eq_getElem?_getD, List.getElem?_reverse (by simp [gRows]; omega)]
  simp only [gRows, List.length_map, List.length_range]
  rw [show o.length - 1 - 0 = o.length - 1 by omega]
  have hlt : o.length - 1 < o.length := by omega
  simp [howI, hlt]
/-! all heaps alike -/
def strictTo (sh : Nat → Bool) : Nat → Nat
  | 0 => 0
  | m + 1 => strictTo sh m + if sh m = true then 0 else 1
def alikeRow (a d m : Nat) : List Int := (List.range a).map fun h : Nat => chooseZ ((a : Int) - 1 - h - d + m) m
theorem choose_next (t d m : Nat) : chooseZ ((t : Int) - d + m) (m + 1) + chooseZ ((t : Int) - d + m) m = chooseZ (((t + 1 : Nat) : Int) - d + m) (m + 1) := by
  by_cases h : 0 < ((t + 1 : Nat) : Int) - d + m
  · have := chooseZ_pascal (n := ((t + 1 : Nat) : Int) - d + m) (k := (m : Int) + 1) h
    rw [show ((t + 1 : Nat) : Int) - d + m - 1 = (t : Int) - d + m by omega, show (m : Int) + 1 - 1 = m by omega] at this
    exact this
  · rw [chooseZ_out (n := (t : Int) - d + m) (by omega), chooseZ_out (n := (t : Int) - d + m) (by omega), chooseZ_out (by omega)]; rfl
theorem alikeRow_getD {a d m t : Nat} (h : t < a) : (alikeRow a d m).getD (a - 1 - t) 0 = chooseZ ((t : Int) - d + m) m := by
  have : a - 1 - t < a := by omega
  simp only [alikeRow, List.getD_eq_getElem?_getD, List.getElem?_map, List.getElem?_range this, Option.map_some, Option.getD_some]
  congr 1; omega
theorem alike_beh (a d m : Nat) : ∀ t, t ≤ a → gBeh (alikeRow a d m) t = chooseZ ((t : Int) - d + m) (m + 1)
  | 0, _ => by rw [chooseZ_out (by omega)]; rfl
  | t + 1, h => by
    rw [gBeh, alike_beh a d m t (by omega), ← choose_next, show (alikeRow a d m).length = a by simp [alikeRow], alikeRow_getD (by omega)]
theorem alike_step (a d m : Nat) (sh : Nat → Bool) (b : Bool) (hb : ∀ h, h < a → sh h = b) : gStep sh (alikeRow a d m) = alikeRow a (d + if b = true then 0 else 1) (m + 1) := by
  have hl : (alikeRow a d m).length = a := by simp [alikeRow]
  apply List.ext_getElem
  · simp [hl, alikeRow]
  · intro h h1 h2
    have hh : h < a := by simpa [hl] using h1
    simp only [gStep, gTo, List.getElem_reverse, List.length_map, List.length_range, List.getElem_map, List.getElem_range, hl, alikeRow]
    rw [show List.map (fun h : Nat => chooseZ ((a : Int) - 1 - h - d + m) m) (List.range a) = alikeRow a d m from rfl]
    unfold gOne
    rw [hl, alike_beh a d m _ (by omega), hb _ (by omega), alikeRow_getD (by omega)]
    have e : ((a - 1 - h : Nat) : Int) = (a : Int) - 1 - h := by omega
    cases b
    · rw [if_neg (by simp), if_neg (by simp), Int.add_zero, e]
      congr 1; push_cast; omega
    · rw [if_pos rfl, if_pos rfl, choose_next]
      congr 1; push_cast; omega
theorem alike_row {ms : List Bool} {at_ : List Int} (sh : Nat → Bool) (hs : ∀ m h, h < ms.length → shI ms (at_.getD (at_.length - 2 - m) 0) (at_.getD (at_.length - 1 - m) 0) h = sh m) : ∀ m, gRow ms at_ m = alikeRow ms.length (strictTo sh m) m
  | 0 => by
    rw [gRow]
    apply List.ext_getElem
    · simp [alikeRow]
    · intro i h1 h2
      simp only [List.getElem_map, alikeRow, List.getElem_range, strictTo]
      rw [chooseZ_in (by omega) (by simp at h1; omega)]; simp
  | m + 1 => by rw [gRow, alike_row sh hs m, alike_step _ _ _ _ (sh m) (hs m)]; rfl
theorem alike_sum (a d m : Nat) : (alikeRow a d m).sum = chooseZ ((a : Int) - d + m) (m + 1) := by
  rw [← alike_beh a d m a (Nat.le_refl _)]
  have key : ∀ (p : List Int) (t : Nat), t ≤ p.length → gBeh p t = (p.drop (p.length - t)).sum := by
    intro p t
    induction t with
    | zero => intro _; simp [gBeh]
    | succ t ih =>
      intro h
      rw [gBeh, ih (by omega)]
      have hlt : p.length - (t + 1) < p.length := by omega
      rw [List.drop_eq_getElem_cons hlt, List.sum_cons, show p.length - (t + 1) + 1 = p.length - t by omega, List.getD_eq_getElem?_getD, show p.length - 1 - t = p.length - (t + 1) by omega, List.getElem?_eq_getElem hlt, Option.getD_some, Int.add_comm]
  have := key (alikeRow a d m) a (by simp [alikeRow])
  rw [this, show (alikeRow a d m).length - a = 0 by simp [alikeRow]]; rfl
theorem go_t {ms : List Bool} {at_ p : List Int} {m j : Nat} {x y heap behind : Int} (hj : j < ms.length) (hh : heap = (ms.length : Int) - 1 + (j : Int) * (-1)) (hp : p.length = ms.length) (hs : shI ms x y (Int.toNat heap) = true) (hx : x = at_.getD (at_.length - 2 - m) 0) (hy : y = at_.getD (at_.length - 1 - m) 0)
    (hb : behind = gBeh p j) : behind + p.getD (Int.toNat heap) 0 = gOne (shI ms (at_.getD (at_.length - 2 - m) 0) (at_.getD (at_.length - 1 - m) 0)) p j := by
  have e : Int.toNat heap = p.length - 1 - j := by omega
  subst hx hy
  unfold gOne
  rw [e] at hs ⊢
  rw [if_pos hs, hb]
theorem go_f {ms : List Bool} {at_ p : List Int} {m j : Nat} {x y heap behind : Int} (hj : j < ms.length) (hh : heap = (ms.length : Int) - 1 + (j : Int) * (-1)) (hp : p.length = ms.length) (hs : shI ms x y (Int.toNat heap) = false) (hx : x = at_.getD (at_.length - 2 - m) 0) (hy : y = at_.getD (at_.length - 1 - m) 0)
    (hb : behind = gBeh p j) : behind = gOne (shI ms (at_.getD (at_.length - 2 - m) 0) (at_.getD (at_.length - 1 - m) 0)) p j := by
  have e : Int.toNat heap = p.length - 1 - j := by omega
  subst hx hy
  unfold gOne
  rw [e] at hs
  rw [if_neg (by rw [hs]; simp), hb, Int.add_zero]
theorem go_b {ms : List Bool} {p : List Int} {j : Nat} {heap behind : Int} (hj : j < ms.length) (hh : heap = (ms.length : Int) - 1 + (j : Int) * (-1)) (hp : p.length = ms.length) (hb : behind = gBeh p j) : behind + p.getD (Int.toNat heap) 0 = gBeh p (j + 1) := by
  have e : Int.toNat heap = p.length - 1 - j := by omega
  rw [e, gBeh, hb]
theorem gBeh_sum (p : List Int) : gBeh p p.length = p.sum := by
  have key : ∀ (t : Nat), t ≤ p.length → gBeh p t = (p.drop (p.length - t)).sum := by
    intro t
    induction t with
    | zero => intro _; simp [gBeh]
    | succ t ih =>
      intro h
      rw [gBeh, ih (by omega)]
      have hlt : p.length - (t + 1) < p.length := by omega
      rw [List.drop_eq_getElem_cons hlt, List.sum_cons, show p.length - (t + 1) + 1 = p.length - t by omega, List.getD_eq_getElem?_getD, show p.length - 1 - t = p.length - (t + 1) by omega, List.getElem?_eq_getElem hlt, Option.getD_some, Int.add_comm]
  rw [key _ (Nat.le_refl _), Nat.sub_self]; rfl
theorem strict_count (sh : Nat → Bool) : ∀ m, strictTo sh m = ((List.range m).filter fun i => !sh i).length
  | 0 => rfl
  | m + 1 => by
    rw [strictTo, strict_count sh m, List.range_succ, List.filter_append, List.length_append]
    cases h : sh m <;> simp [h]
theorem how_alike {o : List Int} {ms : List Bool} {b : Bool} (h1 : 1 ≤ o.length) (hb : ∀ h, h < ms.length → ms.getD h false = b) :
    howI o ms = chooseZ ((ms.length : Int) - (strictTo (fun m => if b = true then decide ((placesI o).getD (o.length - 1 - m) 0 < (placesI o).getD (o.length - 2 - m) 0) else decide ((placesI o).getD (o.length - 2 - m) 0 < (placesI o).getD (o.length - 1 - m) 0)) (o.length - 1) : Nat) + (o.length - 1 : Nat)) o.length := by
  unfold howI
  rw [alike_row (fun m => if b = true then decide ((placesI o).getD (o.length - 1 - m) 0 < (placesI o).getD (o.length - 2 - m) 0) else decide ((placesI o).getD (o.length - 2 - m) 0 < (placesI o).getD (o.length - 1 - m) 0))
    (fun m h hh => by unfold shI; rw [hb h hh, placesI_length]), alike_sum]
  congr 1; omega
theorem falls_count_rev (p : List Int) (n : Nat) (hl : p.length = n) : ((List.range (n - 1)).filter fun m => decide (p.getD (n - 1 - m) 0 < p.getD (n - 2 - m) 0)).length = fallsI p := by
  rw [show fallsI p = ((List.range (n - 1)).filter (isFall p)).length by rw [fallsI, fc, hl], ← count_rev (n - 1) (isFall p)]
  congr 1
  apply List.filter_congr
  intro m hm
  have hm := List.mem_range.mp hm
  unfold isFall
  rw [show n - 1 - 1 - m + 1 = n - 1 - m by omega, show n - 1 - 1 - m = n - 2 - m by omega]
theorem places_ne {o : List Int} (h : IsOrd o) {i j : Nat} (hi : i < o.length) (hj : j < o.length) (hne : i ≠ j) : (placesI o).getD i 0 ≠ (placesI o).getD j 0 := by
  have hn := (isOrd_placesI h).nodup
  have li : i < (placesI o).length := by simpa using hi
  have lj : j < (placesI o).length := by simpa using hj
  rw [List.getD_eq_getElem?_getD, List.getD_eq_getElem?_getD, List.getElem?_eq_getElem li, List.getElem?_eq_getElem lj, Option.getD_some, Option.getD_some]
  intro e
  exact hne ((List.getElem_inj (h₀ := li) (h₁ := lj) hn).mp e)
theorem how_false {o : List Int} {ms : List Bool} (ho : IsOrd o) (h1 : 1 ≤ o.length) (hb : ∀ h, h < ms.length → ms.getD h false = false) : howI o ms = chooseZ ((ms.length : Int) + o.length - runsI o) o.length := by
  rw [how_alike h1 hb, strict_count]
  have e : ((List.range (o.length - 1)).filter fun i => !(if false = true then decide ((placesI o).getD (o.length - 1 - i) 0 < (placesI o).getD (o.length - 2 - i) 0) else decide ((placesI o).getD (o.length - 2 - i) 0 < (placesI o).getD (o.length - 1 - i) 0))).length = fallsI (placesI o) := by
    rw [← falls_count_rev (placesI o) o.length (by simp)]
    congr 1
    apply List.filter_congr
    intro m hm
    have hm := List.mem_range.mp hm
    have := places_ne ho (i := o.length - 1 - m) (j := o.length - 2 - m) (by omega) (by omega) (by omega)
    rw [if_neg (by simp), ← decide_not, decide_eq_decide]
    omega
  rw [e]; unfold runsI; congr 1; omega
theorem how_true {o : List Int} {ms : List Bool} (ho : IsOrd o) (h1 : 1 ≤ o.length) (hb : ∀ h, h < ms.length → ms.getD h false = true) : howI o ms = chooseZ ((ms.length : Int) + runsI o - 1) o.length := by
  rw [how_alike h1 hb, strict_count]
  have e := count_not (List.range (o.length - 1)) (fun m => decide ((placesI o).getD (o.length - 1 - m) 0 < (placesI o).getD (o.length - 2 - m) 0))
  rw [falls_count_rev (placesI o) o.length (by simp), List.length_range] at e
  have e2 : ((List.range (o.length - 1)).filter fun i => !(if true = true then decide ((placesI o).getD (o.length - 1 - i) 0 < (placesI o).getD (o.length - 2 - i) 0) else decide ((placesI o).getD (o.length - 2 - i) 0 < (placesI o).getD (o.length - 1 - i) 0))).length = o.length - 1 - fallsI (placesI o) := by
    rw [show (fun i : Nat => !(if true = true then decide ((placesI o).getD (o.length - 1 - i) 0 < (placesI o).getD (o.length - 2 - i) 0) else decide ((placesI o).getD (o.length - 2 - i) 0 < (placesI o).getD (o.length - 1 - i) 0))) = fun i => !decide ((placesI o).getD (o.length - 1 - i) 0 < (placesI o).getD (o.length - 2 - i) 0) from rfl]
    omega
  rw [e2]; unfold runsI; congr 1; omega
theorem placesI_reverse {o : List Int} (ho : IsOrd o) {c : Nat} (hc : c < o.length) : (placesI o.reverse).getD c 0 = (o.length : Int) - 1 - (placesI o).getD c 0 := by
  rw [placesI_getD (by simpa using hc), placesI_getD hc]
  have hm := idxOf_lt ho hc
  have hme : (c : Int) ∈ o := ho.mem.mpr ⟨by omega, by omega⟩
  have e1 : o[o.idxOf (c : Int)]? = some (c : Int) := by
    rw [List.getElem?_eq_getElem hm]; simp
  have e2 : o.reverse[o.length - 1 - o.idxOf (c : Int)]? = some (c : Int) := by
    rw [List.getElem?_reverse (by omega), show o.length - 1 - (o.length - 1 - o.idxOf (c : Int)) = o.idxOf (c : Int) by omega]; exact e1
  rw [idxOf_at ((List.reverse_perm o).nodup_iff.mpr ho.nodup) e2]; omega
theorem runs_reverse {o : List Int} (ho : IsOrd o) (h1 : 1 ≤ o.length) : (runsI o.reverse : Int) = (o.length : Int) + 1 - runsI o := by
  have e := count_not (List.range (o.length - 1)) (isFall (placesI o))
  rw [List.length_range] at e
  have e1 : fallsI (placesI o) = ((List.range (o.length - 1)).filter (isFall (placesI o))).length := by rw [fallsI, fc, placesI_length]
  have e2 : fallsI (placesI o.reverse) = ((List.range (o.length - 1)).filter fun i => !isFall (placesI o) i).length := by
    rw [fallsI, fc, placesI_length, List.length_reverse]
    congr 1
    apply List.filter_congr
    intro m hm
    have hm := List.mem_range.mp hm
    have := places_ne ho (i := m + 1) (j := m) (by omega) (by omega) (by omega)
    unfold isFall
    rw [placesI_reverse ho (by omega), placesI_reverse ho (by omega), ← decide_not, decide_eq_decide]
    omega
  unfold runsI
  omega
theorem isOrd_reverse {o : List Int} (ho : IsOrd o) : IsOrd o.reverse := by
  unfold IsOrd; rw [List.length_reverse]; exact (List.reverse_perm o).trans ho
/-- a heap more, no way fewer -/
structure Dom (p q : List Int) : Prop where
  len : q.length = p.length + 1
  le : ∀ h, h < p.length → p.getD h 0 ≤ q.getD h 0
  p0 : ∀ h, 0 ≤ p.getD h 0
  q0 : ∀ h, 0 ≤ q.getD h 0
theorem gBeh_nonneg {p : List Int} (h : ∀ h, 0 ≤ p.getD h 0) : ∀ t, 0 ≤ gBeh p t
  | 0 => Int.le_refl _
  | t + 1 => by rw [gBeh]; have := gBeh_nonneg h t; have := h (p.length - 1 - t); omega
theorem Dom.beh {p q : List Int} (d : Dom p q) : ∀ t, t ≤ p.length → gBeh p t ≤ gBeh q (t + 1)
  | 0, _ => by have := d.q0 (q.length - 1 - 0); simp only [gBeh] at *; omega
  | t + 1, h => by
    rw [gBeh, show gBeh q (t + 1 + 1) = gBeh q (t + 1) + q.getD (q.length - 1 - (t + 1)) 0 from rfl, d.len, show p.length + 1 - 1 - (t + 1) = p.length - 1 - t by omega]
    have := d.beh t (by omega)
    have := d.le (p.length - 1 - t) (by omega)
    omega
theorem gStep_getD {sh : Nat → Bool} {p : List Int} {h : Nat} (hh : h < p.length) : (gStep sh p).getD h 0 = gOne sh p (p.length - 1 - h) := by
  rw [List.getD_eq_getElem?_getD, gStep, List.getElem?_reverse (by simpa [gTo] using hh)]
  have : p.length - 1 - h < p.length := by omega
  simp [gTo, this]
theorem gOne_nonneg {sh : Nat → Bool} {p : List Int} (h : ∀ h, 0 ≤ p.getD h 0) (t : Nat) : 0 ≤ gOne sh p t := by
  unfold gOne
  have := gBeh_nonneg h t
  have := h (p.length - 1 - t)
  split <;> omega
theorem gStep_nonneg {sh : Nat → Bool} {p : List Int} (h : ∀ h, 0 ≤ p.getD h 0) (i : Nat) : 0 ≤ (gStep sh p).getD i 0 := by
  by_cases hi : i < p.length
  · rw [gStep_getD hi]; exact gOne_nonneg h _
  · rw [List.getD_eq_getElem?_getD, List.getElem?_eq_none (by simpa using hi)]; simp
theorem Dom.step {p q : List Int} {s1 s2 : Nat → Bool} (d : Dom p q) (hs : ∀ h, h < p.length → s1 h = s2 h) : Dom (gStep s1 p) (gStep s2 q) := by
  refine ⟨by simp [d.len], fun h hh => ?_, gStep_nonneg d.p0, gStep_nonneg d.q0⟩
  rw [gStep_length] at hh
  rw [gStep_getD hh, gStep_getD (by rw [d.len]; omega), d.len, show p.length + 1 - 1 - h = (p.length - 1 - h) + 1 by omega]
  have h1 := d.beh (p.length - 1 - h) (by omega)
  unfold gOne
  rw [d.len, show p.length + 1 - 1 - (p.length - 1 - h + 1) = p.length - 1 - (p.length - 1 - h) by omega, hs _ (by omega)]
  have h2 := d.le (p.length - 1 - (p.length - 1 - h)) (by omega)
  split <;> omega
theorem dom_rows (ms : List Bool) (x : Bool) (at_ : List Int) : ∀ m, Dom (gRow ms at_ m) (gRow (ms ++ [x]) at_ m)
  | 0 => by
    have one : ∀ (l : List Bool) (h : Nat), 0 ≤ (l.map fun _ => (1 : Int)).getD h 0 := by
      intro l h
      rw [List.getD_eq_getElem?_getD, List.getElem?_map]
      cases l[h]? <;> simp
    refine ⟨by simp [gRow], fun h hh => ?_, one ms, one _⟩
    have hh : h < ms.length := by simpa [gRow] using hh
    simp only [gRow, List.getD_eq_getElem?_getD, List.getElem?_map]
    rw [List.getElem?_append_left hh]; exact Int.le_refl _
  | m + 1 => by
    refine (dom_rows ms x at_ m).step fun h hh => ?_
    rw [gRow_length] at hh
    unfold shI
    rw [show (ms ++ [x]).getD h false = ms.getD h false by rw [List.getD_eq_getElem?_getD, List.getD_eq_getElem?_getD, List.getElem?_append_left hh]]
theorem how_more (o : List Int) (ms : List Bool) (x : Bool) : howI o ms ≤ howI o (ms ++ [x]) := by
  unfold howI
  have d := dom_rows ms x (placesI o) (o.length - 1)
  rw [← gBeh_sum, ← gBeh_sum, d.len]
  exact d.beh _ (Nat.le_refl _)
theorem alike_rep (a : Nat) (b : Bool) : ∀ h, h < (List.replicate a b).length → (List.replicate a b).getD h false = b := fun h hh => by
  rw [List.length_replicate] at hh
  simp [List.getD_eq_getElem?_getD, hh]
end Rc
namespace Rc
theorem runsI_le (o : List Int) : 1 ≤ (runsI o : Int) ∧ (runsI o : Int) ≤ (o.length : Int) + 1 := by
  have h : fallsI (placesI o) ≤ o.length := by
    unfold fallsI fc
    have := List.length_filter_le (isFall (placesI o)) (List.range ((placesI o).length - 1))
    rw [List.length_range, placesI_length] at this
    rw [placesI_length]; omega
  unfold runsI; omega
theorem runs_yes {o : List Int} {i : Nat} (hi : (i : Int) < (o.length : Int) - 1) (h : (o.idxOf ((i : Int) + 1) : Int) < (o.idxOf (i : Int) : Int)) : 1 + (fc (placesI o) (i + 1) : Int) + 1 = 1 + (fc (placesI o) (i + 1 + 1) : Nat) := by
  have := fc_yes (o := placesI o) (i := i) (by
    rw [show Int.toNat ((i : Int) + 1) = i + 1 by omega, Int.toNat_natCast, placesI_getD (by omega), placesI_getD (by omega)]; exact_mod_cast h)
  omega
theorem runs_no {o : List Int} {i : Nat} (hi : (i : Int) < (o.length : Int) - 1) (h : ¬ (o.idxOf ((i : Int) + 1) : Int) < (o.idxOf (i : Int) : Int)) : 1 + (fc (placesI o) (i + 1) : Int) = 1 + (fc (placesI o) (i + 1 + 1) : Nat) := by
  have := fc_no (o := placesI o) (i := i) (by
    rw [show Int.toNat ((i : Int) + 1) = i + 1 by omega, Int.toNat_natCast, placesI_getD (by omega), placesI_getD (by omega)]; exact_mod_cast h)
  omega
theorem runs_end {o : List Int} (h : 1 ≤ o.length) : 1 + (fc (placesI o) (Int.toNat ((o.length : Int) - 1) + 1) : Int) = (runsI o : Int) := by
  unfold runsI fallsI
  rw [placesI_length, show Int.toNat ((o.length : Int) - 1) + 1 = o.length by omega]; omega
theorem alike_map (a : Nat) (b : Bool) : ∀ h, h < ((List.range a).map (fun _ : Nat => b)).length → ((List.range a).map (fun _ : Nat => b)).getD h false = b := fun h hh => by
  rw [List.length_map, List.length_range] at hh
  simp [List.getD_eq_getElem?_getD, hh]
theorem alike_map_eq (a : Nat) (b : Bool) : (List.range a).map (fun _ : Nat => b) = List.replicate a b := by
  simp [List.map_const']
end Rc
namespace Rc
theorem how_true_rep {o : List Int} {a : Int} (ho : IsOrd o) (h1 : 1 ≤ o.length) (h0 : 0 ≤ a) : howI o (List.replicate (Int.toNat a) true) = chooseZ (a + (runsI o : Int) - 1) (o.length : Int) := by
  rw [how_true ho h1 (alike_rep _ _), List.length_replicate, Int.toNat_of_nonneg h0]
theorem how_rev_rep {o : List Int} {a : Int} (ho : IsOrd o) (h1 : 1 ≤ o.length) (h0 : 0 ≤ a) : howI o.reverse (List.replicate (Int.toNat a) false) = howI o (List.replicate (Int.toNat a) true) := by
  rw [how_true_rep ho h1 h0, how_false (isOrd_reverse ho) (by simpa using h1) (alike_rep _ _), List.length_replicate, Int.toNat_of_nonneg h0, List.length_reverse, runs_reverse ho h1]
  congr 1; omega
end Rc
namespace Rc
open PySem PySem.Spec PyProof.Rows L2
theorem heap_cut {m : Nat} {o : List Int} {w : List Int} (hw : IsW m w) (hl : w.length = o.length) {h : Nat} (hh : h < m) {s : Int} (hs : s = (startI w h : Int)) :
    cutL o (some s) (some (s + (w.count (h : Int) : Int))) = (o.drop (startI w h)).take (w.count (h : Int)) := by
  have := count_room hw hh
  subst hs
  rw [cut_mid (by omega) (by omega) (by omega)]
  congr 1
  omega
theorem heap_t {o : List Int} {ms : List Bool} {w : List Int} (hw : IsW ms.length w) (hl : w.length = o.length) {h : Nat} (hh : h < ms.length) {s : Int} (hs : s = (startI w h : Int)) (hm : ms.getD (Int.toNat (h : Int)) false = true) :
    (cutL o (some s) (some (s + (w.count (h : Int) : Int)))).reverse = heapI o ms w h := by
  rw [Int.toNat_natCast] at hm
  rw [heap_cut hw hl hh hs]; unfold heapI; rw [if_pos hm]
theorem heap_f {o : List Int} {ms : List Bool} {w : List Int} (hw : IsW ms.length w) (hl : w.length = o.length) {h : Nat} (hh : h < ms.length) {s : Int} (hs : s = (startI w h : Int)) (hm : ms.getD (Int.toNat (h : Int)) false = false) :
    cutL o (some s) (some (s + (w.count (h : Int) : Int))) = heapI o ms w h := by
  rw [Int.toNat_natCast] at hm
  rw [heap_cut hw hl hh hs]; unfold heapI; rw [if_neg (by rw [hm]; exact Bool.false_ne_true)]
end Rc
namespace Rc
theorem heap_cut2 {m : Nat} {o left : List Int} {w : List Int} (hw : IsW m w) (hl : w.length = o.length) {h : Nat} (hh : h < m) {s : Int} (hs : ((w.count (h : Int) : Nat) : Int) = s) (hleft : left = o.drop (startI w h)) :
    cutL left none (some s) = (o.drop (startI w h)).take (w.count (h : Int)) ∧ cutL left (some s) none = o.drop (startI w (h + 1)) := by
  have hr := count_room hw hh
  subst hleft
  subst hs
  rw [cut_lo (by omega) (by rw [List.length_drop]; omega), cut_hi (by omega) (by rw [List.length_drop]; omega), Int.toNat_natCast, List.drop_drop]
  exact ⟨rfl, by rfl⟩
theorem heap_t2 {o x : List Int} {ms : List Bool} {w : List Int} {h : Nat} (hx : x = (o.drop (startI w h)).take (w.count (h : Int))) (hm : ms.getD (Int.toNat (h : Int)) false = true) : x.reverse = heapI o ms w h := by
  unfold heapI
  rw [Int.toNat_natCast] at hm
  rw [if_pos hm, hx]
theorem heap_f2 {o x : List Int} {ms : List Bool} {w : List Int} {h : Nat} (hx : x = (o.drop (startI w h)).take (w.count (h : Int))) (hm : ms.getD (Int.toNat (h : Int)) false = false) : x = heapI o ms w h := by
  unfold heapI
  rw [Int.toNat_natCast] at hm
  rw [if_neg (by rw [hm]; simp), hx]
theorem erase_drop (x : List Int) : x.eraseIdx (Int.toNat 0) = x.drop 1 := by cases x <;> rfl
end Rc
namespace Rc
/-! one heap of two turned -/
def cutW (o : List Int) (cut : Int) : List Int := o.map fun c => if cut ≤ c then 1 else 0
def leadsB (a b : Bool) (o : List Int) (cut : Int) : Bool := decide (0 ≤ cut) && decide (cut ≤ (o.length : Int)) && decide (riffleI (upto o.length) [a, b] (cutW o cut) = o)
theorem cutW_isW (o : List Int) (cut : Int) : IsW 2 (cutW o cut) := fun x hx => by
  obtain ⟨c, _, rfl⟩ := List.mem_map.mp hx
  split <;> omega
@[simp] theorem cutW_length (o : List Int) (cut : Int) : (cutW o cut).length = o.length := by simp [cutW]
theorem cutW_next {o : List Int} {cut : Int} {i : Nat} {y : Int} (e : o[i]? = some y) : cutW (o.take i) cut ++ [if cut ≤ y then 1 else 0] = cutW (o.take (i + 1)) cut := by
  rw [take_nxt e, cutW, cutW, List.map_append]; rfl
theorem isW_take {m : Nat} {o : List Int} {cut : Int} (i : Nat) : IsW 2 (cutW (o.take i) cut) := cutW_isW _ _
def ones (o : List Int) (cut : Int) (j : Nat) : Nat := ((cutW o cut).take j).count 1
def zers (o : List Int) (cut : Int) (j : Nat) : Nat := ((cutW o cut).take j).count 0
theorem cutW_getD {o : List Int} {cut : Int} {j : Nat} (h : j < o.length) : (cutW o cut)[j]? = some (if cut ≤ o.getD j 0 then 1 else 0) := by
  rw [cutW, List.getElem?_map, getElem?_getD 0 h]; rfl
theorem ones_succ {o : List Int} {cut : Int} {j : Nat} (h : j < o.length) : ones o cut (j + 1) = ones o cut j + if cut ≤ o.getD j 0 then 1 else 0 := by
  unfold ones
  rw [take_nxt (cutW_getD h), List.count_append]
  split <;> rfl
theorem zers_succ {o : List Int} {cut : Int} {j : Nat} (h : j < o.length) : zers o cut (j + 1) = zers o cut j + if cut ≤ o.getD j 0 then 0 else 1 := by
  unfold zers
  rw [take_nxt (cutW_getD h), List.count_append]
  split <;> rfl
theorem ones_zers {o : List Int} {cut : Int} : ∀ {j : Nat}, j ≤ o.length → ones o cut j + zers o cut j = j
  | 0, _ => rfl
  | j + 1, h => by
    rw [ones_succ (by omega), zers_succ (by omega)]
    have := ones_zers (o := o) (cut := cut) (j := j) (by omega)
    split <;> omega
theorem ones_mono {o : List Int} {cut : Int} {i j : Nat} (h : i ≤ j) (hj : j ≤ o.length) : ones o cut i ≤ ones o cut j := by
  induction j with
  | zero => rw [show i = 0 by omega]; exact Nat.le_refl _
  | succ j ih =>
    by_cases e : i = j + 1
    · subst e; exact Nat.le_refl _
    · have := ih (by omega) (by omega)
      rw [ones_succ (by omega)]; omega
theorem zers_mono {o : List Int} {cut : Int} {i j : Nat} (h : i ≤ j) (hj : j ≤ o.length) : zers o cut i ≤ zers o cut j := by
  induction j with
  | zero => rw [show i = 0 by omega]; exact Nat.le_refl _
  | succ j ih =>
    by_cases e : i = j + 1
    · subst e; exact Nat.le_refl _
    · have := ih (by omega) (by omega)
      rw [zers_succ (by omega)]; omega
theorem riff_first {ms : List Bool} {w : List Int} {n : Nat} (hw : IsW ms.length w) (hl : w.length = n) : riffleI (upto n) ms w = numI ms w := by
  unfold riffleI laidI
  conv => rhs; rw [← List.map_id (numI ms w)]
  apply List.map_congr_left
  intro p hp
  have := (isOrd_numI ms hw).mem.mp hp
  rw [numI_length] at this
  have hlt : p.toNat < n := by omega
  rw [List.getD_eq_getElem?_getD, upto_getElem? hlt]
  simp; omega
def vals (a b : Bool) (o : List Int) (cut : Int) (j : Nat) : Int :=
  if cut ≤ o.getD j 0 then (if b = true then (o.length : Int) - 1 - ones o cut j else (zers o cut o.length : Int) + ones o cut j)
  else (if a = true then (zers o cut o.length : Int) - 1 - zers o cut j else zers o cut j)
theorem num_vals {a b : Bool} {o : List Int} {cut : Int} {j : Nat} (h : j < o.length) : numAt [a, b] (cutW o cut) j = vals a b o cut j := by
  unfold numAt cntI vals
  rw [getD_of (cutW_getD h)]
  have hall : ones o cut o.length + zers o cut o.length = o.length := ones_zers (Nat.le_refl _)
  have e1 : (cutW o cut).count 1 = ones o cut o.length := by unfold ones; rw [List.take_of_length_le (by simp)]
  have e0 : (cutW o cut).count 0 = zers o cut o.length := by unfold zers; rw [List.take_of_length_le (by simp)]
  split
  · unfold topI
    show (if ([a, b].getD 1 false) = true then ((startI (cutW o cut) 1 : Nat) : Int) + ((cutW o cut).count 1 : Nat) - 1 - (ones o cut j : Nat) else ((startI (cutW o cut) 1 : Nat) : Int) + (ones o cut j : Nat)) = _
    rw [show startI (cutW o cut) 1 = 0 + (cutW o cut).count 0 from rfl, e0, e1]
    cases b
    · rw [if_neg (by simp), if_neg (by simp)]; omega
    · rw [if_pos (show [a, true].getD 1 false = true from rfl), if_pos rfl]; omega
  · unfold topI
    show (if ([a, b].getD 0 false) = true then ((startI (cutW o cut) 0 : Nat) : Int) + ((cutW o cut).count 0 : Nat) - 1 - (zers o cut j : Nat) else ((startI (cutW o cut) 0 : Nat) : Int) + (zers o cut j : Nat)) = _
    rw [show startI (cutW o cut) 0 = 0 from rfl, e0]
    cases a
    · rw [if_neg (by simp), if_neg (by simp)]; omega
    · rw [if_pos (show [true, b].getD 0 false = true from rfl), if_pos rfl]; omega
theorem leads_iff {a b : Bool} {o : List Int} {cut : Int} : leadsB a b o cut = true ↔ 0 ≤ cut ∧ cut ≤ o.length ∧ ∀ j, j < o.length → o.getD j 0 = vals a b o cut j := by
  unfold leadsB
  rw [Bool.and_eq_true, Bool.and_eq_true, decide_eq_true_eq, decide_eq_true_eq, decide_eq_true_eq, riff_first (ms := [a, b]) (cutW_isW o cut) (by simp)]
  constructor
  · rintro ⟨⟨h0, h1⟩, h2⟩
    refine ⟨h0, h1, fun j hj => ?_⟩
    have := congrArg (fun l => l.getD j 0) h2
    simp only [numI, cutW_length] at this
    rw [← this, ← num_vals hj, List.getD_eq_getElem?_getD]
    simp [hj]
  · rintro ⟨h0, h1, h2⟩
    refine ⟨⟨h0, h1⟩, ?_⟩
    apply List.ext_getElem
    · simp
    · intro j g1 g2
      have := h2 j g2
      rw [List.getD_eq_getElem?_getD, List.getElem?_eq_getElem g2, Option.getD_some] at this
      simp only [numI, List.getElem_map, List.getElem_range]
      rw [num_vals g2, this]
theorem leads_false {a b : Bool} {o : List Int} {cut : Int} (h : ¬ (0 ≤ cut ∧ cut ≤ o.length ∧ ∀ j, j < o.length → o.getD j 0 = vals a b o cut j)) : leadsB a b o cut = false := by
  cases e : leadsB a b o cut
  · rfl
  · exact absurd (leads_iff.mp e) h
/-! the second heap turned: low and high -/
def lh (o : List Int) : Nat → Int × Int
  | 0 => (0, (o.length : Int) - 1)
  | j + 1 => if o.getD j 0 = (lh o j).1 then ((lh o j).1 + 1, (lh o j).2) else if o.getD j 0 = (lh o j).2 then ((lh o j).1, (lh o j).2 - 1) else lh o j
def okAt (o : List Int) (j : Nat) : Prop := o.getD j 0 = (lh o j).1 ∨ o.getD j 0 = (lh o j).2
def okTo (o : List Int) (j : Nat) : Prop := ∀ i, i < j → okAt o i
theorem lh_low {o : List Int} {i : Nat} {y l h : Int} (e : o[i]? = some y) (hl : lh o i = (l, h)) (hy : y = l) : lh o (i + 1) = (l + 1, h) := by
  rw [lh, getD_of e, hl, if_pos hy]
theorem lh_high {o : List Int} {i : Nat} {y l h : Int} (e : o[i]? = some y) (hl : lh o i = (l, h)) (hy : ¬ y = l) (hy2 : y = h) : lh o (i + 1) = (l, h - 1) := by
  rw [lh, getD_of e, hl, if_neg hy, if_pos hy2]
theorem okTo_zero (o : List Int) : okTo o 0 := fun _ h => by omega
theorem okTo_next {o : List Int} {i : Nat} (h : okTo o i) (hi : okAt o i) : okTo o (i + 1) := fun j hj => by
  by_cases e : j = i
  · subst e; exact hi
  · exact h j (by omega)
theorem okAt_of {o : List Int} {i : Nat} {y l h : Int} (e : o[i]? = some y) (hl : lh o i = (l, h)) (hy : y = l ∨ y = h) : okAt o i := by
  unfold okAt; rw [getD_of e, hl]; exact hy
theorem not_okAt {o : List Int} {i : Nat} {y l h : Int} (e : o[i]? = some y) (hl : lh o i = (l, h)) (h1 : ¬ y = l) (h2 : ¬ y = h) : ¬ okAt o i := by
  unfold okAt; rw [getD_of e, hl]; exact fun z => z.elim h1 h2
theorem lh_sum {o : List Int} : ∀ {j : Nat}, okTo o j → (lh o j).1 + ((o.length : Int) - 1 - (lh o j).2) = j ∧ 0 ≤ (lh o j).1 ∧ (lh o j).2 ≤ (o.length : Int) - 1
  | 0, _ => by simp only [lh]; omega
  | j + 1, h => by
    have ih := lh_sum (j := j) (fun i hi => h i (by omega))
    have := h j (by omega)
    unfold okAt at this
    rw [lh]
    split
    · simp only []; omega
    · rw [if_pos (by omega)]; simp only []; omega
theorem lh_mono {o : List Int} (i : Nat) : ∀ d, (lh o i).1 ≤ (lh o (i + d)).1 ∧ (lh o (i + d)).2 ≤ (lh o i).2
  | 0 => ⟨Int.le_refl _, Int.le_refl _⟩
  | d + 1 => by
    have ih := lh_mono (o := o) i d
    rw [show i + (d + 1) = (i + d) + 1 by omega, lh]
    split
    · simp only []; omega
    · split
      · simp only []; omega
      · exact ih
/-- what lies among the first j -/
theorem lh_taken {o : List Int} : ∀ {j : Nat}, okTo o j → j ≤ o.length → ∀ x, x ∈ o.take j ↔ (0 ≤ x ∧ x < (lh o j).1) ∨ ((lh o j).2 < x ∧ x ≤ (o.length : Int) - 1)
  | 0, _, _ => by intro x; simp only [lh, List.take_zero, List.not_mem_nil, false_iff]; omega
  | j + 1, h, hj => by
    intro x
    have hj' : okTo o j := fun i hi => h i (by omega)
    have ih := lh_taken hj' (by omega) x
    have hs := lh_sum hj'
    have := h j (by omega)
    unfold okAt at this
    rw [take_nxt (getElem?_getD 0 (show j < o.length by omega)), List.mem_append, List.mem_singleton, ih, lh]
    split
    · simp only []; omega
    · rw [if_pos (by omega)]; simp only []; omega
theorem mem_drop_iff {o : List Int} (hn : o.Nodup) (j : Nat) {x : Int} : x ∈ o.drop j ↔ x ∈ o ∧ x ∉ o.take j := by
  have e : o.take j ++ o.drop j = o := List.take_append_drop j o
  have hd : ∀ y ∈ o.take j, ∀ z ∈ o.drop j, y ≠ z := by
    have := hn; rw [← e] at this; exact (List.nodup_append.mp this).2.2
  constructor
  · intro h
    exact ⟨List.mem_of_mem_drop h, fun h2 => hd x h2 x h rfl⟩
  · rintro ⟨h1, h2⟩
    rw [← e] at h1
    exact (List.mem_append.mp h1).resolve_left h2
theorem lh_left {o : List Int} (ho : IsOrd o) {j : Nat} (h : okTo o j) (hj : j < o.length) (x : Int) : x ∈ o.drop j ↔ (lh o j).1 ≤ x ∧ x ≤ (lh o j).2 := by
  have hs := lh_sum h
  rw [mem_drop_iff ho.nodup, lh_taken h (by omega), ho.mem]
  omega
theorem lh_min {o : List Int} (ho : IsOrd o) {j : Nat} (h : okTo o j) (hj : j < o.length) {m : Int} (h1 : m ∈ o.drop j) (h2 : ∀ x ∈ o.drop j, m ≤ x) : m = (lh o j).1 := by
  have hs := lh_sum h
  have a := (lh_left ho h hj m).mp h1
  have b := h2 _ ((lh_left ho h hj _).mpr ⟨Int.le_refl _, by omega⟩)
  omega
theorem lh_max {o : List Int} (ho : IsOrd o) {j : Nat} (h : okTo o j) (hj : j < o.length) {m : Int} (h1 : m ∈ o.drop j) (h2 : ∀ x ∈ o.drop j, x ≤ m) : m = (lh o j).2 := by
  have hs := lh_sum h
  have a := (lh_left ho h hj m).mp h1
  have b := h2 _ ((lh_left ho h hj _).mpr ⟨by omega, Int.le_refl _⟩)
  omega
def By2 (o : List Int) (b : Bool) (k : Int) : Prop := (b = true ∧ okTo o o.length ∧ k = o.getLastD 0) ∨ (b = false ∧ ∃ j, j < o.length ∧ okTo o j ∧ ¬ okAt o j ∧ k = (j : Int) + 1)
theorem last_getD {o : List Int} : o.getLastD 0 = o.getD (o.length - 1) 0 := by
  rw [List.getLastD_eq_getLast?, List.getLast?_eq_getElem?, List.getD_eq_getElem?_getD]
/-- a heap that leads there goes as low and high go -/
theorem leads_lh {o : List Int} {cut : Int} (h : ∀ j, j < o.length → o.getD j 0 = vals false true o cut j) : ∀ {i : Nat}, i < o.length → lh o i = ((zers o cut i : Int), (o.length : Int) - 1 - ones o cut i)
  | 0, _ => by simp [lh, zers, ones]
  | i + 1, hi => by
    have ih := leads_lh h (i := i) (by omega)
    have hv := h i (by omega)
    have hs := ones_zers (o := o) (cut := cut) (j := i) (by omega)
    rw [lh, ih]
    rw [zers_succ (by omega), ones_succ (by omega)]
    unfold vals at hv
    by_cases hc : cut ≤ o.getD i 0
    · rw [if_pos hc, if_pos rfl] at hv
      rw [if_neg (by simp only []; omega), if_pos (by simp only []; omega), if_pos hc, if_pos hc]
      refine Prod.ext ?_ ?_ <;> simp only [] <;> omega
    · rw [if_neg hc, if_neg (by simp)] at hv
      rw [if_pos (by simp only []; omega), if_neg hc, if_neg hc]
      refine Prod.ext ?_ ?_ <;> simp only [] <;> omega
theorem two_none {o : List Int} {j : Nat} (hj : j < o.length) (h : ¬ okAt o j) (cut : Int) : leadsB false true o cut = false := by
  refine leads_false fun ⟨_, _, hv⟩ => h ?_
  have e := leads_lh hv hj
  have hv := hv j hj
  unfold okAt
  rw [e]
  unfold vals at hv
  by_cases hc : cut ≤ o.getD j 0
  · rw [if_pos hc, if_pos rfl] at hv; exact .inr hv
  · rw [if_neg hc, if_neg (by simp)] at hv; exact .inl hv
theorem two_leads {o : List Int} (ho : IsOrd o) (h1 : 1 ≤ o.length) (h : okTo o o.length) : leadsB false true o (o.getLastD 0) = true := by
  rw [last_getD]
  have hm : o.getD (o.length - 1) 0 ∈ o := by
    rw [List.getD_eq_getElem?_getD, List.getElem?_eq_getElem (show o.length - 1 < o.length by omega)]; exact List.getElem_mem _
  have hb := ho.mem.mp hm
  have hlast : (lh o (o.length - 1)).1 = o.getD (o.length - 1) 0 ∧ (lh o (o.length - 1)).2 = o.getD (o.length - 1) 0 := by
    have hs := lh_sum (o := o) (j := o.length - 1) (fun i hi => h i (by omega))
    have := h (o.length - 1) (by omega)
    unfold okAt at this
    omega
  have key : ∀ j, j < o.length → lh o j = ((zers o (o.getD (o.length - 1) 0) j : Int), (o.length : Int) - 1 - ones o (o.getD (o.length - 1) 0) j) := by
    intro j
    induction j with
    | zero => intro _; simp [lh, zers, ones]
    | succ j ih =>
      intro hj
      have ih := ih (by omega)
      have ok := h j (by omega)
      have mono := lh_mono (o := o) (j + 1) (o.length - 1 - (j + 1))
      rw [show j + 1 + (o.length - 1 - (j + 1)) = o.length - 1 by omega, hlast.1, hlast.2] at mono
      unfold okAt at ok
      rw [zers_succ (by omega), ones_succ (by omega)]
      rw [lh] at mono ⊢
      by_cases hc : o.getD j 0 = (lh o j).1
      · rw [if_pos hc] at mono ⊢
        simp only [] at mono
        rw [if_neg (by omega), if_neg (by omega), ih]
        refine Prod.ext ?_ ?_ <;> simp only [] <;> omega
      · rw [if_neg hc, if_pos (by omega)] at mono ⊢
        simp only [] at mono
        rw [if_pos (by omega), if_pos (by omega), ih]
        refine Prod.ext ?_ ?_ <;> simp only [] <;> omega
  refine leads_iff.mpr ⟨by omega, by omega, fun j hj => ?_⟩
  have e := key j hj
  have ok := h j hj
  unfold okAt at ok
  unfold vals
  by_cases hl : j = o.length - 1
  · subst hl
    rw [if_pos (Int.le_refl _), if_pos rfl]
    have : (lh o (o.length - 1)).2 = (o.length : Int) - 1 - ones o (o.getD (o.length - 1) 0) (o.length - 1) := by rw [e]
    omega
  · have mono := lh_mono (o := o) (j + 1) (o.length - 1 - (j + 1))
    rw [show j + 1 + (o.length - 1 - (j + 1)) = o.length - 1 by omega, hlast.1, hlast.2, lh] at mono
    by_cases hc : o.getD j 0 = (lh o j).1
    · rw [if_pos hc] at mono
      simp only [] at mono
      rw [if_neg (by omega), if_neg (by simp), hc, e]
    · rw [if_neg hc, if_pos (by omega)] at mono
      simp only [] at mono
      rw [if_pos (by omega), if_pos rfl]
      have : (lh o j).2 = (o.length : Int) - 1 - ones o (o.getD (o.length - 1) 0) j := by rw [e]
      omega
theorem two_not {o : List Int} (ho : IsOrd o) (h1 : 1 ≤ o.length) : leadsB false true o (o.getLastD 0 - 1) = false := by
  rw [last_getD]
  refine leads_false fun ⟨h0, _, hv⟩ => ?_
  have hm : o.getD (o.length - 1) 0 ∈ o := by
    rw [List.getD_eq_getElem?_getD, List.getElem?_eq_getElem (show o.length - 1 < o.length by omega)]; exact List.getElem_mem _
  have hb := ho.mem.mp hm
  have hc : o.getD (o.length - 1) 0 - 1 ∈ o := ho.mem.mpr ⟨h0, by omega⟩
  obtain ⟨i, hi, he⟩ := List.mem_iff_getElem.mp hc
  have hi2 : o.getD i 0 = o.getD (o.length - 1) 0 - 1 := by rw [List.getD_eq_getElem?_getD, List.getElem?_eq_getElem hi]; exact he
  have v1 := hv i hi
  have v2 := hv (o.length - 1) (by omega)
  unfold vals at v1 v2
  rw [if_pos (by omega), if_pos rfl] at v1
  rw [if_pos (by omega), if_pos rfl] at v2
  have := ones_mono (o := o) (cut := o.getD (o.length - 1) 0 - 1) (show i ≤ o.length - 1 by omega) (by omega)
  omega
end Rc
namespace Rc
theorem cut_drop {o : List Int} {i : Nat} (h : i ≤ o.length) : cutL o (some (i : Int)) none = o.drop i := by
  rw [cut_hi (by omega) (by omega), Int.toNat_natCast]
theorem min_ok {o : List Int} {i : Nat} {m : Int} (ho : IsOrd o) (hok : okTo o i) (hi : i < o.length) (he : o.getD (Int.toNat (i : Int)) 0 = m) (h1 : m ∈ cutL o (some (i : Int)) none) (h2 : ∀ x ∈ cutL o (some (i : Int)) none, m ≤ x) : okAt o i := by
  rw [cut_drop (by omega)] at h1 h2
  rw [Int.toNat_natCast] at he
  exact .inl (he.trans (lh_min ho hok hi h1 h2))
theorem max_ok {o : List Int} {i : Nat} {m : Int} (ho : IsOrd o) (hok : okTo o i) (hi : i < o.length) (he : o.getD (Int.toNat (i : Int)) 0 = m) (h1 : m ∈ cutL o (some (i : Int)) none) (h2 : ∀ x ∈ cutL o (some (i : Int)) none, x ≤ m) : okAt o i := by
  rw [cut_drop (by omega)] at h1 h2
  rw [Int.toNat_natCast] at he
  exact .inr (he.trans (lh_max ho hok hi h1 h2))
theorem not_ok2 {o : List Int} {i : Nat} {m m' : Int} (ho : IsOrd o) (hok : okTo o i) (hi : i < o.length) (h2 : ∀ x ∈ cutL o (some (i : Int)) none, m ≤ x) (h1 : m ∈ cutL o (some (i : Int)) none) (hn : ¬ o.getD (Int.toNat (i : Int)) 0 = m)
    (h2' : ∀ x ∈ cutL o (some (i : Int)) none, x ≤ m') (h1' : m' ∈ cutL o (some (i : Int)) none) (hn' : ¬ o.getD (Int.toNat (i : Int)) 0 = m') : ¬ okAt o i := by
  rw [cut_drop (by omega)] at h1 h2 h1' h2'
  rw [Int.toNat_natCast] at hn hn'
  rw [lh_min ho hok hi h1 h2] at hn
  rw [lh_max ho hok hi h1' h2'] at hn'
  exact fun z => z.elim hn hn'
theorem isOrd_swap {o : List Int} {a b : Int} (ho : IsOrd o) (ha : 0 ≤ a ∧ a < o.length) (hb : 0 ≤ b ∧ b < o.length) : IsOrd ((o.set a.toNat (o.getD b.toNat 0)).set b.toNat (o.getD a.toNat 0)) := by
  have la : a.toNat < o.length := by omega
  have lb : b.toNat < o.length := by omega
  unfold IsOrd
  rw [List.length_set, List.length_set, List.getD_eq_getElem?_getD, List.getD_eq_getElem?_getD, List.getElem?_eq_getElem la, List.getElem?_eq_getElem lb]
  exact (List.set_set_perm la lb).trans ho
end Rc
namespace Rc
theorem filter_none {n : Nat} {f : Nat → Bool} {g : Nat → Int} (h : ∀ i, f i = false) : (List.map g (List.filter f (List.range n))).length = 0 := by
  rw [List.length_map, List.length_eq_zero_iff, List.filter_eq_nil_iff]
  intro i _; rw [h i]; simp
end Rc
namespace Rc
open PySem PySem.Spec PyProof.Rows L2
theorem by2_yes {o : List Int} {b : Bool} {k : Int} {v : V} (hby : By2 o b k) (hbr : (v = V.non ∧ okTo o o.length) ∨ (∃ j, j < o.length ∧ okTo o j ∧ ¬ okAt o j ∧ v = V.int ((j : Int) + 1))) (hn : v = V.non) : b = true ∧ okTo o o.length ∧ k = o.getLastD 0 := by
  rcases hby with h | ⟨_, j, h1, _, h3, _⟩
  · exact h
  · rcases hbr with ⟨_, h⟩ | ⟨j', _, _, _, h⟩
    · exact absurd (h j h1) h3
    · rw [hn] at h; cases h
theorem by2_no {o : List Int} {b : Bool} {k : Int} {v : V} (hby : By2 o b k) (hbr : (v = V.non ∧ okTo o o.length) ∨ (∃ j, j < o.length ∧ okTo o j ∧ ¬ okAt o j ∧ v = V.int ((j : Int) + 1))) (hn : ¬ v = V.non) : ∃ j, j < o.length ∧ ¬ okAt o j ∧ b = false ∧ k = (j : Int) + 1 ∧ v = V.int ((j : Int) + 1) := by
  rcases hbr with ⟨h, _⟩ | ⟨j, h1, h2, h3, h4⟩
  · exact absurd h hn
  · rcases hby with ⟨_, h, _⟩ | ⟨hb, j', g1, g2, g3, g4⟩
    · exact absurd (h j h1) h3
    · have e : j' = j := by
        rcases Nat.lt_trichotomy j' j with h | h | h
        · exact absurd (h2 j' h) g3
        · exact h
        · exact absurd (g2 j h) h3
      subst e
      exact ⟨j', h1, h3, hb, g4, h4⟩
theorem by2_sca {o : List Int} {b : Bool} {k : Int} {v : V} (h : ∃ j, j < o.length ∧ ¬ okAt o j ∧ b = false ∧ k = (j : Int) + 1 ∧ v = V.int ((j : Int) + 1)) : sca v = true := by
  obtain ⟨j, _, _, _, _, h⟩ := h
  subst h; rfl
end Rc
namespace Rc
def turnedI (marks others : List Bool) (heap other : Int) : Int := if marks.getD heap.toNat false = true then (others.length : Int) - 1 - other else other
def joinedRow (ms os : List Bool) (h n : Nat) : List Bool := (List.range n).map fun g : Nat => ms.getD h false != os.getD (turnedI ms os h g).toNat false
def joinedTo (ms os : List Bool) (n : Nat) : List Bool := (List.range n).flatMap fun h => joinedRow ms os h os.length
def joinedM (ms os : List Bool) : List Bool := joinedTo ms os ms.length
theorem turnedI_bd (ms os : List Bool) (h g : Int) (h0 : 0 ≤ g) (h1 : g < os.length) : 0 ≤ turnedI ms os h g ∧ turnedI ms os h g < os.length := by
  unfold turnedI; split <;> omega
theorem joinedRow_next (ms os : List Bool) (l : List Bool) (h n : Nat) : (l ++ joinedRow ms os h n) ++ [ms.getD h false != os.getD (turnedI ms os h n).toNat false] = l ++ joinedRow ms os h (n + 1) := by
  unfold joinedRow; rw [List.range_succ, List.map_append, List.append_assoc]; rfl
theorem joinedTo_next (ms os : List Bool) (n : Nat) : joinedTo ms os n ++ joinedRow ms os n os.length = joinedTo ms os (n + 1) := by
  unfold joinedTo; rw [List.range_succ, List.flatMap_append]; simp
theorem joinedTo_length (ms os : List Bool) (n : Nat) : (joinedTo ms os n).length = n * os.length := by
  induction n with
  | zero => simp [joinedTo]
  | succ n ih => rw [← joinedTo_next, List.length_append, ih]; simp [joinedRow, Nat.succ_mul]
theorem joined_size {ms os : List Bool} {h n : Nat} (hh : h < ms.length) (hn : n < os.length) (hm : ms.length * os.length ≤ 400) : (joinedTo ms os h ++ joinedRow ms os h n).length < 100000 := by
  rw [List.length_append, joinedTo_length]
  have : (joinedRow ms os h n).length = n := by simp [joinedRow]
  have h2 : (h + 1) * os.length ≤ ms.length * os.length := Nat.mul_le_mul_right _ hh
  rw [Nat.succ_mul] at h2
  omega
def dueRow (m : Bool) (os : List Bool) : List Bool := if m = true then os.reverse else os
def dueTo (ms os : List Bool) (i : Nat) : List Bool := (ms.take i).flatMap fun m => (dueRow m os).map fun o => m != o
theorem take_nx {α : Type} {ns : List α} {i : Nat} {y : α} (h : ns[i]? = some y) : ns.take (i + 1) = ns.take i ++ [y] := by rw [List.take_add_one, h]; rfl
theorem dueTo_next {ms os row : List Bool} {i : Nat} {m : Bool} (hy : ms[i]? = some m) (hj : row = dueRow m os) : dueTo ms os i ++ (row.take row.length).map (fun o => m != o) = dueTo ms os (i + 1) := by
  unfold dueTo; rw [take_nx hy, List.flatMap_append, List.take_length, hj]; simp
theorem dueRow_length (m : Bool) (os : List Bool) : (dueRow m os).length = os.length := by unfold dueRow; split <;> simp
theorem dueTo_length (ms os : List Bool) (i : Nat) (hi : i ≤ ms.length) : (dueTo ms os i).length = i * os.length := by
  induction i with
  | zero => simp [dueTo]
  | succ i ih =>
    have hy : ms[i]? = some ms[i] := List.getElem?_eq_getElem (by omega)
    rw [← dueTo_next hy rfl, List.length_append, ih (by omega), List.length_map, List.take_length, dueRow_length, Nat.succ_mul]
theorem due_size {ms os row : List Bool} {h n : Nat} {m : Bool} (hh : h < ms.length) (hn : n < row.length) (hm : ms.length * os.length ≤ 400) (hj : row = dueRow m os) : (dueTo ms os h).length + (row.take n).length < 100000 := by
  rw [dueTo_length _ _ _ (by omega), List.length_take]
  rw [hj, dueRow_length] at hn ⊢
  have h2 : (h + 1) * os.length ≤ ms.length * os.length := Nat.mul_le_mul_right _ hh
  rw [Nat.succ_mul] at h2
  omega
theorem dueRow_eq (ms os : List Bool) (h : Nat) : joinedRow ms os h os.length = (dueRow (ms.getD h false) os).map fun o => ms.getD h false != o := by
  unfold dueRow joinedRow turnedI
  rw [Int.toNat_natCast]
  generalize ms.getD h false = m
  split
  · rename_i hm
    apply List.ext_getElem
    · simp
    · intro i h1 h2
      have hi : i < os.length := by simpa using h1
      simp only [List.getElem_map, List.getElem_range, List.getElem_reverse]
      have : ((os.length : Int) - 1 - (i : Int)).toNat = os.length - 1 - i := by omega
      rw [this, List.getD_eq_getElem?_getD, List.getElem?_eq_getElem (by omega)]; rfl
  · apply List.ext_getElem
    · simp
    · intro i h1 h2
      have hi : i < os.length := by simpa using h1
      simp only [List.getElem_map, List.getElem_range]
      rw [Int.toNat_natCast, List.getD_eq_getElem?_getD, List.getElem?_eq_getElem (by omega)]; rfl
theorem dueTo_to (ms os : List Bool) (i : Nat) (hi : i ≤ ms.length) : dueTo ms os i = joinedTo ms os i := by
  induction i with
  | zero => rfl
  | succ i ih =>
    have hy : ms[i]? = some ms[i] := List.getElem?_eq_getElem (by omega)
    rw [← dueTo_next hy rfl, ih (by omega), ← joinedTo_next, List.take_length, dueRow_eq]
    have : ms.getD i false = ms[i] := by rw [List.getD_eq_getElem?_getD, hy]; rfl
    rw [this]
theorem dueTo_all (ms os : List Bool) : dueTo ms os ms.length = joinedM ms os := dueTo_to _ _ _ (Nat.le_refl _)
theorem prod20 {a b : Nat} (ha : a ≤ 20) (hb : b ≤ 20) : a * b ≤ 400 := Nat.mul_le_mul ha hb
theorem joinedM_length (ms os : List Bool) : (joinedM ms os).length = ms.length * os.length := joinedTo_length _ _ _
end Rc
namespace Rc
/-! two riffles as one -/
def ltW (ms : List Bool) (w : List Int) (i j : Nat) : Prop := w.getD i 0 < w.getD j 0 ∨ (w.getD i 0 = w.getD j 0 ∧ if ms.getD (w.getD i 0).toNat false = true then j < i else i < j)
theorem cnt_mono {w : List Int} {i j : Nat} (hij : i < j) (hj : j < w.length) (he : w.getD i 0 = w.getD j 0) : cntI w i < cntI w j := by
  unfold cntI
  rw [he]
  have hi : i < w.length := by omega
  have e1 : w.take (i + 1) = w.take i ++ [w.getD j 0] := by rw [take_nxt (getElem?_getD 0 hi), he]
  have h2 : ((w.take (i + 1)).count (w.getD j 0)) ≤ (w.take j).count (w.getD j 0) := by
    have : (w.take (i + 1)).Sublist (w.take j) := (List.take_prefix_take_left (show i + 1 ≤ j by omega)).sublist
    exact this.count_le _
  have e2 : List.count (w.getD j 0) [w.getD j 0] = 1 := by simp
  rw [e1, List.count_append, e2] at h2
  omega
theorem num_lt_of {m : Nat} {ms : List Bool} {w : List Int} (hw : IsW m w) {i j : Nat} (hi : i < w.length) (hj : j < w.length) (h : ltW ms w i j) : numAt ms w i < numAt ms w j := by
  have ei := getElem?_getD (0 : Int) hi
  have ej := getElem?_getD (0 : Int) hj
  have bi := hw.at ei
  have bj := hw.at ej
  have ci := cnt_lt ei
  have cj := cnt_lt ej
  have ti : (((w.getD i 0).toNat : Nat) : Int) = w.getD i 0 := by omega
  have tj : (((w.getD j 0).toNat : Nat) : Int) = w.getD j 0 := by omega
  unfold numAt
  rcases h with h | ⟨he, h⟩
  · have s := startI_lt (w := w) (show (w.getD i 0).toNat < (w.getD j 0).toNat by omega)
    rw [ti] at s
    unfold topI cntI
    rw [ti, tj]
    split <;> split <;> omega
  · unfold topI
    rw [← he]
    split at h
    · rename_i hm
      rw [if_pos hm, if_pos hm]
      have := cnt_mono h hi he.symm
      omega
    · rename_i hm
      rw [if_neg hm, if_neg hm]
      have := cnt_mono h hj he
      omega
theorem ltW_tri (ms : List Bool) (w : List Int) {i j : Nat} (h : i ≠ j) : ltW ms w i j ∨ ltW ms w j i := by
  unfold ltW
  rcases Int.lt_trichotomy (w.getD i 0) (w.getD j 0) with h1 | h1 | h1
  · exact .inl (.inl h1)
  · rw [h1]
    by_cases hm : ms.getD (w.getD j 0).toNat false = true
    · rw [if_pos hm, if_pos hm]
      rcases Nat.lt_or_gt_of_ne h with h2 | h2
      · exact .inr (.inr ⟨rfl, h2⟩)
      · exact .inl (.inr ⟨rfl, h2⟩)
    · rw [if_neg hm, if_neg hm]
      rcases Nat.lt_or_gt_of_ne h with h2 | h2
      · exact .inl (.inr ⟨rfl, h2⟩)
      · exact .inr (.inr ⟨rfl, h2⟩)
  · exact .inr (.inl h1)
theorem num_lt {m : Nat} {ms : List Bool} {w : List Int} (hw : IsW m w) {i j : Nat} (hi : i < w.length) (hj : j < w.length) : numAt ms w i < numAt ms w j ↔ ltW ms w i j := by
  refine ⟨fun h => ?_, num_lt_of hw hi hj⟩
  by_cases e : i = j
  · subst e; omega
  · rcases ltW_tri ms w e with h1 | h1
    · exact h1
    · have := num_lt_of hw hj hi h1; omega
/-- an order is told by its comparisons -/
theorem ord_rank {p : List Int} (h : IsOrd p) {j : Nat} (hj : j < p.length) : p.getD j 0 = (((List.range p.length).filter fun k => decide (p.getD k 0 < p.getD j 0)).length : Int) := by
  have hb := h.bd (getElem?_getD 0 hj)
  have e0 : ∀ t : Int, ((List.range p.length).filter fun k => decide (p.getD k 0 < t)).length = (p.filter fun x => decide (x < t)).length := by
    intro t
    have e : p = (List.range p.length).map fun k => p.getD k 0 := by
      apply List.ext_getElem
      · simp
      · intro i h1 h2
        simp [List.getD_eq_getElem?_getD, List.getElem?_eq_getElem h1]
    have e2 : (p.filter fun x => decide (x < t)).length = (((List.range p.length).map fun k => p.getD k 0).filter fun x => decide (x < t)).length := congrArg (fun l => (l.filter fun x => decide (x < t)).length) e
    rw [e2, List.filter_map, List.length_map]; rfl
  have e1 := e0 (p.getD j 0)
  rw [e1, (h.filter _).length_eq]
  have key : ∀ (n : Nat) (t : Int), 0 ≤ t → t ≤ n → (((upto n).filter fun x => decide (x < t)).length : Int) = t := by
    intro n
    induction n with
    | zero => intro t h0 h1; show ((([] : List Int).length : Nat) : Int) = t; simp; omega
    | succ n ih =>
      intro t h0 h1
      rw [upto_succ, List.filter_append, List.length_append]
      by_cases ht : t ≤ n
      · have := ih t h0 ht
        have e0 : List.filter (fun x => decide (x < t)) [(n : Int)] = [] := by simp; omega
        rw [e0]; simpa using this
      · have := ih n (by omega) (by omega)
        have e0 : List.filter (fun x => decide (x < t)) [(n : Int)] = [(n : Int)] := by simp; omega
        have e2 : (upto n).filter (fun x => decide (x < t)) = (upto n).filter (fun x => decide (x < (n : Int))) := by
          apply List.filter_congr
          intro x hx
          have := mem_upto.mp hx
          rw [decide_eq_decide]; omega
        rw [e0, e2]
        simp only [List.length_cons, List.length_nil]
        omega
  exact (key p.length _ hb.1 (by omega)).symm
theorem ord_ext {p q : List Int} (hp : IsOrd p) (hq : IsOrd q) (hl : p.length = q.length) (h : ∀ i j, i < p.length → j < p.length → (p.getD i 0 < p.getD j 0 ↔ q.getD i 0 < q.getD j 0)) : p = q := by
  apply List.ext_getElem hl
  intro j h1 h2
  have e1 := ord_rank hp h1
  have e2 := ord_rank hq h2
  have e : ((List.range p.length).filter fun k => decide (p.getD k 0 < p.getD j 0)).length = ((List.range q.length).filter fun k => decide (q.getD k 0 < q.getD j 0)).length := by
    rw [← hl]
    congr 1
    apply List.filter_congr
    intro k hk
    rw [decide_eq_decide]
    exact h k j (List.mem_range.mp hk) h1
  have e3 : p.getD j 0 = q.getD j 0 := by rw [e1, e2, e]
  rwa [List.getD_eq_getElem?_getD, List.getD_eq_getElem?_getD, List.getElem?_eq_getElem h1, List.getElem?_eq_getElem h2] at e3
/-- the word of both -/
def bothAt (ms : List Bool) (w : List Int) (os : List Bool) (more : List Int) (j : Nat) : Int :=
  w.getD (numAt os more j).toNat 0 * (os.length : Int) + turnedI ms os (w.getD (numAt os more j).toNat 0) (more.getD j 0)
def bothTo (ms : List Bool) (w : List Int) (os : List Bool) (more : List Int) (n : Nat) : List Int := (List.range n).map (bothAt ms w os more)
def bothW (ms : List Bool) (w : List Int) (os : List Bool) (more : List Int) : List Int := bothTo ms w os more more.length
theorem bothTo_next (ms : List Bool) (w : List Int) (os : List Bool) (more : List Int) (n : Nat) : bothTo ms w os more n ++ [bothAt ms w os more n] = bothTo ms w os more (n + 1) := by
  unfold bothTo; rw [List.range_succ, List.map_append]; rfl
@[simp] theorem bothW_length (ms : List Bool) (w : List Int) (os : List Bool) (more : List Int) : (bothW ms w os more).length = more.length := by simp [bothW, bothTo]
theorem bothW_getD {ms : List Bool} {w : List Int} {os : List Bool} {more : List Int} {j : Nat} (h : j < more.length) : (bothW ms w os more).getD j 0 = bothAt ms w os more j := by
  rw [List.getD_eq_getElem?_getD]; simp [bothW, bothTo, h]
theorem joinedM_getD {ms os : List Bool} {h g : Nat} (hh : h < ms.length) (hg : g < os.length) : (joinedM ms os).getD (h * os.length + g) false = (ms.getD h false != os.getD (turnedI ms os h g).toNat false) := by
  have key : ∀ n, h < n → (joinedTo ms os n).getD (h * os.length + g) false = (ms.getD h false != os.getD (turnedI ms os h g).toNat false) := by
    intro n
    induction n with
    | zero => intro hn; omega
    | succ n ih =>
      intro hn
      rw [← joinedTo_next, List.getD_eq_getElem?_getD]
      by_cases e : h = n
      · subst e
        rw [List.getElem?_append_right (by rw [joinedTo_length]; omega), joinedTo_length, show h * os.length + g - h * os.length = g by omega]
        simp [joinedRow, hg]
      · have hlt : h * os.length + g < (joinedTo ms os n).length := by
          rw [joinedTo_length]
          have : (h + 1) * os.length ≤ n * os.length := Nat.mul_le_mul_right _ (by omega)
          rw [Nat.add_mul] at this; omega
        rw [List.getElem?_append_left hlt, ← List.getD_eq_getElem?_getD]
        exact ih (by omega)
  exact key ms.length hh
theorem turned_turned {ms os : List Bool} {h g : Int} (hg : 0 ≤ g ∧ g < os.length) : turnedI ms os h (turnedI ms os h g) = g := by
  unfold turnedI
  split <;> omega
theorem mul_lt_iff {h h' t t' G : Int} (ht : 0 ≤ t ∧ t < G) (ht' : 0 ≤ t' ∧ t' < G) : h * G + t < h' * G + t' ↔ h < h' ∨ (h = h' ∧ t < t') := by
  constructor
  · intro e
    rcases Int.lt_trichotomy h h' with h1 | h1 | h1
    · exact .inl h1
    · subst h1; exact .inr ⟨rfl, by omega⟩
    · exfalso
      have : (h' + 1) * G ≤ h * G := Int.mul_le_mul_of_nonneg_right (by omega) (by omega)
      rw [Int.add_mul] at this; omega
  · rintro (h1 | ⟨h1, h2⟩)
    · have : (h + 1) * G ≤ h' * G := Int.mul_le_mul_of_nonneg_right (by omega) (by omega)
      rw [Int.add_mul] at this; omega
    · subst h1; omega
theorem mul_eq_iff {h h' t t' G : Int} (ht : 0 ≤ t ∧ t < G) (ht' : 0 ≤ t' ∧ t' < G) : h * G + t = h' * G + t' ↔ h = h' ∧ t = t' := by
  constructor
  · intro e
    rcases Int.lt_trichotomy h h' with h1 | h1 | h1
    · have := (mul_lt_iff ht ht').mpr (.inl h1); omega
    · subst h1; exact ⟨rfl, by omega⟩
    · have := (mul_lt_iff ht' ht).mpr (.inl h1); omega
  · rintro ⟨h1, h2⟩; rw [h1, h2]
theorem toNat_mul_add {a c : Int} {G : Nat} (ha : 0 ≤ a) (hc : 0 ≤ c) : (a * (G : Int) + c).toNat = a.toNat * G + c.toNat := by
  obtain ⟨x, rfl⟩ := Int.eq_ofNat_of_zero_le ha
  obtain ⟨y, rfl⟩ := Int.eq_ofNat_of_zero_le hc
  have : (x : Int) * (G : Int) + (y : Int) = ((x * G + y : Nat) : Int) := by push_cast; rfl
  rw [this]; rfl
section
variable {ms os : List Bool} {w more : List Int}
theorem both_bd (hw : IsW ms.length w) (hm : IsW os.length more) (hl : w.length = more.length) {j : Nat} (hj : j < more.length) :
    (numAt os more j).toNat < w.length ∧ (((numAt os more j).toNat : Nat) : Int) = numAt os more j ∧ 0 ≤ w.getD (numAt os more j).toNat 0 ∧ w.getD (numAt os more j).toNat 0 < ms.length ∧ 0 ≤ more.getD j 0 ∧ more.getD j 0 < os.length := by
  have b := numAt_bd (ms := os) hm hj
  have h1 : (numAt os more j).toNat < w.length := by omega
  have b1 := hw.at (getElem?_getD (0 : Int) h1)
  have b2 := hm.at (getElem?_getD (0 : Int) hj)
  exact ⟨h1, by omega, b1.1, b1.2, b2.1, b2.2⟩
theorem bothW_isW (hw : IsW ms.length w) (hm : IsW os.length more) (hl : w.length = more.length) : IsW (joinedM ms os).length (bothW ms w os more) := fun x hx => by
  obtain ⟨j, hj, rfl⟩ := List.mem_map.mp hx
  have b := both_bd hw hm hl (List.mem_range.mp hj)
  have t := turnedI_bd ms os (w.getD (numAt os more j).toNat 0) (more.getD j 0) b.2.2.2.2.1 b.2.2.2.2.2
  rw [joinedM_length]
  unfold bothAt
  have h1 : 0 ≤ w.getD (numAt os more j).toNat 0 * (os.length : Int) := Int.mul_nonneg b.2.2.1 (by omega)
  have h2 : (w.getD (numAt os more j).toNat 0 + 1) * (os.length : Int) ≤ (ms.length : Int) * os.length := Int.mul_le_mul_of_nonneg_right (by omega) (by omega)
  rw [Int.add_mul] at h2
  push_cast
  omega
theorem both_mark (hw : IsW ms.length w) (hm : IsW os.length more) (hl : w.length = more.length) {j : Nat} (hj : j < more.length) :
    (joinedM ms os).getD ((bothW ms w os more).getD j 0).toNat false = (ms.getD (w.getD (numAt os more j).toNat 0).toNat false != os.getD (more.getD j 0).toNat false) := by
  have b := both_bd hw hm hl hj
  have t := turnedI_bd ms os (w.getD (numAt os more j).toNat 0) (more.getD j 0) b.2.2.2.2.1 b.2.2.2.2.2
  rw [bothW_getD hj]
  unfold bothAt
  rw [toNat_mul_add b.2.2.1 t.1, joinedM_getD (by omega) (by omega)]
  congr 2
  rw [show (((w.getD (numAt os more j).toNat 0).toNat : Nat) : Int) = w.getD (numAt os more j).toNat 0 by omega, show (((turnedI ms os (w.getD (numAt os more j).toNat 0) (more.getD j 0)).toNat : Nat) : Int) = turnedI ms os (w.getD (numAt os more j).toNat 0) (more.getD j 0) by omega, turned_turned ⟨b.2.2.2.2.1, b.2.2.2.2.2⟩]
theorem both_lt (hw : IsW ms.length w) (hm : IsW os.length more) (hl : w.length = more.length) {i j : Nat} (hi : i < more.length) (hj : j < more.length) :
    ltW (joinedM ms os) (bothW ms w os more) i j ↔ ltW ms w (numAt os more i).toNat (numAt os more j).toNat := by
  have bi := both_bd hw hm hl hi
  have bj := both_bd hw hm hl hj
  have ti := turnedI_bd ms os (w.getD (numAt os more i).toNat 0) (more.getD i 0) bi.2.2.2.2.1 bi.2.2.2.2.2
  have tj := turnedI_bd ms os (w.getD (numAt os more j).toNat 0) (more.getD j 0) bj.2.2.2.2.1 bj.2.2.2.2.2
  have mk := both_mark hw hm hl hi
  have nlt := num_lt (ms := os) hm hi hj
  have ngt := num_lt (ms := os) hm hj hi
  unfold ltW at *
  rw [mk, bothW_getD hi, bothW_getD hj]
  unfold bothAt
  rw [mul_lt_iff ti tj, mul_eq_iff ti tj]
  generalize hA : w.getD (numAt os more i).toNat 0 = A at *
  generalize hB : w.getD (numAt os more j).toNat 0 = B at *
  by_cases hAB : A = B
  · subst hAB
    have e1 : (numAt os more i).toNat < (numAt os more j).toNat ↔ numAt os more i < numAt os more j := by omega
    have e2 : (numAt os more j).toNat < (numAt os more i).toNat ↔ numAt os more j < numAt os more i := by omega
    rw [e1, e2, nlt, ngt]
    unfold turnedI
    by_cases hms : ms.getD A.toNat false = true
    · rw [hms]
      simp only [if_true, if_pos]
      by_cases ht : more.getD i 0 = more.getD j 0
      · rw [ht]
        cases hos : os.getD (more.getD j 0).toNat false <;> simp <;> omega
      · have ht2 : ¬ more.getD j 0 = more.getD i 0 := fun z => ht z.symm
        constructor
        · rintro ((h | ⟨_, h⟩) | ⟨⟨_, h⟩, _⟩)
          · omega
          · exact .inr ⟨trivial, .inl (by omega)⟩
          · omega
        · rintro (h | ⟨_, h | ⟨h, _⟩⟩)
          · omega
          · exact .inl (.inr ⟨trivial, by omega⟩)
          · omega
    · have hms : ms.getD A.toNat false = false := by simpa using hms
      rw [hms]
      by_cases ht : more.getD i 0 = more.getD j 0
      · rw [ht]
        cases hos : os.getD (more.getD j 0).toNat false <;> simp <;> omega
      · have ht2 : ¬ more.getD j 0 = more.getD i 0 := fun z => ht z.symm
        simp [ht]
  · simp [hAB]
theorem riffle_joined {o : List Int} (hw : IsW ms.length w) (hm : IsW os.length more) (hl : w.length = more.length) (hlo : w.length = o.length) :
    riffleI o (joinedM ms os) (bothW ms w os more) = riffleI (riffleI o ms w) os more := by
  have hbw := bothW_isW hw hm hl
  unfold riffleI
  rw [laidI_assoc (ord_bd (isOrd_numI os hm) (by simp [hl]))]
  congr 1
  have hlen : (numI os more).length = (numI ms w).length := by simp [hl]
  refine ord_ext (isOrd_numI _ hbw) (isOrd_laidI (isOrd_numI ms hw) (isOrd_numI os hm) hlen.symm) (by simp [laidI]) fun i j hi hj => ?_
  have hi' : i < more.length := by simpa using hi
  have hj' : j < more.length := by simpa using hj
  have g1 : ∀ k, k < more.length → (numI (joinedM ms os) (bothW ms w os more)).getD k 0 = numAt (joinedM ms os) (bothW ms w os more) k := by
    intro k hk
    rw [List.getD_eq_getElem?_getD]; simp [numI, hk]
  have g2 : ∀ k, k < more.length → (laidI (numI ms w) (numI os more)).getD k 0 = numAt ms w (numAt os more k).toNat := by
    intro k hk
    have b := both_bd hw hm hl hk
    rw [List.getD_eq_getElem?_getD]
    simp [laidI, numI, hk, b.1, List.getD_eq_getElem?_getD]
  rw [g1 i hi', g1 j hj', g2 i hi', g2 j hj', num_lt hbw (by simpa using hi') (by simpa using hj'), both_lt hw hm hl hi' hj', num_lt hw (both_bd hw hm hl hi').1 (both_bd hw hm hl hj').1]
end
end Rc
namespace Rc
def cellI (s : List Int) (k : Int) : Int := if k < (s.length : Int) then s.getD (Int.toNat k) 0 else 0
theorem pick2 (a b c : Int) : ([a, b] : List Int).getD (Int.toNat (min 1 (c % 8))) 0 = a ∨ ([a, b] : List Int).getD (Int.toNat (min 1 (c % 8))) 0 = b := by
  have h0 := Int.emod_nonneg c (show (8 : Int) ≠ 0 by decide)
  rcases (show min 1 (c % 8) = 0 ∨ min 1 (c % 8) = 1 by omega) with h | h
  · rw [h]; exact .inl rfl
  · rw [h]; exact .inr rfl
theorem ahead_eq {os : List Bool} {more : List Int} {n : Nat} {i : Nat} {y : Int} (hm : IsW os.length more) (hl : more.length = n) (e : (riffleI (upto n) os more)[i]? = some y) : y = numAt os more i ∧ i < more.length := by
  rw [riff_first hm hl] at e
  have hi : i < more.length := by
    have := (List.getElem?_eq_some_iff.mp e).1
    simpa using this
  rw [numI, List.getElem?_map, List.getElem?_range hi] at e
  exact ⟨(Option.some.inj e).symm, hi⟩
theorem bothTo_step {ms os : List Bool} {w more : List Int} {i : Nat} {y z : Int} (h1 : y = numAt os more i) (h2 : more[i]? = some z) :
    bothTo ms w os more i ++ [w.getD (Int.toNat y) 0 * (os.length : Int) + turnedI ms os (w.getD (Int.toNat y) 0) z] = bothTo ms w os more (i + 1) := by
  rw [← bothTo_next]
  unfold bothAt
  rw [h1, getD_of h2]
end Rc
namespace Rc
/-! ways, walked -/
def upFrom (l a : Int) : List Int := (List.range (Int.toNat (a - l))).map fun i : Nat => l + (i : Int)
def stepsI (o : List Int) (ms : List Bool) (hs : List Int) : List Int :=
  if hs.length = 0 then upto ms.length
  else (if shI ms ((placesI o).getD (hs.length - 1) 0) ((placesI o).getD hs.length 0) (hs.getLastD 0).toNat = true then [hs.getLastD 0] else []) ++ upFrom (hs.getLastD 0 + 1) ms.length
/-- the first step whose ways reach to the number, and what is left of it -/
def pickI (g : List Int) : List Int → Int → Int × Int
  | [], k => (0, k)
  | x :: l, k => if k < g.getD x.toNat 0 then (x, k) else pickI g l (k - g.getD x.toNat 0)
def sumOf (g : List Int) (l : List Int) : Int := (l.map fun x => g.getD x.toNat 0).sum
def goAt (o : List Int) (ms : List Bool) (c : Nat) : List Int := gRow ms (placesI o) (o.length - 1 - c)
def wayTo (o : List Int) (ms : List Bool) (k : Int) : Nat → List Int × Int
  | 0 => ([], k)
  | c + 1 => ((wayTo o ms k c).1 ++ [(pickI (goAt o ms c) (stepsI o ms (wayTo o ms k c).1) (wayTo o ms k c).2).1], (pickI (goAt o ms c) (stepsI o ms (wayTo o ms k c).1) (wayTo o ms k c).2).2)
def wayI (o : List Int) (ms : List Bool) (k : Int) : List Int := o.map fun c => (wayTo o ms k o.length).1.getD c.toNat 0
/-- what comes ahead of a heap among the steps -/
def aheadOf (g : List Int) (l : List Int) (h : Int) : Int := (l.map fun x => if x < h then g.getD x.toNat 0 else 0).sum
def numTo' (o : List Int) (ms : List Bool) (hs : List Int) : Nat → Int
  | 0 => 0
  | c + 1 => numTo' o ms hs c + aheadOf (goAt o ms c) (stepsI o ms (hs.take c)) (hs.getD c 0)
def heapsOf (m : Nat) (w : List Int) : List Int := (List.range m).flatMap fun h : Nat => List.replicate (w.count (h : Int)) (h : Int)
theorem rows_at {rows : List (Nat × List Int)} {o : List Int} {ms : List Bool} (h : rows.map (·.2) = (gRows ms (placesI o) o.length).reverse) {c : Nat} (hc : c < o.length) : (rows.getD c (0, [])).2 = goAt o ms c := by
  have e : (rows.map (·.2)).getD c [] = (rows.getD c (0, [])).2 := by
    rw [List.getD_eq_getElem?_getD, List.getElem?_map, List.getD_eq_getElem?_getD]
    cases rows[c]? <;> rfl
  rw [← e, h, List.getD_eq_getElem?_getD, List.getElem?_reverse (by simp [gRows]; omega)]
  simp only [gRows, List.length_map, List.length_range]
  have hlt : o.length - 1 - c < o.length := by omega
  simp [goAt, hlt]
theorem rows_len {rows : List (Nat × List Int)} {o : List Int} {ms : List Bool} (h : rows.map (·.2) = (gRows ms (placesI o) o.length).reverse) : rows.length = o.length := by
  have := congrArg List.length h; simpa [gRows] using this
@[simp] theorem goAt_length (o : List Int) (ms : List Bool) (c : Nat) : (goAt o ms c).length = ms.length := by simp [goAt]
theorem upFrom_mem {l a x : Int} : x ∈ upFrom l a ↔ l ≤ x ∧ x < a := by
  unfold upFrom
  rw [List.mem_map]
  constructor
  · rintro ⟨i, hi, rfl⟩
    have := List.mem_range.mp hi; omega
  · rintro ⟨h0, h1⟩
    exact ⟨(x - l).toNat, List.mem_range.mpr (by omega), by omega⟩
theorem stepsI_bd {o : List Int} {ms : List Bool} {hs : List Int} (hb : ∀ x ∈ hs, 0 ≤ x ∧ x < (ms.length : Int)) {x : Int} (h : x ∈ stepsI o ms hs) : 0 ≤ x ∧ x < (ms.length : Int) := by
  unfold stepsI at h
  split at h
  · exact mem_upto.mp h
  · rename_i hne
    have hl : hs.getLastD 0 ∈ hs := by
      rw [List.getLastD_eq_getLast?, List.getLast?_eq_getElem?]
      have : hs.length - 1 < hs.length := by omega
      rw [List.getElem?_eq_getElem this, Option.getD_some]; exact List.getElem_mem _
    have hlb := hb _ hl
    rcases List.mem_append.mp h with h | h
    · split at h
      · rw [List.mem_singleton.mp h]; exact hlb
      · cases h
    · have := upFrom_mem.mp h; omega
theorem stepsI_len {o : List Int} {ms : List Bool} {hs : List Int} (hb : ∀ x ∈ hs, 0 ≤ x ∧ x < (ms.length : Int)) : (stepsI o ms hs).length ≤ ms.length + 1 := by
  unfold stepsI
  split
  · simp [upto]
  · rename_i hne
    have hl : hs.getLastD 0 ∈ hs := by
      rw [List.getLastD_eq_getLast?, List.getLast?_eq_getElem?]
      have : hs.length - 1 < hs.length := by omega
      rw [List.getElem?_eq_getElem this, Option.getD_some]; exact List.getElem_mem _
    have hlb := hb _ hl
    rw [List.length_append]
    have : (upFrom (hs.getLastD 0 + 1) ms.length).length ≤ ms.length := by rw [upFrom, List.length_map, List.length_range]; omega
    split <;> simp only [List.length_cons, List.length_nil] <;> omega
theorem steps_none {o : List Int} {ms : List Bool} {hs : List Int} (h : (hs.length : Int) = 0) : (List.range ms.length).map (fun i : Nat => (i : Int)) = stepsI o ms hs := by
  unfold stepsI; rw [if_pos (by omega)]; rfl
theorem steps_t {o : List Int} {ms : List Bool} {hs : List Int} (h : ¬ (hs.length : Int) = 0) (hs2 : shI ms ((placesI o).getD (Int.toNat ((hs.length : Int) - 1)) 0) ((placesI o).getD (Int.toNat (hs.length : Int)) 0) (Int.toNat (hs.getLastD 0)) = true) :
    [hs.getLastD 0] ++ upFrom (hs.getLastD 0 + 1) ms.length = stepsI o ms hs := by
  rw [show Int.toNat ((hs.length : Int) - 1) = hs.length - 1 by omega, Int.toNat_natCast] at hs2
  unfold stepsI; rw [if_neg (by omega), if_pos hs2]
theorem steps_f {o : List Int} {ms : List Bool} {hs : List Int} (h : ¬ (hs.length : Int) = 0) (hs2 : shI ms ((placesI o).getD (Int.toNat ((hs.length : Int) - 1)) 0) ((placesI o).getD (Int.toNat (hs.length : Int)) 0) (Int.toNat (hs.getLastD 0)) = false) :
    upFrom (hs.getLastD 0 + 1) ms.length = stepsI o ms hs := by
  rw [show Int.toNat ((hs.length : Int) - 1) = hs.length - 1 by omega, Int.toNat_natCast] at hs2
  unfold stepsI; rw [if_neg (by omega), if_neg (by rw [hs2]; simp)]; rfl
end Rc
namespace Rc
theorem lastD_mem {hs : List Int} (h : 0 < hs.length) : hs.getLastD 0 ∈ hs := by
  rw [List.getLastD_eq_getLast?, List.getLast?_eq_getElem?]
  have : hs.length - 1 < hs.length := by omega
  rw [List.getElem?_eq_getElem this, Option.getD_some]; exact List.getElem_mem _
theorem heapsOf_next (m : Nat) (w : List Int) : heapsOf m w ++ (List.range (Int.toNat (w.count (m : Int) : Int))).map (fun _ : Nat => (m : Int)) = heapsOf (m + 1) w := by
  unfold heapsOf
  rw [List.range_succ, List.flatMap_append]
  simp [List.map_const']
theorem heapsOf_length (w : List Int) : ∀ m, (heapsOf m w).length = startI w m
  | 0 => rfl
  | m + 1 => by rw [← heapsOf_next, List.length_append, heapsOf_length w m]; simp [startI]
theorem heapsOf_len {m n : Nat} {w : List Int} (hw : IsW n w) (h : m ≤ n) : (heapsOf m w).length ≤ w.length := by
  rw [heapsOf_length]
  have := startI_mono w h
  rw [startI_all hw] at this
  exact this
end Rc
namespace Rc
theorem upFrom_cons {l a : Int} (h : l < a) : upFrom l a = l :: upFrom (l + 1) a := by
  unfold upFrom
  rw [show Int.toNat (a - l) = Int.toNat (a - (l + 1)) + 1 by omega, List.range_succ_eq_map, List.map_cons, List.map_map]
  congr 1
  · omega
  · apply List.map_congr_left
    intro i _
    simp only [Function.comp_apply]
    push_cast
    omega
theorem upFrom_nil {l a : Int} (h : a ≤ l) : upFrom l a = [] := by
  unfold upFrom; rw [show Int.toNat (a - l) = 0 by omega]; rfl
theorem sumOf_cons (g : List Int) (x : Int) (l : List Int) : sumOf g (x :: l) = g.getD x.toNat 0 + sumOf g l := by simp [sumOf]
theorem beh_sum (p : List Int) : ∀ t : Nat, t ≤ p.length → gBeh p t = sumOf p (upFrom ((p.length : Int) - t) p.length)
  | 0, _ => by rw [upFrom_nil (by omega)]; rfl
  | t + 1, h => by
    rw [gBeh, beh_sum p t (by omega), upFrom_cons (l := (p.length : Int) - ((t + 1 : Nat) : Int)) (by omega), sumOf_cons, show (p.length : Int) - ((t + 1 : Nat) : Int) + 1 = (p.length : Int) - t by omega,
      show ((p.length : Int) - ((t + 1 : Nat) : Int)).toNat = p.length - 1 - t by omega, Int.add_comm]
theorem upto_from (n : Nat) : upto n = upFrom 0 n := by
  unfold upto upFrom; simp
theorem first_sum (o : List Int) (ms : List Bool) : sumOf (goAt o ms 0) (stepsI o ms []) = howI o ms := by
  unfold stepsI
  rw [if_pos (show ([] : List Int).length = 0 from rfl), upto_from]
  have := beh_sum (goAt o ms 0) ms.length (by simp)
  have e := gBeh_sum (goAt o ms 0)
  rw [goAt_length] at this e
  rw [show (ms.length : Int) - ((ms.length : Nat) : Int) = 0 by omega] at this
  rw [← this, e]; rfl
theorem step_sum {o : List Int} {ms : List Bool} {hs : List Int} {c : Nat} {x : Int} (hl : hs.length = c) (hc : c + 1 < o.length) (hx : 0 ≤ x ∧ x < (ms.length : Int)) :
    (goAt o ms c).getD x.toNat 0 = sumOf (goAt o ms (c + 1)) (stepsI o ms (hs ++ [x])) := by
  have hxl : x.toNat < (goAt o ms (c + 1)).length := by simp; omega
  have e0 : goAt o ms c = gStep (shI ms ((placesI o).getD c 0) ((placesI o).getD (c + 1) 0)) (goAt o ms (c + 1)) := by
    unfold goAt
    rw [show o.length - 1 - c = (o.length - 1 - (c + 1)) + 1 by omega, gRow, placesI_length, show o.length - 2 - (o.length - 1 - (c + 1)) = c by omega, show o.length - 1 - (o.length - 1 - (c + 1)) = c + 1 by omega]
  have hlast : (hs ++ [x]).getLastD 0 = x := by simp [List.getLastD_eq_getLast?]
  have es : stepsI o ms (hs ++ [x]) = (if shI ms ((placesI o).getD c 0) ((placesI o).getD (c + 1) 0) x.toNat = true then [x] else []) ++ upFrom (x + 1) ms.length := by
    unfold stepsI
    rw [if_neg (by simp), hlast, List.length_append, hl]
    simp only [List.length_cons, List.length_nil, Nat.zero_add, Nat.add_sub_cancel]
  rw [es, e0, gStep_getD hxl]
  unfold gOne
  have hb := beh_sum (goAt o ms (c + 1)) (ms.length - 1 - x.toNat) (by simp; omega)
  rw [goAt_length] at hb ⊢
  rw [hb, show (ms.length : Int) - ((ms.length - 1 - x.toNat : Nat) : Int) = x + 1 by omega, show ms.length - 1 - (ms.length - 1 - x.toNat) = x.toNat by omega]
  by_cases hsh : shI ms ((placesI o).getD c 0) ((placesI o).getD (c + 1) 0) x.toNat = true
  · rw [if_pos hsh, if_pos hsh]
    show _ = sumOf _ (x :: upFrom (x + 1) ms.length)
    rw [sumOf_cons, Int.add_comm]
  · rw [if_neg hsh, if_neg hsh]
    show _ = sumOf _ (upFrom (x + 1) ms.length)
    rw [Int.add_zero]
theorem drop_cons {l : List Int} {i : Nat} {y : Int} (e : l[i]? = some y) : l.drop i = y :: l.drop (i + 1) := by
  obtain ⟨h, rfl⟩ := List.getElem?_eq_some_iff.mp e
  exact List.drop_eq_getElem_cons h
/-- the walk's state: the pick goes on among the steps not yet seen -/
structure Pick (g l : List Int) (k0 : Int) (i : Nat) (k : Int) : Prop where
  eq : pickI g (l.drop i) k = pickI g l k0
  ge : 0 ≤ k
  lt : k < sumOf g (l.drop i)
theorem Pick.start {g l : List Int} {k : Int} (h : 0 ≤ k ∧ k < sumOf g l) : Pick g l k 0 k := ⟨rfl, h.1, h.2⟩
theorem Pick.next {g l : List Int} {k0 k y : Int} {i : Nat} (p : Pick g l k0 i k) (e : l[i]? = some y) (h : ¬ k < g.getD y.toNat 0) : Pick g l k0 (i + 1) (k - g.getD y.toNat 0) := by
  have a := p.eq
  have b := p.lt
  rw [drop_cons e] at a b
  rw [pickI, if_neg h] at a
  rw [sumOf_cons] at b
  exact ⟨a, by omega, by omega⟩
theorem Pick.hit {g l : List Int} {k0 k y : Int} {i : Nat} (p : Pick g l k0 i k) (e : l[i]? = some y) (h : k < g.getD y.toNat 0) : pickI g l k0 = (y, k) := by
  have a := p.eq
  rw [drop_cons e, pickI, if_pos h] at a
  exact a.symm
theorem Pick.over {g l : List Int} {k0 k : Int} (p : Pick g l k0 l.length k) : False := by
  have := p.lt
  have := p.ge
  rw [List.drop_length] at *
  simp [sumOf] at *
  omega
/-- the way so far -/
structure Way (o : List Int) (ms : List Bool) (k0 : Int) (c : Nat) (hs : List Int) (k : Int) : Prop where
  eq : wayTo o ms k0 c = (hs, k)
  len : hs.length = c
  bd : ∀ x ∈ hs, 0 ≤ x ∧ x < (ms.length : Int)
  ge : 0 ≤ k
  lt : c < o.length → k < sumOf (goAt o ms c) (stepsI o ms hs)
theorem Way.start {o : List Int} {ms : List Bool} {k : Int} (h0 : 0 ≤ k) (h1 : k < howI o ms) : Way o ms k 0 [] k := ⟨rfl, rfl, (fun _ h => nomatch h), h0, (fun _ => by rw [first_sum]; exact h1)⟩
theorem Way.pick {o : List Int} {ms : List Bool} {k0 k : Int} {c : Nat} {hs : List Int} (w : Way o ms k0 c hs k) (hc : c < o.length) : Pick (goAt o ms c) (stepsI o ms hs) k 0 k := Pick.start ⟨w.ge, w.lt hc⟩
theorem Way.next {o : List Int} {ms : List Bool} {k0 k k' y : Int} {c i : Nat} {hs : List Int} (w : Way o ms k0 c hs k) (p : Pick (goAt o ms c) (stepsI o ms hs) k i k') (e : (stepsI o ms hs)[i]? = some y) (h : k' < (goAt o ms c).getD y.toNat 0) : Way o ms k0 (c + 1) (hs ++ [y]) k' := by
  have hy := stepsI_bd w.bd (List.mem_of_getElem? e)
  refine ⟨?_, by simp [w.len], fun x hx => ?_, p.ge, fun hc => ?_⟩
  · rw [wayTo, w.eq]; simp only []; rw [p.hit e h]
  · rcases List.mem_append.mp hx with hx | hx
    · exact w.bd x hx
    · rw [List.mem_singleton.mp hx]; exact hy
  · rw [← step_sum w.len hc hy]; exact h
theorem rows_first {rows : List (Nat × List Int)} {o : List Int} {ms : List Bool} (h1 : 1 ≤ o.length) (h : rows.map (·.2) = (gRows ms (placesI o) o.length).reverse) : (rows.getD 0 (0, [])).2.sum = howI o ms := (gRows_first h1 h).2
end Rc
namespace Rc
theorem heapsOf_all {m : Nat} {w : List Int} (hw : IsW m w) : (heapsOf m w).length = w.length := by rw [heapsOf_length, startI_all hw]
theorem heapsOf_bd {m : Nat} {w : List Int} : ∀ x ∈ heapsOf m w, 0 ≤ x ∧ x < (m : Int) := fun x hx => by
  obtain ⟨h, hh, hx⟩ := List.mem_flatMap.mp hx
  have := List.mem_range.mp hh
  rw [(List.mem_replicate.mp hx).2]; omega
theorem ahead_yes {g l : List Int} {h y n : Int} {i : Nat} (e : l[i]? = some y) (hy : y < h) : n + aheadOf g (l.take i) h + g.getD y.toNat 0 = n + aheadOf g (l.take (i + 1)) h := by
  unfold aheadOf
  rw [take_nxt e, List.map_append, List.sum_append]
  simp only [List.map_cons, List.map_nil, List.sum_cons, List.sum_nil, if_pos hy]; omega
theorem ahead_no {g l : List Int} {h y n : Int} {i : Nat} (e : l[i]? = some y) (hy : ¬ y < h) : n + aheadOf g (l.take i) h = n + aheadOf g (l.take (i + 1)) h := by
  unfold aheadOf
  rw [take_nxt e, List.map_append, List.sum_append]
  simp only [List.map_cons, List.map_nil, List.sum_cons, List.sum_nil, if_neg hy]; omega
theorem take_bd {hs : List Int} {m : Int} (h : ∀ x ∈ hs, 0 ≤ x ∧ x < m) (c : Nat) : ∀ x ∈ hs.take c, 0 ≤ x ∧ x < m := fun x hx => h x (List.mem_of_mem_take hx)
end Rc
namespace Rc
def Valid (o : List Int) (ms : List Bool) (hs : List Int) : Prop := hs.length = o.length ∧ ∀ c, c < o.length → hs.getD c 0 ∈ stepsI o ms (hs.take c)
theorem gRow_nonneg (ms : List Bool) (at_ : List Int) : ∀ m h, 0 ≤ (gRow ms at_ m).getD h 0
  | 0, h => by
    rw [gRow, List.getD_eq_getElem?_getD, List.getElem?_map]
    cases ms[h]? <;> simp
  | m + 1, h => gStep_nonneg (gRow_nonneg ms at_ m) h
theorem goAt_nonneg (o : List Int) (ms : List Bool) (c h : Nat) : 0 ≤ (goAt o ms c).getD h 0 := gRow_nonneg _ _ _ _
theorem upFrom_sorted (l a : Int) : (upFrom l a).Pairwise (· < ·) := by
  unfold upFrom
  rw [List.pairwise_map]
  exact List.pairwise_lt_range.imp (fun h => by omega)
theorem steps_sorted (o : List Int) (ms : List Bool) (hs : List Int) : (stepsI o ms hs).Pairwise (· < ·) := by
  unfold stepsI
  split
  · rw [upto_from]; exact upFrom_sorted _ _
  · refine List.pairwise_append.mpr ⟨by split <;> simp, upFrom_sorted _ _, fun a ha b hb => ?_⟩
    split at ha
    · rw [List.mem_singleton.mp ha]; have := upFrom_mem.mp hb; omega
    · cases ha
theorem ahead_cons (g : List Int) (x : Int) (l : List Int) (h : Int) : aheadOf g (x :: l) h = (if x < h then g.getD x.toNat 0 else 0) + aheadOf g l h := by simp [aheadOf]
theorem ahead_zero {g l : List Int} {h : Int} (hl : ∀ y ∈ l, h ≤ y) : aheadOf g l h = 0 := by
  induction l with
  | nil => rfl
  | cons x l ih =>
    rw [ahead_cons, ih (fun y hy => hl y (List.mem_cons_of_mem _ hy)), if_neg (by have := hl x List.mem_cons_self; omega)]; rfl
theorem ahead_nonneg {g l : List Int} {h : Int} (hg : ∀ k, 0 ≤ g.getD k 0) : 0 ≤ aheadOf g l h := by
  induction l with
  | nil => exact Int.le_refl _
  | cons x l ih =>
    rw [ahead_cons]
    have := hg x.toNat
    split <;> omega
theorem pick_of {g : List Int} (hg : ∀ k, 0 ≤ g.getD k 0) {h t : Int} (h0 : 0 ≤ t) (h1 : t < g.getD h.toNat 0) : ∀ {l : List Int}, l.Pairwise (· < ·) → h ∈ l → pickI g l (aheadOf g l h + t) = (h, t) ∧ aheadOf g l h + t < sumOf g l
  | [], _, hm => nomatch hm
  | x :: l, hp, hm => by
    have hp' := List.pairwise_cons.mp hp
    have hs0 : ∀ l : List Int, 0 ≤ sumOf g l := fun l => by
      induction l with
      | nil => exact Int.le_refl _
      | cons y l ih => rw [sumOf_cons]; have := hg y.toNat; omega
    rw [ahead_cons, sumOf_cons]
    by_cases e : x = h
    · subst e
      rw [if_neg (by omega), ahead_zero (fun y hy => by have := hp'.1 y hy; omega), pickI]
      have := hs0 l
      refine ⟨?_, by omega⟩
      rw [if_pos (by omega)]
      exact Prod.ext rfl (by simp only []; omega)
    · have hm' : h ∈ l := (List.mem_cons.mp hm).resolve_left (fun z => e z.symm)
      have hlt := hp'.1 h hm'
      have ih := pick_of hg h0 h1 hp'.2 hm'
      have ha := ahead_nonneg (l := l) (h := h) hg
      rw [if_pos hlt, pickI, if_neg (by omega), show g.getD x.toNat 0 + aheadOf g l h + t - g.getD x.toNat 0 = aheadOf g l h + t by omega]
      exact ⟨ih.1, by omega⟩
theorem pick_back {g : List Int} : ∀ {l : List Int} {k x k' : Int}, l.Pairwise (· < ·) → 0 ≤ k → k < sumOf g l → pickI g l k = (x, k') → x ∈ l ∧ k = aheadOf g l x + k' ∧ 0 ≤ k' ∧ k' < g.getD x.toNat 0
  | [], _, _, _, _, h0, h1, _ => by simp [sumOf] at h1; omega
  | y :: l, k, x, k', hp, h0, h1, e => by
    have hp' := List.pairwise_cons.mp hp
    rw [sumOf_cons] at h1
    rw [pickI] at e
    by_cases hk : k < g.getD y.toNat 0
    · rw [if_pos hk] at e
      have e1 : y = x := congrArg Prod.fst e
      have e2 : k = k' := congrArg Prod.snd e
      subst e1 e2
      refine ⟨List.mem_cons_self, ?_, h0, hk⟩
      rw [ahead_cons, if_neg (by omega), ahead_zero (fun z hz => by have := hp'.1 z hz; omega)]; omega
    · rw [if_neg hk] at e
      have ih := pick_back hp'.2 (by omega) (by omega) e
      refine ⟨List.mem_cons_of_mem _ ih.1, ?_, ih.2.2⟩
      rw [ahead_cons, if_pos (hp'.1 x ih.1)]; omega
theorem goAt_last {o : List Int} {ms : List Bool} {x : Int} (h1 : 1 ≤ o.length) (hx : 0 ≤ x ∧ x < (ms.length : Int)) : (goAt o ms (o.length - 1)).getD x.toNat 0 = 1 := by
  unfold goAt
  rw [Nat.sub_self, gRow, List.getD_eq_getElem?_getD, List.getElem?_map, List.getElem?_eq_getElem (show x.toNat < ms.length by omega)]; rfl
theorem Valid.bd {o : List Int} {ms : List Bool} {hs : List Int} (v : Valid o ms hs) : ∀ x ∈ hs, 0 ≤ x ∧ x < (ms.length : Int) := by
  have key : ∀ c, c ≤ o.length → ∀ x ∈ hs.take c, 0 ≤ x ∧ x < (ms.length : Int) := by
    intro c
    induction c with
    | zero => intro _ x hx; simp at hx
    | succ c ih =>
      intro hc x hx
      rw [take_nxt (getElem?_getD 0 (show c < hs.length by rw [v.1]; omega))] at hx
      rcases List.mem_append.mp hx with hx | hx
      · exact ih (by omega) x hx
      · rw [List.mem_singleton.mp hx]; exact stepsI_bd (ih (by omega)) (v.2 c (by omega))
  intro x hx
  have := key o.length (Nat.le_refl _) x
  rw [List.take_of_length_le (by rw [v.1]; exact Nat.le_refl _)] at this
  exact this hx
/-- what is left of a number from card c on -/
theorem left_bd {o : List Int} {ms : List Bool} {hs : List Int} (v : Valid o ms hs) : ∀ d c, c + d = o.length → 0 ≤ numTo' o ms hs o.length - numTo' o ms hs c ∧ (c < o.length → numTo' o ms hs o.length - numTo' o ms hs c < sumOf (goAt o ms c) (stepsI o ms (hs.take c)) ∧
    pickI (goAt o ms c) (stepsI o ms (hs.take c)) (numTo' o ms hs o.length - numTo' o ms hs c) = (hs.getD c 0, numTo' o ms hs o.length - numTo' o ms hs (c + 1)))
  | 0, c, h => by rw [show c = o.length by omega]; exact ⟨by omega, fun h => by omega⟩
  | d + 1, c, h => by
    have ih := left_bd v d (c + 1) (by omega)
    have hm := v.2 c (by omega)
    have hb := v.bd _ (show hs.getD c 0 ∈ hs from List.mem_of_getElem? (getElem?_getD 0 (show c < hs.length by rw [v.1]; omega)))
    have lt : numTo' o ms hs o.length - numTo' o ms hs (c + 1) < (goAt o ms c).getD (hs.getD c 0).toNat 0 := by
      by_cases hc : c + 1 < o.length
      · have e := step_sum (o := o) (ms := ms) (hs := hs.take c) (x := hs.getD c 0) (by rw [List.length_take, v.1]; omega) hc hb
        rw [e, ← take_nxt (getElem?_getD 0 (show c < hs.length by rw [v.1]; omega))]
        exact (ih.2 hc).1
      · have e := goAt_last (o := o) (ms := ms) (by omega) hb
        rw [show o.length - 1 = c by omega] at e
        rw [e, show c + 1 = o.length by omega]; omega
    have pk := pick_of (goAt_nonneg o ms c) ih.1 lt (steps_sorted o ms (hs.take c)) hm
    have ea : numTo' o ms hs o.length - numTo' o ms hs c = aheadOf (goAt o ms c) (stepsI o ms (hs.take c)) (hs.getD c 0) + (numTo' o ms hs o.length - numTo' o ms hs (c + 1)) := by
      rw [show numTo' o ms hs (c + 1) = numTo' o ms hs c + aheadOf (goAt o ms c) (stepsI o ms (hs.take c)) (hs.getD c 0) from rfl]; omega
    have := ahead_nonneg (l := stepsI o ms (hs.take c)) (h := hs.getD c 0) (goAt_nonneg o ms c)
    rw [ea]
    exact ⟨by omega, fun _ => ⟨pk.2, pk.1⟩⟩
theorem num_bd {o : List Int} {ms : List Bool} {hs : List Int} (h1 : 1 ≤ o.length) (v : Valid o ms hs) : 0 ≤ numTo' o ms hs o.length ∧ numTo' o ms hs o.length < howI o ms := by
  have := left_bd v o.length 0 (by omega)
  rw [show numTo' o ms hs 0 = 0 from rfl, Int.sub_zero] at this
  have e := (this.2 (by omega)).1
  rw [List.take_zero, first_sum] at e
  exact ⟨this.1, e⟩
theorem way_of_num {o : List Int} {ms : List Bool} {hs : List Int} (v : Valid o ms hs) : ∀ c, c ≤ o.length → wayTo o ms (numTo' o ms hs o.length) c = (hs.take c, numTo' o ms hs o.length - numTo' o ms hs c)
  | 0, _ => by rw [wayTo, List.take_zero, show numTo' o ms hs 0 = 0 from rfl, Int.sub_zero]
  | c + 1, h => by
    have ih := way_of_num v c (by omega)
    have p := (left_bd v (o.length - c) c (by omega)).2 (by omega)
    rw [wayTo, ih]
    simp only []
    rw [p.2, take_nxt (getElem?_getD 0 (show c < hs.length by rw [v.1]; omega))]
/-- the way at a number, its sequence -/
structure WayV (o : List Int) (ms : List Bool) (k0 : Int) (c : Nat) : Prop where
  len : (wayTo o ms k0 c).1.length = c
  bd : ∀ x ∈ (wayTo o ms k0 c).1, 0 ≤ x ∧ x < (ms.length : Int)
  ge : 0 ≤ (wayTo o ms k0 c).2
  lt : c < o.length → (wayTo o ms k0 c).2 < sumOf (goAt o ms c) (stepsI o ms (wayTo o ms k0 c).1)
  last : c = o.length → (wayTo o ms k0 c).2 = 0
  step : ∀ d, d < c → (wayTo o ms k0 c).1.getD d 0 ∈ stepsI o ms ((wayTo o ms k0 c).1.take d)
  num : ∀ hs : List Int, hs.take c = (wayTo o ms k0 c).1 → numTo' o ms hs c + (wayTo o ms k0 c).2 = k0
theorem wayV {o : List Int} {ms : List Bool} {k0 : Int} (h1 : 1 ≤ o.length) (h0 : 0 ≤ k0) (hk : k0 < howI o ms) : ∀ c, c ≤ o.length → WayV o ms k0 c
  | 0, _ => ⟨rfl, (fun _ h => nomatch h), h0, (fun _ => by show k0 < sumOf _ (stepsI o ms []); rw [first_sum]; exact hk), (fun h => by omega), (fun _ h => by omega), (fun _ _ => by show 0 + k0 = k0; omega)⟩
  | c + 1, h => by
    have ih := wayV h1 h0 hk c (by omega)
    have hc : c < o.length := by omega
    have pb := pick_back (steps_sorted o ms (wayTo o ms k0 c).1) ih.ge (ih.lt hc) (Prod.ext rfl rfl : pickI (goAt o ms c) (stepsI o ms (wayTo o ms k0 c).1) (wayTo o ms k0 c).2 = ((pickI (goAt o ms c) (stepsI o ms (wayTo o ms k0 c).1) (wayTo o ms k0 c).2).1, (pickI (goAt o ms c) (stepsI o ms (wayTo o ms k0 c).1) (wayTo o ms k0 c).2).2))
    have hx := stepsI_bd ih.bd pb.1
    have e1 : (wayTo o ms k0 (c + 1)).1 = (wayTo o ms k0 c).1 ++ [(pickI (goAt o ms c) (stepsI o ms (wayTo o ms k0 c).1) (wayTo o ms k0 c).2).1] := rfl
    have e2 : (wayTo o ms k0 (c + 1)).2 = (pickI (goAt o ms c) (stepsI o ms (wayTo o ms k0 c).1) (wayTo o ms k0 c).2).2 := rfl
    generalize hX : (pickI (goAt o ms c) (stepsI o ms (wayTo o ms k0 c).1) (wayTo o ms k0 c).2).1 = X at *
    generalize hK : (pickI (goAt o ms c) (stepsI o ms (wayTo o ms k0 c).1) (wayTo o ms k0 c).2).2 = K at *
    have gl : ((wayTo o ms k0 c).1 ++ [X]).getD c 0 = X := by
      rw [List.getD_eq_getElem?_getD, List.getElem?_append_right (by rw [ih.len]; exact Nat.le_refl _), ih.len]; simp
    refine ⟨by rw [e1, List.length_append, ih.len]; rfl, fun x hx' => ?_, by rw [e2]; exact pb.2.2.1, fun hcl => ?_, fun hcl => ?_, fun d hd => ?_, fun hs ht => ?_⟩
    · rw [e1] at hx'
      rcases List.mem_append.mp hx' with hx' | hx'
      · exact ih.bd x hx'
      · rw [List.mem_singleton.mp hx']; exact hx
    · rw [e1, e2, ← step_sum ih.len hcl hx]; exact pb.2.2.2
    · have e := goAt_last (o := o) (ms := ms) h1 hx
      rw [show o.length - 1 = c by omega] at e
      rw [e2]; have := pb.2.2.1; have := pb.2.2.2; omega
    · rw [e1]
      by_cases hdc : d = c
      · subst hdc
        rw [gl, List.take_append_of_le_length (by rw [ih.len]; exact Nat.le_refl _), List.take_of_length_le (by rw [ih.len]; exact Nat.le_refl _)]
        exact pb.1
      · rw [List.take_append_of_le_length (by rw [ih.len]; omega), List.getD_eq_getElem?_getD, List.getElem?_append_left (by rw [ih.len]; omega), ← List.getD_eq_getElem?_getD]
        exact ih.step d (by omega)
    · rw [e1] at ht
      have hlen : c < hs.length := by
        have := congrArg List.length ht
        rw [List.length_take, List.length_append, ih.len] at this
        simp at this; omega
      have t1 : hs.take c = (wayTo o ms k0 c).1 := by
        have := congrArg (List.take c) ht
        have e3 : List.take c (wayTo o ms k0 c).1 = (wayTo o ms k0 c).1 := List.take_of_length_le (by rw [ih.len]; exact Nat.le_refl _)
        rw [List.take_take, Nat.min_eq_left (by omega), List.take_append_of_le_length (by rw [ih.len]; exact Nat.le_refl _), e3] at this
        exact this
      have t2 : hs.getD c 0 = X := by
        have := congrArg (fun l => l.getD c 0) ht
        simp only [gl] at this
        rw [← this, List.getD_eq_getElem?_getD, List.getD_eq_getElem?_getD, List.getElem?_take_of_lt (by omega)]
      have n1 := ih.num hs t1
      rw [show numTo' o ms hs (c + 1) = numTo' o ms hs c + aheadOf (goAt o ms c) (stepsI o ms (hs.take c)) (hs.getD c 0) from rfl, t1, t2, e2]
      have := pb.2.1
      omega
theorem valid_step {o : List Int} {ms : List Bool} {hs : List Int} {c : Nat} (hl : hs.length = o.length) (hc : c + 1 < o.length) :
    hs.getD (c + 1) 0 ∈ stepsI o ms (hs.take (c + 1)) ↔ (hs.getD (c + 1) 0 = hs.getD c 0 ∧ shI ms ((placesI o).getD c 0) ((placesI o).getD (c + 1) 0) (hs.getD c 0).toNat = true) ∨ (hs.getD c 0 < hs.getD (c + 1) 0 ∧ hs.getD (c + 1) 0 < (ms.length : Int)) := by
  have e1 : (hs.take (c + 1)).length = c + 1 := by rw [List.length_take]; omega
  have e2 : (hs.take (c + 1)).getLastD 0 = hs.getD c 0 := by
    rw [take_nxt (getElem?_getD 0 (show c < hs.length by omega))]; simp [List.getLastD_eq_getLast?]
  unfold stepsI
  rw [e1, e2, if_neg (by omega), Nat.add_sub_cancel, List.mem_append, upFrom_mem]
  constructor
  · rintro (h | h)
    · split at h
      · rename_i hsh
        exact .inl ⟨List.mem_singleton.mp h, hsh⟩
      · cases h
    · exact .inr ⟨by omega, h.2⟩
  · rintro (⟨h, hsh⟩ | h)
    · rw [if_pos hsh]; exact .inl (List.mem_singleton.mpr h)
    · exact .inr ⟨by omega, h.2⟩
theorem valid_way {o : List Int} {ms : List Bool} {k0 : Int} (h1 : 1 ≤ o.length) (h0 : 0 ≤ k0) (hk : k0 < howI o ms) : Valid o ms (wayTo o ms k0 o.length).1 := by
  have w := wayV h1 h0 hk o.length (Nat.le_refl _)
  exact ⟨w.len, w.step⟩
theorem num_way {o : List Int} {ms : List Bool} {k0 : Int} (h1 : 1 ≤ o.length) (h0 : 0 ≤ k0) (hk : k0 < howI o ms) : numTo' o ms (wayTo o ms k0 o.length).1 o.length = k0 := by
  have w := wayV h1 h0 hk o.length (Nat.le_refl _)
  have := w.num (wayTo o ms k0 o.length).1 (List.take_of_length_le (by rw [w.len]; exact Nat.le_refl _))
  rw [w.last rfl] at this
  omega
/-- along a valid sequence -/
theorem valid_le {o : List Int} {ms : List Bool} {hs : List Int} (v : Valid o ms hs) (c : Nat) : ∀ d, c + d < o.length → hs.getD c 0 ≤ hs.getD (c + d) 0 ∧ (hs.getD c 0 = hs.getD (c + d) 0 → 0 < d →
    if ms.getD (hs.getD c 0).toNat false = true then (placesI o).getD (c + d) 0 < (placesI o).getD c 0 else (placesI o).getD c 0 < (placesI o).getD (c + d) 0)
  | 0, _ => ⟨Int.le_refl _, fun _ h => by omega⟩
  | d + 1, h => by
    have ih := valid_le v c d (by omega)
    have st := (valid_step v.1 (show c + d + 1 < o.length by omega)).mp (v.2 (c + d + 1) (by omega))
    rw [show c + (d + 1) = c + d + 1 by omega]
    refine ⟨by omega, fun he _ => ?_⟩
    have e1 : hs.getD (c + d + 1) 0 = hs.getD (c + d) 0 := by omega
    have e2 : hs.getD c 0 = hs.getD (c + d) 0 := by omega
    have sh := (st.resolve_right (by omega)).2
    rw [← e2] at sh
    unfold shI at sh
    by_cases hd : d = 0
    · subst hd
      rw [Nat.add_zero] at *
      split at sh <;> rename_i hm
      · rw [if_pos hm]; simpa using sh
      · rw [if_neg hm]; simpa using sh
    · have ih2 := ih.2 e2 (by omega)
      split at sh <;> rename_i hm
      · rw [if_pos hm] at ih2 ⊢
        have sh : (placesI o).getD (c + d + 1) 0 < (placesI o).getD (c + d) 0 := by simpa using sh
        omega
      · rw [if_neg hm] at ih2 ⊢
        have sh : (placesI o).getD (c + d) 0 < (placesI o).getD (c + d + 1) 0 := by simpa using sh
        omega
/-- the word of a sequence -/
def wordOf (o hs : List Int) : List Int := o.map fun c => hs.getD c.toNat 0
theorem wordOf_getD {o hs : List Int} {i : Nat} (h : i < o.length) : (wordOf o hs).getD i 0 = hs.getD (o.getD i 0).toNat 0 := by
  rw [wordOf, List.getD_eq_getElem?_getD, List.getElem?_map, getElem?_getD 0 h]; rfl
theorem places_at {o : List Int} (ho : IsOrd o) {i : Nat} (h : i < o.length) : (placesI o).getD (o.getD i 0).toNat 0 = (i : Int) := by
  have hb := ho.bd (getElem?_getD 0 h)
  rw [placesI_getD (by omega), show (((o.getD i 0).toNat : Nat) : Int) = o.getD i 0 by omega, idxOf_at ho.nodup (getElem?_getD 0 h)]
theorem valid_lt {o : List Int} {ms : List Bool} {hs : List Int} (ho : IsOrd o) (v : Valid o ms hs) {i j : Nat} (hi : i < o.length) (hj : j < o.length) (h : o.getD i 0 < o.getD j 0) : ltW ms (wordOf o hs) i j := by
  have bi := ho.bd (getElem?_getD 0 hi)
  have bj := ho.bd (getElem?_getD 0 hj)
  have k := valid_le v (o.getD i 0).toNat ((o.getD j 0).toNat - (o.getD i 0).toNat) (by omega)
  rw [show (o.getD i 0).toNat + ((o.getD j 0).toNat - (o.getD i 0).toNat) = (o.getD j 0).toNat by omega, places_at ho hi, places_at ho hj] at k
  unfold ltW
  rw [wordOf_getD hi, wordOf_getD hj]
  by_cases e : hs.getD (o.getD i 0).toNat 0 = hs.getD (o.getD j 0).toNat 0
  · refine .inr ⟨e, ?_⟩
    have := k.2 e (by omega)
    split at this <;> rename_i hm
    · rw [if_pos hm]; omega
    · rw [if_neg hm]; omega
  · exact .inl (by omega)
theorem wordOf_isW {o : List Int} {ms : List Bool} {hs : List Int} (ho : IsOrd o) (v : Valid o ms hs) : IsW ms.length (wordOf o hs) := fun x hx => by
  obtain ⟨c, hc, rfl⟩ := List.mem_map.mp hx
  have := ho.mem.mp hc
  exact v.bd _ (List.mem_of_getElem? (getElem?_getD 0 (show c.toNat < hs.length by rw [v.1]; omega)))
@[simp] theorem wordOf_length (o hs : List Int) : (wordOf o hs).length = o.length := by simp [wordOf]
theorem wordOf_leads {o : List Int} {ms : List Bool} {hs : List Int} (ho : IsOrd o) (v : Valid o ms hs) : riffleI (upto o.length) ms (wordOf o hs) = o := by
  have hw := wordOf_isW ho v
  rw [riff_first hw (by simp)]
  refine ord_ext (isOrd_numI ms hw) ho (by simp) fun i j hi hj => ?_
  have hi' : i < o.length := by simpa using hi
  have hj' : j < o.length := by simpa using hj
  have g : ∀ k, k < o.length → (numI ms (wordOf o hs)).getD k 0 = numAt ms (wordOf o hs) k := by
    intro k hk
    rw [List.getD_eq_getElem?_getD]; simp [numI, hk]
  rw [g i hi', g j hj', num_lt hw (by simpa using hi') (by simpa using hj')]
  constructor
  · intro h
    rcases Int.lt_trichotomy (o.getD i 0) (o.getD j 0) with h1 | h1 | h1
    · exact h1
    · exfalso
      have e : i = j := by
        have a := places_at ho hi'
        have b := places_at ho hj'
        rw [h1, b] at a; omega
      subst e
      unfold ltW at h
      rcases h with h | ⟨_, h⟩
      · omega
      · split at h <;> omega
    · exfalso
      have h2 := valid_lt ho v hj' hi' h1
      unfold ltW at h h2
      rcases h with h | ⟨e, h⟩ <;> rcases h2 with h2 | ⟨e2, h2⟩
      · omega
      · omega
      · omega
      · rw [e2] at h2
        split at h <;> rename_i hm
        · rw [if_pos hm] at h2; omega
        · rw [if_neg hm] at h2; omega
  · exact valid_lt ho v hi' hj'
theorem heapsOf_at {w : List Int} {h p : Nat} (h1 : startI w h ≤ p) (h2 : p < startI w h + w.count (h : Int)) : ∀ {m : Nat}, h < m → (heapsOf m w).getD p 0 = (h : Int)
  | 0, hm => by omega
  | m + 1, hm => by
    rw [← heapsOf_next, List.getD_eq_getElem?_getD]
    by_cases e : h = m
    · subst e
      rw [List.getElem?_append_right (by rw [heapsOf_length]; exact h1), heapsOf_length]
      have : p - startI w h < w.count (h : Int) := by omega
      simp [this]
    · have := startI_lt (w := w) (show h < m by omega)
      rw [List.getElem?_append_left (by rw [heapsOf_length]; omega), ← List.getD_eq_getElem?_getD]
      exact heapsOf_at h1 h2 (by omega)
theorem heapsOf_num {ms : List Bool} {w : List Int} (hw : IsW ms.length w) {j : Nat} (hj : j < w.length) : (heapsOf ms.length w).getD (numAt ms w j).toNat 0 = w.getD j 0 := by
  have e := getElem?_getD (0 : Int) hj
  have b := hw.at e
  have c := cnt_lt e
  have ty : (((w.getD j 0).toNat : Nat) : Int) = w.getD j 0 := by omega
  have key : startI w (w.getD j 0).toNat ≤ (numAt ms w j).toNat ∧ (numAt ms w j).toNat < startI w (w.getD j 0).toNat + w.count (((w.getD j 0).toNat : Nat) : Int) := by
    unfold numAt topI cntI
    rw [ty]
    split <;> omega
  rw [heapsOf_at key.1 key.2 (by omega), ty]
theorem heapsOf_sorted (w : List Int) : ∀ m : Nat, (heapsOf m w).Pairwise (· ≤ ·)
  | 0 => List.Pairwise.nil
  | m + 1 => by
    rw [← heapsOf_next]
    refine List.pairwise_append.mpr ⟨heapsOf_sorted w m, ?_, fun a ha b hb => ?_⟩
    · rw [List.map_const', List.pairwise_replicate]; exact .inr (Int.le_refl _)
    · have := heapsOf_bd a ha
      obtain ⟨_, _, rfl⟩ := List.mem_map.mp hb
      omega
theorem heapsOf_count (w : List Int) (x : Int) : ∀ m : Nat, (heapsOf m w).count x = if 0 ≤ x ∧ x < (m : Int) then w.count x else 0
  | 0 => by rw [if_neg (by omega)]; rfl
  | m + 1 => by
    rw [← heapsOf_next, List.count_append, heapsOf_count w x m, List.map_const', List.count_replicate, List.length_range]
    by_cases e : (m : Int) = x
    · subst e
      rw [if_neg (show ¬ (0 ≤ (m : Int) ∧ (m : Int) < (m : Int)) by omega), if_pos (show 0 ≤ (m : Int) ∧ (m : Int) < ((m + 1 : Nat) : Int) by omega), if_pos (show ((m : Int) == (m : Int)) = true by simp)]; simp
    · have e2 : ((m : Int) == x) = false := by rw [beq_eq_false_iff_ne]; exact e
      rw [if_neg (show ¬ ((m : Int) == x) = true by rw [e2]; simp), Nat.add_zero]
      by_cases h : 0 ≤ x ∧ x < (m : Int)
      · rw [if_pos h, if_pos (show 0 ≤ x ∧ x < ((m + 1 : Nat) : Int) by omega)]
      · rw [if_neg h, if_neg (show ¬ (0 ≤ x ∧ x < ((m + 1 : Nat) : Int)) by omega)]
theorem heapsOf_perm {m : Nat} {w : List Int} (hw : IsW m w) : (heapsOf m w).Perm w := by
  rw [List.perm_iff_count]
  intro x
  rw [heapsOf_count]
  split
  · rfl
  · rename_i h
    exact (List.count_eq_zero.mpr fun hx => h (hw x hx)).symm
theorem valid_sorted {o : List Int} {ms : List Bool} {hs : List Int} (v : Valid o ms hs) : hs.Pairwise (· ≤ ·) := by
  rw [List.pairwise_iff_getElem]
  intro i j hi hj hij
  have := (valid_le v i (j - i) (by rw [← v.1]; omega)).1
  rw [show i + (j - i) = j by omega, List.getD_eq_getElem?_getD, List.getD_eq_getElem?_getD, List.getElem?_eq_getElem hi, List.getElem?_eq_getElem hj] at this
  exact this
theorem wordOf_perm {o hs : List Int} (ho : IsOrd o) (hl : hs.length = o.length) : (wordOf o hs).Perm hs := by
  have e : (upto o.length).map (fun c => hs.getD c.toNat 0) = hs := by
    apply List.ext_getElem
    · simp [hl]
    · intro i h1 h2
      rw [List.getElem_map, upto_getElem, Int.toNat_natCast, List.getD_eq_getElem?_getD, List.getElem?_eq_getElem h2]; rfl
  have := List.Perm.map (fun c : Int => hs.getD c.toNat 0) ho
  rw [e] at this
  exact this
theorem heapsOf_word {o : List Int} {ms : List Bool} {hs : List Int} (ho : IsOrd o) (v : Valid o ms hs) : heapsOf ms.length (wordOf o hs) = hs :=
  sorted_eq (heapsOf_sorted _ _) (valid_sorted v) (heapsOf_perm (wordOf_isW ho v)) (List.Perm.refl _) (wordOf_perm ho v.1)
theorem word_heaps {o : List Int} {ms : List Bool} {w : List Int} (hw : IsW ms.length w) (he : riffleI (upto w.length) ms w = o) : wordOf o (heapsOf ms.length w) = w := by
  rw [riff_first hw rfl] at he
  subst he
  apply List.ext_getElem
  · simp
  · intro i h1 h2
    have := heapsOf_num (ms := ms) hw h2
    have e3 : w.getD i 0 = w[i] := by rw [List.getD_eq_getElem?_getD, List.getElem?_eq_getElem h2]; rfl
    rw [e3] at this
    rw [← this]
    simp [wordOf, numI, List.getD_eq_getElem?_getD]
theorem valid_heaps {o : List Int} {ms : List Bool} {w : List Int} (hw : IsW ms.length w) (he : riffleI (upto w.length) ms w = o) : Valid o ms (heapsOf ms.length w) := by
  rw [riff_first hw rfl] at he
  have ho : IsOrd o := by rw [← he]; exact isOrd_numI ms hw
  have hlo : o.length = w.length := by rw [← he]; simp
  have hl := heapsOf_all hw
  refine ⟨by omega, fun c hc => ?_⟩
  have hb := heapsOf_bd (m := ms.length) (w := w)
  match c, hc with
  | 0, hc =>
    have := hb _ (List.mem_of_getElem? (getElem?_getD 0 (show 0 < (heapsOf ms.length w).length by omega)))
    unfold stepsI
    rw [if_pos (by simp)]
    exact mem_upto.mpr this
  | c + 1, hc =>
    rw [valid_step (by omega) hc]
    have hx := hb _ (List.mem_of_getElem? (getElem?_getD 0 (show c + 1 < (heapsOf ms.length w).length by omega)))
    have hle : (heapsOf ms.length w).getD c 0 ≤ (heapsOf ms.length w).getD (c + 1) 0 := by
      have := List.pairwise_iff_getElem.mp (heapsOf_sorted w ms.length) c (c + 1) (by omega) (by omega) (by omega)
      rw [List.getD_eq_getElem?_getD, List.getD_eq_getElem?_getD, List.getElem?_eq_getElem (by omega), List.getElem?_eq_getElem (by omega)]
      exact this
    by_cases e : (heapsOf ms.length w).getD (c + 1) 0 = (heapsOf ms.length w).getD c 0
    · refine .inl ⟨e, ?_⟩
      have mi : ((c : Nat) : Int) ∈ o := ho.mem.mpr ⟨by omega, by omega⟩
      have mj : ((c + 1 : Nat) : Int) ∈ o := ho.mem.mpr ⟨by omega, by omega⟩
      have ei := at_idxOf mi
      have ej := at_idxOf mj
      have li := idxOf_lt ho (show c < o.length by omega)
      have lj := idxOf_lt ho (show c + 1 < o.length by omega)
      rw [placesI_getD (by omega), placesI_getD (by omega)]
      generalize o.idxOf ((c : Nat) : Int) = i at *
      generalize o.idxOf ((c + 1 : Nat) : Int) = j at *
      have gn : ∀ k, k < w.length → o.getD k 0 = numAt ms w k := by
        intro k hk
        rw [← he, List.getD_eq_getElem?_getD]; simp [numI, hk]
      rw [gn i (by omega)] at ei
      rw [gn j (by omega)] at ej
      have hi := heapsOf_num (ms := ms) hw (show i < w.length by omega)
      have hj := heapsOf_num (ms := ms) hw (show j < w.length by omega)
      rw [ei, Int.toNat_natCast] at hi
      rw [ej, Int.toNat_natCast] at hj
      have lt := (num_lt (ms := ms) hw (show i < w.length by omega) (show j < w.length by omega)).mp (by rw [ei, ej]; omega)
      unfold ltW at lt
      rw [← hi, ← hj] at lt
      have lt := (lt.resolve_left (by omega)).2
      unfold shI
      split at lt <;> rename_i hm
      · rw [if_pos hm]; exact decide_eq_true (by omega)
      · rw [if_neg hm]; exact decide_eq_true (by omega)
    · exact .inr ⟨by omega, hx.2⟩
/-! the law's words -/
theorem way_back {o : List Int} {ms : List Bool} {w : List Int} (h1 : 1 ≤ w.length) (hw : IsW ms.length w) (he : riffleI (upto w.length) ms w = o) :
    0 ≤ numTo' o ms (heapsOf ms.length w) o.length ∧ numTo' o ms (heapsOf ms.length w) o.length < howI o ms ∧ wayI o ms (numTo' o ms (heapsOf ms.length w) o.length) = w := by
  have v := valid_heaps hw he
  have hlo : o.length = w.length := by rw [← he, riff_first hw rfl]; simp
  have b := num_bd (by omega) v
  refine ⟨b.1, b.2, ?_⟩
  have := way_of_num v o.length (Nat.le_refl _)
  unfold wayI
  rw [this, List.take_of_length_le (by rw [v.1]; exact Nat.le_refl _)]
  exact word_heaps hw he
theorem way_num {o : List Int} {ms : List Bool} {k : Int} (ho : IsOrd o) (h1 : 1 ≤ o.length) (h0 : 0 ≤ k) (hk : k < howI o ms) :
    IsW ms.length (wayI o ms k) ∧ (wayI o ms k).length = o.length ∧ riffleI (upto o.length) ms (wayI o ms k) = o ∧ numTo' o ms (heapsOf ms.length (wayI o ms k)) o.length = k := by
  have v := valid_way h1 h0 hk
  have e : wayI o ms k = wordOf o (wayTo o ms k o.length).1 := rfl
  rw [e, heapsOf_word ho v]
  exact ⟨wordOf_isW ho v, by simp, wordOf_leads ho v, num_way h1 h0 hk⟩
end Rc
namespace Rc
/-! the ways in the order of their heaps -/
theorem lexGt_at : ∀ {a b : List Int}, a.length = b.length → lexGt a b = true → ∃ c, c < a.length ∧ a.take c = b.take c ∧ b.getD c 0 < a.getD c 0
  | [], [], _, h => by cases h
  | x :: a, y :: b, hl, h => by
    have h : (if x = y then lexGt a b else decide (y < x)) = true := h
    by_cases e : x = y
    · rw [if_pos e] at h
      obtain ⟨c, h1, h2, h3⟩ := lexGt_at (by simpa using hl) h
      exact ⟨c + 1, by simpa using h1, by rw [List.take_succ_cons, List.take_succ_cons, e, h2], by simpa using h3⟩
    · rw [if_neg e] at h
      exact ⟨0, by simp, rfl, by simpa using h⟩
theorem lexGt_tri : ∀ {a b : List Int}, a.length = b.length → lexGt a b = true ∨ lexGt b a = true ∨ a = b
  | [], [], _ => .inr (.inr rfl)
  | x :: a, y :: b, hl => by
    show (if x = y then lexGt a b else decide (y < x)) = true ∨ (if y = x then lexGt b a else decide (x < y)) = true ∨ _
    by_cases e : x = y
    · rw [if_pos e, if_pos e.symm, e]
      rcases lexGt_tri (a := a) (b := b) (by simpa using hl) with h | h | h
      · exact .inl h
      · exact .inr (.inl h)
      · exact .inr (.inr (by rw [h]))
    · rw [if_neg e, if_neg (fun z => e z.symm)]
      by_cases l : y < x
      · exact .inl (decide_eq_true l)
      · exact .inr (.inl (decide_eq_true (by omega)))
theorem ahead_mono {g : List Int} (hg : ∀ k, 0 ≤ g.getD k 0) {y h : Int} (hy : y ≤ h) : ∀ l : List Int, aheadOf g l y ≤ aheadOf g l h
  | [] => Int.le_refl _
  | x :: l => by
    rw [ahead_cons, ahead_cons]
    have ih := ahead_mono hg hy l
    have := hg x.toNat
    split <;> split <;> omega
theorem ahead_gap {g : List Int} (hg : ∀ k, 0 ≤ g.getD k 0) {y h : Int} (hy : y < h) : ∀ {l : List Int}, y ∈ l → aheadOf g l y + g.getD y.toNat 0 ≤ aheadOf g l h
  | x :: l, hm => by
    rw [ahead_cons, ahead_cons]
    have hx := hg x.toNat
    rcases List.mem_cons.mp hm with e | hm
    · subst e
      have := ahead_mono hg (show y ≤ h by omega) l
      rw [if_neg (by omega), if_pos hy]; omega
    · have := ahead_gap hg hy hm
      split <;> split <;> omega
theorem numTo_same {o : List Int} {ms : List Bool} {a b : List Int} : ∀ {c : Nat}, c ≤ a.length → c ≤ b.length → a.take c = b.take c → numTo' o ms a c = numTo' o ms b c
  | 0, _, _, _ => rfl
  | c + 1, ha, hb, h => by
    have e1 : a.take c = b.take c := by
      have := congrArg (List.take c) h
      rwa [List.take_take, List.take_take, Nat.min_eq_left (by omega)] at this
    have e2 : a.getD c 0 = b.getD c 0 := by
      have := congrArg (fun l : List Int => l.getD c 0) h
      simpa [List.getD_eq_getElem?_getD, List.getElem?_take] using this
    show numTo' o ms a c + aheadOf (goAt o ms c) (stepsI o ms (a.take c)) (a.getD c 0) = numTo' o ms b c + aheadOf (goAt o ms c) (stepsI o ms (b.take c)) (b.getD c 0)
    rw [numTo_same (by omega) (by omega) e1, e1, e2]
theorem num_lex {o : List Int} {ms : List Bool} {a b : List Int} (va : Valid o ms a) (vb : Valid o ms b) (h : lexGt a b = true) : numTo' o ms b o.length < numTo' o ms a o.length := by
  obtain ⟨c, hc, ht, hl⟩ := lexGt_at (by rw [va.1, vb.1]) h
  rw [va.1] at hc
  have la := (left_bd va (o.length - (c + 1)) (c + 1) (by omega)).1
  have lb := (left_bd vb (o.length - c) c (by omega)).2 hc
  have pb := pick_back (steps_sorted o ms (b.take c)) (left_bd vb (o.length - c) c (by omega)).1 lb.1 lb.2
  have gap := ahead_gap (goAt_nonneg o ms c) hl pb.1
  have ea : numTo' o ms a (c + 1) = numTo' o ms a c + aheadOf (goAt o ms c) (stepsI o ms (a.take c)) (a.getD c 0) := rfl
  rw [numTo_same (by rw [va.1]; omega) (by rw [vb.1]; omega) ht, ht] at ea
  omega
/-- the heap of each card, in the order of the cards -/
def hsTo (o t : List Int) (i : Nat) : List Int := (List.range o.length).map fun c : Nat => if (o.idxOf (c : Int)) < i then t.getD (o.idxOf (c : Int)) 0 else 0
theorem hsTo_zero (o t : List Int) : o.map (fun _ => (0 : Int)) = hsTo o t 0 := by
  unfold hsTo
  have : (fun c : Nat => if o.idxOf (c : Int) < 0 then t.getD (o.idxOf (c : Int)) 0 else 0) = fun _ => 0 := by
    funext c; rw [if_neg (by omega)]
  rw [this, List.map_const', List.map_const', List.length_range]
@[simp] theorem hsTo_length (o t : List Int) (i : Nat) : (hsTo o t i).length = o.length := by simp [hsTo]
theorem hsTo_next {o t : List Int} (ho : IsOrd o) {i : Nat} {x y : Int} (e : o[i]? = some x) (e2 : t[i]? = some y) : (hsTo o t i).set x.toNat y = hsTo o t (i + 1) := by
  have hb := ho.bd e
  have hx : o.idxOf x = i := idxOf_at ho.nodup e
  apply List.ext_getElem?
  intro j
  unfold hsTo
  rw [List.getElem?_set]
  by_cases hj : x.toNat = j
  · subst hj
    rw [if_pos rfl, if_pos (by rw [List.length_map, List.length_range]; omega), List.getElem?_map, List.getElem?_range (by omega)]
    show some y = some _
    dsimp only
    rw [show ((x.toNat : Nat) : Int) = x by omega, hx, if_pos (by omega), List.getD_eq_getElem?_getD, e2]; rfl
  · rw [if_neg hj]
    by_cases hjl : j < o.length
    · rw [List.getElem?_map, List.getElem?_range hjl, List.getElem?_map, List.getElem?_range hjl]
      show some _ = some _
      dsimp only
      have hne : o.idxOf (j : Int) ≠ i := fun h => by
        have hjm : ((j : Int)) ∈ o := ho.mem.mpr ⟨by omega, by omega⟩
        have := List.getElem_idxOf (List.idxOf_lt_length_of_mem hjm)
        have h2 : o[i]? = some (j : Int) := by
          rw [← h, List.getElem?_eq_getElem (List.idxOf_lt_length_of_mem hjm), this]
        rw [e] at h2
        have := Option.some.inj h2
        omega
      congr 1
      by_cases h1 : o.idxOf (j : Int) < i
      · rw [if_pos h1, if_pos (by omega)]
      · rw [if_neg h1, if_neg (by omega)]
    · rw [List.getElem?_eq_none (by rw [List.length_map, List.length_range]; omega), List.getElem?_eq_none (by rw [List.length_map, List.length_range]; omega)]
theorem hsTo_word {o hs : List Int} (ho : IsOrd o) (hl : hs.length = o.length) {n : Nat} (hn : o.length ≤ n) : hsTo o (wordOf o hs) n = hs := by
  apply List.ext_getElem?
  intro j
  unfold hsTo
  by_cases hj : j < o.length
  · rw [List.getElem?_map, List.getElem?_range hj]
    have hjm : ((j : Int)) ∈ o := ho.mem.mpr ⟨by omega, by omega⟩
    have hlt := List.idxOf_lt_length_of_mem hjm
    show some _ = _
    dsimp only
    rw [if_pos (by omega), wordOf_getD hlt, List.getD_eq_getElem?_getD (l := o), List.getElem?_eq_getElem hlt, List.getElem_idxOf hlt]
    show some (hs.getD (Int.toNat (j : Int)) 0) = _
    rw [Int.toNat_natCast, List.getD_eq_getElem?_getD, List.getElem?_eq_getElem (by omega)]; rfl
  · rw [List.getElem?_eq_none (by rw [List.length_map, List.length_range]; omega), List.getElem?_eq_none (by omega)]
theorem way_len {o : List Int} {ms : List Bool} {k : Int} : (wayI o ms k).length = o.length := by unfold wayI; rw [List.length_map]
theorem way_next {o : List Int} {ms : List Bool} {k : Int} (ho : IsOrd o) (h1 : 1 ≤ o.length) (h0 : 0 ≤ k) (hk : k + 1 < howI o ms) {n m : Nat} (hn : o.length ≤ n) (hm : o.length ≤ m) : lexGt (hsTo o (wayI o ms (k + 1)) n) (hsTo o (wayI o ms k) m) = true := by
  have v := valid_way (ms := ms) (k0 := k) h1 h0 (by omega)
  have v' := valid_way (k0 := k + 1) h1 (by omega) hk
  rw [show wayI o ms k = wordOf o (wayTo o ms k o.length).1 from rfl, show wayI o ms (k + 1) = wordOf o (wayTo o ms (k + 1) o.length).1 from rfl, hsTo_word ho v.1 hm, hsTo_word ho v'.1 hn]
  have n1 := num_way (ms := ms) (k0 := k) h1 h0 (by omega)
  have n2 := num_way (k0 := k + 1) h1 (by omega) hk
  rcases lexGt_tri (a := (wayTo o ms (k + 1) o.length).1) (b := (wayTo o ms k o.length).1) (by rw [v'.1, v.1]) with h | h | h
  · exact h
  · have := num_lex v v' h; omega
  · rw [h] at n2; omega
theorem sumOf_nonneg {g : List Int} (hg : ∀ k, 0 ≤ g.getD k 0) : ∀ l : List Int, 0 ≤ sumOf g l
  | [] => Int.le_refl 0
  | x :: l => by
    show 0 ≤ ((x :: l).map fun x => g.getD x.toNat 0).sum
    rw [List.map_cons, List.sum_cons]
    have h1 := sumOf_nonneg hg l
    have h2 := hg x.toNat
    unfold sumOf at h1
    omega
theorem howI_nonneg (o : List Int) (ms : List Bool) : 0 ≤ howI o ms := by
  rw [← first_sum]; exact sumOf_nonneg (goAt_nonneg o ms 0) _
end Rc
namespace Rc
open PySem PySem.Spec PyProof.Rows L2
theorem isWordV_len {m : Nat} {w : List V} {n : Int} (h : (w.length : Int) ≠ n) : isWordV m w n = false := by
  unfold isWordV; rw [decide_eq_false h]; rfl
theorem isWordV_mem {m : Nat} {w : List V} {n : Int} {v : V} (h : v ∈ w) (hv : wordPart m v = false) : isWordV m w n = false := by
  unfold isWordV
  have : w.all (wordPart m) = false := by
    rw [List.all_eq_false]; exact ⟨v, h, by rw [hv]; exact Bool.false_ne_true⟩
  rw [this, Bool.and_false]
theorem wp_neg {m : Nat} {x : Int} (h : x < 0) : wordPart m (V.int x) = false := by
  show (decide (0 ≤ x) && decide (x < (m : Int))) = false
  rw [decide_eq_false (by omega)]; rfl
theorem wp_big {m : Nat} {x : Int} (h : (m : Int) ≤ x) : wordPart m (V.int x) = false := by
  show (decide (0 ≤ x) && decide (x < (m : Int))) = false
  rw [decide_eq_false (p := x < (m : Int)) (by omega), Bool.and_false]
theorem mid_mem {α : Type} {a b : List α} {x : α} : x ∈ a ++ [x] ++ b := by simp
theorem part_of {m : Nat} {l : List V} (hl : ∀ v ∈ l, wordPart m v = false) {i : Nat} {d : V} (hi : i < l.length) : wordPart m (l.getD i d) = false := hl _ (getD_mem hi)
theorem cut_last_len {α : Type} {xs : List α} (h : 0 < xs.length) : (cutL xs (some (-1)) none).length = 1 := by
  rw [cutL_length]
  show min (xs.length - (if (-1 : Int) < 0 then ((-1 : Int) + (xs.length : Int)).toNat else min (-1 : Int).toNat xs.length)) (xs.length - (if (-1 : Int) < 0 then ((-1 : Int) + (xs.length : Int)).toNat else min (-1 : Int).toNat xs.length)) = 1
  rw [if_pos (by decide)]; omega
theorem cut_lo_len {α : Type} {xs : List α} {i : Int} (h0 : 0 ≤ i) (h1 : i ≤ xs.length) : (cutL xs none (some i)).length = i.toNat := by
  rw [cut_lo h0 h1, List.length_take]; omega
theorem cut_hi_len {α : Type} {xs : List α} {i : Int} (h0 : 0 ≤ i) (h1 : i ≤ xs.length) : (cutL xs (some i) none).length = xs.length - i.toNat := by
  rw [cut_hi h0 h1, List.length_drop]
theorem all8 {m : Nat} {h r : Int} (hm : (m : Int) = h) (hr : 0 ≤ r) : ∀ v ∈ ([V.int (-1), V.int h, V.bl true, V.bl false, V.non, V.str "0", V.int (h + r), V.int (-1 - r)] : List V), wordPart m v = false := by
  intro v hv
  rcases List.mem_cons.mp hv with rfl | hv
  · exact wp_neg (by omega)
  rcases List.mem_cons.mp hv with rfl | hv
  · exact wp_big (by omega)
  rcases List.mem_cons.mp hv with rfl | hv
  · rfl
  rcases List.mem_cons.mp hv with rfl | hv
  · rfl
  rcases List.mem_cons.mp hv with rfl | hv
  · rfl
  rcases List.mem_cons.mp hv with rfl | hv
  · rfl
  rcases List.mem_cons.mp hv with rfl | hv
  · exact wp_big (by omega)
  rcases List.mem_cons.mp hv with rfl | hv
  · exact wp_neg (by omega)
  cases hv
theorem all4 {α : Type} {P : α → Prop} {a b c d : α} (h1 : P a) (h2 : P b) (h3 : P c) (h4 : P d) : ∀ z, z ∈ [a, b, c, d] → P z := by
  intro z hz
  rcases List.mem_cons.mp hz with rfl | hz
  · exact h1
  rcases List.mem_cons.mp hz with rfl | hz
  · exact h2
  rcases List.mem_cons.mp hz with rfl | hz
  · exact h3
  rcases List.mem_cons.mp hz with rfl | hz
  · exact h4
  cases hz
theorem all3 {α : Type} {P : α → Prop} {a b c : α} (h1 : P a) (h2 : P b) (h3 : P c) : ∀ z, z ∈ [a, b, c] → P z := by
  intro z hz
  rcases List.mem_cons.mp hz with rfl | hz
  · exact h1
  rcases List.mem_cons.mp hz with rfl | hz
  · exact h2
  rcases List.mem_cons.mp hz with rfl | hz
  · exact h3
  cases hz
theorem all2 {α : Type} {P : α → Prop} {a b : α} (h1 : P a) (h2 : P b) : ∀ z, z ∈ [a, b] → P z := by
  intro z hz
  rcases List.mem_cons.mp hz with rfl | hz
  · exact h1
  rcases List.mem_cons.mp hz with rfl | hz
  · exact h2
  cases hz
/-- what is told of a word: refused, another order's, the order's -/
def toldS (ok : Bool) (r o : List Int) : Str := if ok = true then (if r = o then "" else "way") else "riffle"
theorem told_no {ok : Bool} {r o : List Int} (h : ok = false) : toldS ok r o = "riffle" := by subst h; rfl
theorem told_way {ok : Bool} {r o : List Int} (h : ok = true) (h' : ¬ r = o) : toldS ok r o = "way" := by subst h; unfold toldS; rw [if_pos rfl, if_neg h']
theorem told_yes {ok : Bool} {r o : List Int} (h : ok = true) (h' : r = o) : toldS ok r o = "" := by subst h; unfold toldS; rw [if_pos rfl, if_pos h']
theorem isW_rot {m : Nat} {w : List Int} (h : ∀ x ∈ w, 0 ≤ x ∧ x < (m : Int)) (hl : 1 ≤ w.length) : ∀ x ∈ cutL w (some 1) none ++ cutL w none (some 1), 0 ≤ x ∧ x < (m : Int) := by
  intro x hx
  rw [cut_hi (by decide) (by omega), cut_lo (by decide) (by omega)] at hx
  rcases List.mem_append.mp hx with hx | hx
  · exact h x (List.mem_of_mem_drop hx)
  · exact h x (List.mem_of_mem_take hx)
theorem all8b {m : Nat} {h r : Int} (hm : (m : Int) = h) (hr : 0 ≤ r) : ∀ v ∈ ([V.int h, V.int (h + r), V.int (-1), V.int (-1 - r), V.bl true, V.bl false, V.non, V.str "0"] : List V), wordPart m v = false := by
  intro v hv
  rcases List.mem_cons.mp hv with rfl | hv
  · exact wp_big (by omega)
  rcases List.mem_cons.mp hv with rfl | hv
  · exact wp_big (by omega)
  rcases List.mem_cons.mp hv with rfl | hv
  · exact wp_neg (by omega)
  rcases List.mem_cons.mp hv with rfl | hv
  · exact wp_neg (by omega)
  rcases List.mem_cons.mp hv with rfl | hv
  · rfl
  rcases List.mem_cons.mp hv with rfl | hv
  · rfl
  rcases List.mem_cons.mp hv with rfl | hv
  · rfl
  rcases List.mem_cons.mp hv with rfl | hv
  · rfl
  cases hv
theorem isWordV_self {m : Nat} {w : List V} (h : isWordV m w (w.length : Int) = false) (n : Int) : isWordV m w n = false := by
  unfold isWordV at *
  rw [decide_eq_true rfl, Bool.true_and] at h
  rw [h, Bool.and_false]
theorem mod33 (c : Int) : (0 : Int) < ([59, 10] : List Int).getD (Int.toNat (min 1 (c % 8))) 0 := by
  by_cases h : c % 8 = 0
  · rw [h]; decide
  · rw [show min 1 (c % 8) = 1 by omega]; decide
theorem nn33 (c : Int) : 1 ≤ 1 + c / 8 % ([59, 10] : List Int).getD (Int.toNat (min 1 (c % 8))) 0 ∧ 1 + c / 8 % ([59, 10] : List Int).getD (Int.toNat (min 1 (c % 8))) 0 ≤ 60 := by
  have h1 := mod33 c
  have h2 := Int.emod_nonneg (c / 8) (show ([59, 10] : List Int).getD (Int.toNat (min 1 (c % 8))) 0 ≠ 0 by omega)
  have h3 := Int.emod_lt_of_pos (c / 8) h1
  have h4 : ([59, 10] : List Int).getD (Int.toNat (min 1 (c % 8))) 0 ≤ 59 := by
    by_cases h : c % 8 = 0
    · rw [h]; decide
    · rw [show min 1 (c % 8) = 1 by omega]; decide
  omega
end Rc
namespace Rc
/-- the later word of a joined one; the earlier one -/
def partAt (ms os : List Bool) (x : Int) : Int := turnedI ms os (x / (os.length : Int)) (x % (os.length : Int))
def partM (ms os : List Bool) (w : List Int) : List Int := w.map (partAt ms os)
def heapsW (os : List Bool) (w : List Int) : List Int := w.map fun x => x / (os.length : Int)
def partE (ms os : List Bool) (w : List Int) : List Int := undoneI (heapsW os w) os (partM ms os w)
section
variable {ms os : List Bool} {w more : List Int}
@[simp] theorem partM_length : (partM ms os w).length = w.length := by simp [partM]
@[simp] theorem heapsW_length : (heapsW os w).length = w.length := by simp [heapsW]
@[simp] theorem partE_length : (partE ms os w).length = w.length := by simp [partE]
theorem os_pos (hm : IsW os.length more) (h : 0 < more.length) : 0 < os.length := by
  cases more with
  | nil => simp at h
  | cons x l => have := hm x List.mem_cons_self; omega
theorem split_bd {G x : Int} {M : Nat} (hG : 0 < G) (h0 : 0 ≤ x) (h1 : x < (M : Int) * G) : 0 ≤ x / G ∧ x / G < M ∧ 0 ≤ x % G ∧ x % G < G :=
  ⟨Int.ediv_nonneg h0 (by omega), Int.ediv_lt_of_lt_mul hG h1, Int.emod_nonneg _ (by omega), Int.emod_lt_of_pos _ hG⟩
theorem joined_len_of (hw : IsW (joinedM ms os).length w) (h : 0 < w.length) : 0 < os.length := by
  cases w with
  | nil => simp at h
  | cons x l =>
    have := hw x List.mem_cons_self
    have e : (joinedM ms os).length = ms.length * os.length := by unfold joinedM; rw [joinedTo_length]
    rw [e] at this
    by_cases hz : os.length = 0
    · rw [hz, Nat.mul_zero] at this; omega
    · omega
theorem part_bd (hw : IsW (joinedM ms os).length w) {x : Int} (hx : x ∈ w) : 0 ≤ x / (os.length : Int) ∧ x / (os.length : Int) < ms.length ∧ 0 ≤ x % (os.length : Int) ∧ x % (os.length : Int) < os.length := by
  have hp : 0 < os.length := joined_len_of hw (List.length_pos_of_mem hx)
  have := hw x hx
  have e : (joinedM ms os).length = ms.length * os.length := by unfold joinedM; rw [joinedTo_length]
  rw [e] at this
  push_cast at this
  exact split_bd (by omega) this.1 this.2
theorem partM_isW (hw : IsW (joinedM ms os).length w) : IsW os.length (partM ms os w) := fun y hy => by
  obtain ⟨x, hx, rfl⟩ := List.mem_map.mp hy
  have b := part_bd hw hx
  exact turnedI_bd _ _ _ _ b.2.2.1 b.2.2.2
theorem heapsW_isW (hw : IsW (joinedM ms os).length w) : IsW ms.length (heapsW os w) := fun y hy => by
  obtain ⟨x, hx, rfl⟩ := List.mem_map.mp hy
  have b := part_bd hw hx
  exact ⟨b.1, b.2.1⟩
theorem isW_laid {m : Nat} {a p : List Int} (ha : IsW m a) (hp : ∀ x ∈ p, 0 ≤ x ∧ x < (a.length : Int)) : IsW m (laidI a p) := fun y hy => by
  obtain ⟨x, hx, rfl⟩ := List.mem_map.mp hy
  have := hp x hx
  exact ha.at (getElem?_getD (0 : Int) (show x.toNat < a.length by omega))
theorem partE_isW (hw : IsW (joinedM ms os).length w) : IsW ms.length (partE ms os w) := by
  have ho : IsOrd (placesI (numI os (partM ms os w))) := isOrd_placesI (isOrd_numI os (partM_isW hw))
  refine isW_laid (heapsW_isW hw) (ord_bd ho ?_)
  simp
theorem riff_both (h : j < more.length) : (riffleI w os more).getD j 0 = w.getD (numAt os more j).toNat 0 := by
  unfold riffleI laidI numI
  rw [List.getD_eq_getElem?_getD]; simp [h]
theorem list_ext {a b : List Int} (hl : a.length = b.length) (h : ∀ i, i < a.length → a.getD i 0 = b.getD i 0) : a = b := by
  apply List.ext_getElem hl
  intro i h1 h2
  have := h i h1
  rw [List.getD_eq_getElem?_getD, List.getD_eq_getElem?_getD, List.getElem?_eq_getElem h1, List.getElem?_eq_getElem h2] at this
  exact this
theorem map_getD {f : Int → Int} {a : List Int} {i : Nat} (h : i < a.length) : (a.map f).getD i 0 = f (a.getD i 0) := by
  rw [List.getD_eq_getElem?_getD, List.getD_eq_getElem?_getD, List.getElem?_map, List.getElem?_eq_getElem h]; rfl
theorem both_split (hw : IsW ms.length w) (hm : IsW os.length more) (hl : w.length = more.length) {j : Nat} (hj : j < more.length) :
    bothAt ms w os more j / (os.length : Int) = w.getD (numAt os more j).toNat 0 ∧ bothAt ms w os more j % (os.length : Int) = turnedI ms os (w.getD (numAt os more j).toNat 0) (more.getD j 0) := by
  have b := both_bd hw hm hl hj
  have t := turnedI_bd ms os (w.getD (numAt os more j).toNat 0) (more.getD j 0) b.2.2.2.2.1 b.2.2.2.2.2
  unfold bothAt
  have hG : (0 : Int) < os.length := by omega
  rw [Int.add_comm]
  refine ⟨?_, ?_⟩
  · rw [Int.add_mul_ediv_right _ _ (by omega), Int.ediv_eq_zero_of_lt t.1 t.2]; omega
  · rw [Int.add_mul_emod_self_right, Int.emod_eq_of_lt t.1 t.2]
/-- parted behind joined -/
theorem partM_both (hw : IsW ms.length w) (hm : IsW os.length more) (hl : w.length = more.length) : partM ms os (bothW ms w os more) = more := by
  refine list_ext (by simp) fun j hj => ?_
  have hj' : j < more.length := by simpa using hj
  unfold partM
  rw [map_getD (by simpa using hj'), bothW_getD hj']
  unfold partAt
  have s := both_split hw hm hl hj'
  have b := both_bd hw hm hl hj'
  rw [s.1, s.2, turned_turned ⟨b.2.2.2.2.1, b.2.2.2.2.2⟩]
theorem heapsW_both (hw : IsW ms.length w) (hm : IsW os.length more) (hl : w.length = more.length) : heapsW os (bothW ms w os more) = riffleI w os more := by
  refine list_ext (by simp) fun j hj => ?_
  have hj' : j < more.length := by simpa using hj
  unfold heapsW
  rw [map_getD (by simpa using hj'), bothW_getD hj', (both_split hw hm hl hj').1, riff_both hj']
theorem partE_both (hw : IsW ms.length w) (hm : IsW os.length more) (hl : w.length = more.length) : partE ms os (bothW ms w os more) = w := by
  unfold partE
  rw [partM_both hw hm hl, heapsW_both hw hm hl]
  exact undone_riffle hm hl
/-- joined behind parted -/
theorem both_part (hw : IsW (joinedM ms os).length w) : bothW ms (partE ms os w) os (partM ms os w) = w := by
  refine list_ext (by simp) fun j hj => ?_
  have hj' : j < (partM ms os w).length := by simpa using hj
  have hjw : j < w.length := by simpa using hj
  rw [bothW_getD hj']
  unfold bothAt
  rw [← riff_both hj']
  have e : riffleI (partE ms os w) os (partM ms os w) = heapsW os w := riffle_undone (partM_isW hw) (by simp)
  rw [e]
  have hx := List.mem_of_getElem? (getElem?_getD (0 : Int) hjw)
  have b := part_bd hw hx
  have e1 : (heapsW os w).getD j 0 = w.getD j 0 / (os.length : Int) := by unfold heapsW; rw [map_getD hjw]
  have e2 : (partM ms os w).getD j 0 = partAt ms os (w.getD j 0) := by unfold partM; rw [map_getD hjw]
  rw [e1, e2]
  unfold partAt
  rw [turned_turned ⟨b.2.2.1, b.2.2.2⟩]
  have := Int.mul_ediv_add_emod (w.getD j 0) (os.length : Int)
  rw [Int.mul_comm] at this
  exact this
end
/-- one turn of the loops -/
theorem partM_next {ms os : List Bool} {w : List Int} {i : Nat} {x : Int} (e : w[i]? = some x) : (w.take i).map (partAt ms os) ++ [turnedI ms os (x / (os.length : Int)) (x % (os.length : Int))] = (w.take (i + 1)).map (partAt ms os) := by
  rw [take_nxt e, List.map_append]; rfl
theorem partE_zero {ms os : List Bool} {w : List Int} : List.replicate w.length (0 : Int) = undoTo (heapsW os w) (numI os (partM ms os w)) 0 := by
  rw [← undoTo_zero]; unfold heapsW; rw [List.map_map]; exact (List.map_const' ..).symm
theorem partE_next {ms os : List Bool} {w : List Int} {i : Nat} {x y : Int} (hw : IsW (joinedM ms os).length w) (e : w[i]? = some x) (e2 : (numI os (partM ms os w))[i]? = some y) :
    (undoTo (heapsW os w) (numI os (partM ms os w)) i).set y.toNat (x / (os.length : Int)) = undoTo (heapsW os w) (numI os (partM ms os w)) (i + 1) :=
  undoTo_next (isOrd_numI os (partM_isW hw)) (by simp) (by unfold heapsW; rw [List.getElem?_map, e]; rfl) e2
theorem partE_all {ms os : List Bool} {w : List Int} {n : Nat} (hw : IsW (joinedM ms os).length w) (hn : n = w.length) : undoTo (heapsW os w) (numI os (partM ms os w)) n = partE ms os w := by
  have := undoTo_all (o := heapsW os w) (isOrd_numI os (partM_isW hw)) (by simp)
  subst hn
  rw [show min (heapsW os w).length (numI os (partM ms os w)).length = w.length by simp] at this
  exact this
theorem riff_num {os : List Bool} {m : List Int} {n : Nat} (hm : IsW os.length m) (hl : m.length = n) : riffleI (upto n) os m = numI os m := riff_first hm hl
theorem joinedM_len (ms os : List Bool) : (joinedM ms os).length = ms.length * os.length := by unfold joinedM; rw [joinedTo_length]
end Rc
namespace Rc
/-! all words, and how many of them lead to an order -/
def allTo (m : Nat) (l : List (List Int)) (i : Nat) : List (List Int) := (l.take i).flatMap fun w => (List.range m).map fun h : Nat => w ++ [(h : Int)]
def allW (m : Nat) : Nat → List (List Int)
  | 0 => [[]]
  | n + 1 => (allW m n).flatMap fun w => (List.range m).map fun h : Nat => w ++ [(h : Int)]
theorem allTo_all (m : Nat) (n : Nat) : allTo m (allW m n) (allW m n).length = allW m (n + 1) := by unfold allTo; rw [List.take_length]; rfl
theorem allTo_next {m : Nat} {l : List (List Int)} {i : Nat} {w : List Int} (e : l[i]? = some w) : allTo m l i ++ (List.range m).map (fun h : Nat => w ++ [(h : Int)]) = allTo m l (i + 1) := by
  unfold allTo; rw [take_nxt e, List.flatMap_append]; simp
theorem mem_allW {m : Nat} : ∀ {n : Nat} {w : List Int}, w ∈ allW m n ↔ w.length = n ∧ IsW m w
  | 0, w => by
    constructor
    · intro h; rw [List.mem_singleton.mp h]; exact ⟨rfl, IsW.nil _⟩
    · intro h; rw [List.eq_nil_of_length_eq_zero h.1]; exact List.mem_singleton.mpr rfl
  | n + 1, w => by
    show w ∈ (allW m n).flatMap _ ↔ _
    rw [List.mem_flatMap]
    constructor
    · rintro ⟨u, hu, hw⟩
      obtain ⟨h, hh, rfl⟩ := List.mem_map.mp hw
      have := mem_allW.mp hu
      have hr := List.mem_range.mp hh
      exact ⟨by rw [List.length_append, this.1]; rfl, this.2.app (by omega) (by omega)⟩
    · intro h
      have hne : w ≠ [] := fun e => by rw [e] at h; exact absurd h.1 (by simp)
      have e := List.dropLast_concat_getLast hne
      have hl := h.2 _ (List.getLast_mem hne)
      refine ⟨w.dropLast, mem_allW.mpr ⟨by rw [List.length_dropLast, h.1]; rfl, fun x hx => h.2 x (List.dropLast_subset _ hx)⟩, List.mem_map.mpr ⟨(w.getLast hne).toNat, List.mem_range.mpr (by omega), ?_⟩⟩
      show w.dropLast ++ [(((w.getLast hne).toNat : Nat) : Int)] = w
      rw [show (((w.getLast hne).toNat : Nat) : Int) = w.getLast hne by omega]; exact e
theorem nodup_map_on {α β : Type} {f : α → β} {l : List α} (h : l.Nodup) (hi : ∀ a ∈ l, ∀ b ∈ l, f a = f b → a = b) : (l.map f).Nodup := by
  refine List.pairwise_map.mpr (List.Pairwise.imp_of_mem (fun {a b} ha hb hab e => hab (hi a ha b hb e)) h)
theorem allW_nodup (m : Nat) : ∀ n : Nat, (allW m n).Nodup
  | 0 => List.nodup_cons.mpr ⟨(fun h => nomatch h), List.nodup_nil⟩
  | n + 1 => by
    show ((allW m n).flatMap _).Nodup
    refine List.pairwise_flatMap.mpr ⟨fun w _ => ?_, ?_⟩
    · refine nodup_map_on List.nodup_range fun a _ b _ e => ?_
      have := List.append_cancel_left e
      have := List.head_eq_of_cons_eq this
      omega
    · refine List.Pairwise.imp (fun {a b} hab x hx y hy e => ?_) (allW_nodup m n)
      obtain ⟨h, _, rfl⟩ := List.mem_map.mp hx
      obtain ⟨h', _, rfl⟩ := List.mem_map.mp hy
      exact hab (List.append_inj_left' e rfl)
theorem flatMap_len {α β : Type} {f : α → List β} {k : Nat} : ∀ {l : List α}, (∀ a ∈ l, (f a).length = k) → (l.flatMap f).length = l.length * k
  | [], _ => by simp
  | a :: l, h => by
    rw [List.flatMap_cons, List.length_append, h a List.mem_cons_self, flatMap_len fun b hb => h b (List.mem_cons_of_mem _ hb), List.length_cons, Nat.succ_mul, Nat.add_comm]
theorem allW_length (m : Nat) : ∀ n, (allW m n).length = m ^ n
  | 0 => rfl
  | n + 1 => by
    show ((allW m n).flatMap _).length = _
    rw [flatMap_len (k := m) fun w _ => by rw [List.length_map, List.length_range], allW_length m n, Nat.pow_succ]
theorem allTo_length {m : Nat} {l : List (List Int)} {i : Nat} (h : i ≤ l.length) : (allTo m l i).length = i * m := by
  unfold allTo
  rw [flatMap_len (k := m) fun w _ => by rw [List.length_map, List.length_range], List.length_take, Nat.min_eq_left h]
theorem allW_le {m n : Nat} (hm : m ≤ 4) (hn : n ≤ 5) : (allW m n).length ≤ 1024 := by
  rw [allW_length]
  have h1 : m ^ n ≤ 4 ^ n := Nat.pow_le_pow_left hm n
  have h2 : 4 ^ n ≤ 4 ^ 5 := Nat.pow_le_pow_right (by decide) hn
  exact Nat.le_trans h1 (Nat.le_trans h2 (by decide))
/-- as many words lead to an order as it has ways -/
theorem count_ways {o : List Int} {ms : List Bool} {n : Nat} (ho : IsOrd o) (hl : o.length = n) (h1 : 1 ≤ n) : ((((allW ms.length n).filter fun w => decide (riffleI (upto n) ms w = o)).length : Nat) : Int) = howI o ms := by
  subst hl
  have inF : ∀ {w}, w ∈ ((allW ms.length o.length).filter fun w => decide (riffleI (upto o.length) ms w = o)) ↔ (w.length = o.length ∧ IsW ms.length w) ∧ riffleI (upto o.length) ms w = o := fun {w} => by
    rw [List.mem_filter, mem_allW, decide_eq_true_eq]
  generalize hF : ((allW ms.length o.length).filter fun w => decide (riffleI (upto o.length) ms w = o)) = F at *
  have wb : ∀ w ∈ F, 0 ≤ numTo' o ms (heapsOf ms.length w) o.length ∧ numTo' o ms (heapsOf ms.length w) o.length < howI o ms ∧ wayI o ms (numTo' o ms (heapsOf ms.length w) o.length) = w := fun w hw => by
    have h := inF.mp hw
    exact way_back (by omega) h.1.2 (by rw [h.1.1]; exact h.2)
  have nd : (F.map fun w => numTo' o ms (heapsOf ms.length w) o.length).Nodup := by
    refine nodup_map_on (hF ▸ (allW_nodup _ _).filter _) fun a ha b hb e => ?_
    rw [← (wb a ha).2.2, e, (wb b hb).2.2]
  have hn : 0 ≤ howI o ms := by
    by_cases h : 0 ≤ howI o ms
    · exact h
    · rw [← first_sum] at h ⊢
      unfold sumOf
      have : ∀ l : List Int, 0 ≤ (l.map fun x => (goAt o ms 0).getD x.toNat 0).sum := by
        intro l
        induction l with
        | nil => exact Int.le_refl 0
        | cons x l ih => rw [List.map_cons, List.sum_cons]; have := goAt_nonneg o ms 0 x.toNat; omega
      exact this _
  have pm : (F.map fun w => numTo' o ms (heapsOf ms.length w) o.length).Perm (upto (howI o ms).toNat) := by
    refine (List.perm_ext_iff_of_nodup nd (upto_nodup _)).mpr fun k => ?_
    rw [mem_upto, List.mem_map]
    constructor
    · rintro ⟨w, hw, rfl⟩
      have := wb w hw
      omega
    · rintro ⟨k0, k1⟩
      have wn := way_num (ms := ms) (k := k) ho h1 k0 (by omega)
      exact ⟨wayI o ms k, inF.mpr ⟨⟨wn.2.1, wn.1⟩, wn.2.2.1⟩, wn.2.2.2⟩
  have := pm.length_eq
  rw [List.length_map, upto_length] at this
  omega
/-- two riffles: all pairs of words -/
def ledL (n : Nat) (ms os : List Bool) : List (List Int) := (allW ms.length n).flatMap fun w => (allW os.length n).map fun v => riffleI (riffleI (upto n) ms w) os v
def pairW (n : Nat) (ms os : List Bool) : List (List Int) := (allW ms.length n).flatMap fun w => (allW os.length n).map fun v => bothW ms w os v
theorem bothW_len (ms : List Bool) (w : List Int) (os : List Bool) (v : List Int) : (bothW ms w os v).length = v.length := by simp [bothW, bothTo]
theorem pairW_perm (n : Nat) (ms os : List Bool) : (pairW n ms os).Perm (allW (joinedM ms os).length n) := by
  refine (List.perm_ext_iff_of_nodup ?_ (allW_nodup _ _)).mpr fun x => ?_
  · refine List.pairwise_flatMap.mpr ⟨fun w hw => ?_, List.Pairwise.imp_of_mem (fun {a b} ha hb hab x hx y hy e => ?_) (allW_nodup _ _)⟩
    · refine nodup_map_on (allW_nodup _ _) fun a ha b hb e => ?_
      have hw := mem_allW.mp hw
      have ha := mem_allW.mp ha
      have hb := mem_allW.mp hb
      rw [← partM_both hw.2 ha.2 (by rw [hw.1, ha.1]), e, partM_both hw.2 hb.2 (by rw [hw.1, hb.1])]
    · obtain ⟨v, hv, rfl⟩ := List.mem_map.mp hx
      obtain ⟨u, hu, rfl⟩ := List.mem_map.mp hy
      have ha := mem_allW.mp ha
      have hb := mem_allW.mp hb
      have hv := mem_allW.mp hv
      have hu := mem_allW.mp hu
      apply hab
      rw [← partE_both ha.2 hv.2 (by rw [ha.1, hv.1]), e, partE_both hb.2 hu.2 (by rw [hb.1, hu.1])]
  · unfold pairW
    rw [List.mem_flatMap, mem_allW]
    constructor
    · rintro ⟨w, hw, hx⟩
      obtain ⟨v, hv, rfl⟩ := List.mem_map.mp hx
      have hw := mem_allW.mp hw
      have hv := mem_allW.mp hv
      exact ⟨by rw [bothW_len, hv.1], bothW_isW hw.2 hv.2 (by rw [hw.1, hv.1])⟩
    · intro h
      have hb := both_part h.2
      refine ⟨partE ms os x, mem_allW.mpr ⟨?_, partE_isW h.2⟩, List.mem_map.mpr ⟨partM ms os x, mem_allW.mpr ⟨?_, partM_isW h.2⟩, hb⟩⟩
      · show (undoneI _ _ _).length = n
        simp [undoneI, laidI, heapsW, partM, h.1]
      · unfold partM; rw [List.length_map, h.1]
theorem count_map_perm {α : Type} {o : List Int} {f : α → List Int} {l l' : List α} (h : l.Perm l') : (l.map f).count o = (l'.filter fun x => decide (f x = o)).length := by
  rw [(h.map f).count_eq]
  clear h
  induction l' with
  | nil => rfl
  | cons x l ih =>
    rw [List.map_cons, List.count_cons, ih, List.filter_cons]
    by_cases e : f x = o
    · rw [decide_eq_true e, if_pos rfl, if_pos (by rw [e]; exact beq_self_eq_true o), List.length_cons]
    · rw [decide_eq_false e, if_neg Bool.false_ne_true, if_neg (by rw [beq_eq_false_iff_ne.mpr e]; exact Bool.false_ne_true), Nat.add_zero]
theorem led_count {o : List Int} {ms os : List Bool} {n : Nat} (ho : IsOrd o) (hl : o.length = n) (h1 : 1 ≤ n) : (((ledL n ms os).count o : Nat) : Int) = howI o (joinedM ms os) := by
  have e : ledL n ms os = (pairW n ms os).map (riffleI (upto n) (joinedM ms os)) := by
    unfold ledL pairW
    rw [List.map_flatMap]
    rw [List.flatMap_def, List.flatMap_def]
    refine congrArg List.flatten (List.map_congr_left fun w hw => ?_)
    rw [List.map_map]
    refine List.map_congr_left fun v hv => ?_
    have hw := mem_allW.mp hw
    have hv := mem_allW.mp hv
    exact (riffle_joined hw.2 hv.2 (by rw [hw.1, hv.1]) (by rw [hw.1, upto_length])).symm
  rw [e, count_map_perm (pairW_perm n ms os), count_ways ho hl h1]
def ledTo (n : Nat) (ms os : List Bool) (i : Nat) : List (List Int) := ((allW ms.length n).take i).flatMap fun w => (allW os.length n).map (riffleI (riffleI (upto n) ms w) os)
theorem ledTo_next {n : Nat} {ms os : List Bool} {i : Nat} {w : List Int} (e : (allW ms.length n)[i]? = some w) :
    ledTo n ms os i ++ ((allW os.length n).take (allW os.length n).length).map (riffleI (riffleI (upto n) ms w) os) = ledTo n ms os (i + 1) := by
  unfold ledTo; rw [take_nxt e, List.flatMap_append, List.take_length]; simp
theorem ledTo_all (n : Nat) (ms os : List Bool) : ledTo n ms os (allW ms.length n).length = ledL n ms os := by
  unfold ledTo ledL; rw [List.take_length]
theorem joined_plain {ms os : List Bool} (h : (ms ++ os).contains true = false) : ∀ k, k < (joinedM ms os).length → (joinedM ms os).getD k false = false := by
  intro k hk
  rw [joinedM_len] at hk
  have hg : 0 < os.length := by
    rcases Nat.eq_zero_or_pos os.length with e | e
    · rw [e, Nat.mul_zero] at hk; omega
    · exact e
  have hno : ∀ b ∈ ms ++ os, b = false := fun b hb => by
    cases b with
    | false => rfl
    | true =>
      have : (ms ++ os).contains true = true := List.contains_iff_mem.mpr hb
      rw [h] at this; cases this
  have hm : ∀ j, ms.getD j false = false := fun j => by
    rw [List.getD_eq_getElem?_getD]
    cases e : ms[j]? with
    | none => rfl
    | some b => exact hno b (List.mem_append_left _ (List.mem_of_getElem? e))
  have ho : ∀ j, os.getD j false = false := fun j => by
    rw [List.getD_eq_getElem?_getD]
    cases e : os[j]? with
    | none => rfl
    | some b => exact hno b (List.mem_append_right _ (List.mem_of_getElem? e))
  have e : k = k / os.length * os.length + k % os.length := by rw [Nat.mul_comm]; exact (Nat.div_add_mod k os.length).symm
  rw [e, joinedM_getD ((Nat.div_lt_iff_lt_mul hg).mpr hk) (Nat.mod_lt _ hg), hm, ho]; rfl
theorem plain_led {o : List Int} {ms os : List Bool} {n : Nat} (ho : IsOrd o) (hl : o.length = n) (h1 : 1 ≤ n) (h : (ms ++ os).contains true = false) :
    chooseZ ((ms.length : Int) * (os.length : Int) + (o.length : Int) - (runsI o : Int)) (o.length : Int) = (((ledL n ms os).count o : Nat) : Int) := by
  rw [led_count ho hl h1, how_false ho (by omega) (joined_plain h), joinedM_len]; push_cast; rfl
end Rc
namespace Rc
open PySem PySem.W
/-! laid_by: card k goes to the place spots[k]; the row of falls over all words -/
theorem sortPl_perm (word : List Int) : (sortPl word).Perm (upto word.length) := List.mergeSort_perm _ _
theorem sortPl_length (word : List Int) : (sortPl word).length = word.length := by rw [(sortPl_perm word).length_eq, upto_length]
theorem sortPl_at {word : List Int} {k : Nat} (h : k < word.length) : 0 ≤ (sortPl word).getD k 0 ∧ (sortPl word).getD k 0 < word.length := by
  have hk : k < (sortPl word).length := by rw [sortPl_length]; exact h
  rw [List.getD_eq_getElem?_getD, List.getElem?_eq_getElem hk, Option.getD_some]
  exact mem_upto.mp ((sortPl_perm word).mem_iff.mp (List.getElem_mem hk))
def laidTo (order spots : List Int) : Nat → List Int
  | 0 => order
  | i + 1 => (laidTo order spots i).set (Int.toNat (spots.getD i 0)) (order.getD i 0)
theorem laidTo_length (order spots : List Int) : ∀ i, (laidTo order spots i).length = order.length
  | 0 => rfl
  | i + 1 => by rw [laidTo, List.length_set, laidTo_length order spots i]
def laidW (order word : List Int) : List Int := laidTo order (sortPl word) word.length
theorem laidW_length (order word : List Int) : (laidW order word).length = order.length := laidTo_length ..
/-- the lowest n digits of x to the base b, the lowest first -/
def digTo (b x : Int) : Nat → List Int
  | 0 => []
  | i + 1 => digTo b x i ++ [x / b ^ i % b]
theorem digTo_length (b x : Int) : ∀ n, (digTo b x n).length = n
  | 0 => rfl
  | n + 1 => by rw [digTo, List.length_append, digTo_length b x n]; rfl
theorem digTo_bd {b x : Int} (hb : 1 ≤ b) : ∀ n, ∀ d ∈ digTo b x n, 0 ≤ d ∧ d < b
  | 0, d, h => by cases h
  | n + 1, d, h => by
    rw [digTo, List.mem_append] at h
    rcases h with h | h
    · exact digTo_bd hb n d h
    · rw [List.mem_singleton.mp h]
      exact ⟨Int.emod_nonneg _ (by omega), Int.emod_lt_of_pos _ (by omega)⟩
theorem div_pow_succ {b x : Int} (hb : 1 ≤ b) (i : Nat) : x / b ^ i / b = x / b ^ (i + 1) := by
  rw [Int.pow_succ, Int.ediv_ediv_of_nonneg (Int.pow_nonneg (by omega))]
def bump (row : List Int) (f : Nat) : List Int := row.set f (row.getD f 0 + 1)
theorem bump_length (row : List Int) (f : Nat) : (bump row f).length = row.length := List.length_set ..
/-- the row of falls when the first i words are done -/
def rowL (order : List Int) (b : Int) : Nat → List Int
  | 0 => order.map fun _ => 0
  | i + 1 => bump (rowL order b i) (fallsI (laidW order (digTo b (i : Int) order.length)))
theorem rowL_length (order : List Int) (b : Int) : ∀ i, (rowL order b i).length = order.length
  | 0 => List.length_map _
  | i + 1 => by rw [rowL, bump_length, rowL_length order b i]
theorem bump_sum : ∀ {row : List Int} {f : Nat}, f < row.length → (bump row f).sum = row.sum + 1
  | x :: r, 0, _ => by simp [bump]; omega
  | x :: r, f + 1, h => by
    have := bump_sum (row := r) (f := f) (by simpa using h)
    simp only [bump, List.set_cons_succ, List.getD_cons_succ, List.sum_cons] at this ⊢
    omega
theorem fallsI_lt' {o : List Int} (h1 : 1 ≤ o.length) : fallsI o < o.length := by
  have e := fallsI_eq o
  have := List.length_filter_le (fun i : Nat => decide (o.getD (Int.toNat ((i : Int) + 1)) 0 < o.getD (Int.toNat (i : Int)) 0)) (List.range (Int.toNat ((o.length : Int) - 1)))
  rw [List.length_range, e] at this
  omega
theorem rowL_sum {order : List Int} {b : Int} (h1 : 1 ≤ order.length) : ∀ i, (rowL order b i).sum = (i : Int)
  | 0 => by
    show (order.map fun _ => (0 : Int)).sum = 0
    clear h1
    induction order with
    | nil => rfl
    | cons x r ih => rw [List.map_cons, List.sum_cons, ih]; rfl
  | i + 1 => by
    have hf := fallsI_lt' (o := laidW order (digTo b (i : Int) order.length)) (by rw [laidW_length]; exact h1)
    rw [laidW_length] at hf
    rw [rowL, bump_sum (by rw [rowL_length]; exact hf), rowL_sum h1 i]
    push_cast
    rfl
theorem pow_mono {b : Int} (hb : 1 ≤ b) {i n : Nat} (h : i ≤ n) : b ^ i ≤ b ^ n := by
  obtain ⟨k, rfl⟩ := Nat.exists_eq_add_of_le h
  rw [Int.pow_add]
  have h1 : 1 ≤ b ^ k := Int.pow_pos (by omega)
  have h2 : 0 ≤ b ^ i := Int.pow_nonneg (by omega)
  calc b ^ i = b ^ i * 1 := (Int.mul_one _).symm
    _ ≤ b ^ i * b ^ k := Int.mul_le_mul_of_nonneg_left h1 h2
theorem base_mono {b c : Int} (h0 : 0 ≤ c) (h : c ≤ b) : ∀ n : Nat, c ^ n ≤ b ^ n
  | 0 => by rw [Int.pow_zero, Int.pow_zero]; exact Int.le_refl _
  | n + 1 => by
    rw [Int.pow_succ, Int.pow_succ]
    exact Int.mul_le_mul (base_mono h0 h n) h h0 (Int.pow_nonneg (by omega))
theorem most_six {n : Int} (h : 1 ≤ n ∧ n ≤ 6) : n = 1 ∨ n = 2 ∨ n = 3 ∨ n = 4 ∨ n = 5 ∨ n = 6 := by omega
theorem most_bd {n : Int} (h : 1 ≤ n ∧ n ≤ 6) : 4 ≤ ([4096, 64, 16, 8, 5, 4] : List Int).getD (Int.toNat (n - 1)) 0 ∧ ([4096, 64, 16, 8, 5, 4] : List Int).getD (Int.toNat (n - 1)) 0 ≤ 4096 := by
  rcases most_six h with rfl | rfl | rfl | rfl | rfl | rfl <;> decide
theorem most_over {n b : Int} {k : Nat} (h : 1 ≤ n ∧ n ≤ 6) (hk : (k : Int) = n) (hb : ([4096, 64, 16, 8, 5, 4] : List Int).getD (Int.toNat (n - 1)) 0 + 1 ≤ b) : 4096 < b ^ k := by
  have e : k = Int.toNat n := by omega
  subst e
  refine Int.lt_of_lt_of_le ?_ (base_mono (by have := most_bd h; omega) hb _)
  rcases most_six h with rfl | rfl | rfl | rfl | rfl | rfl <;> decide
theorem most_told {n : Int} {k : Nat} (h : 3 ≤ n ∧ n ≤ 6) (hk : (k : Int) = n) : ([4096, 64, 16, 8, 5, 4] : List Int).getD (Int.toNat (n - 1)) 0 ^ k = ([4096, 4096, 3125, 4096] : List Int).getD (Int.toNat (n - 3)) 0 ∧ ([4096, 4096, 3125, 4096] : List Int).getD (Int.toNat (n - 3)) 0 ≤ 4096 := by
  have e : k = Int.toNat n := by omega
  subst e
  rcases (show n = 3 ∨ n = 4 ∨ n = 5 ∨ n = 6 by omega) with rfl | rfl | rfl | rfl <;> decide
end Rc
namespace Rc
open PySem PySem.W
/-! a word laid by sorting is the riffle of plain heaps -/
def plainMs (b : Nat) : List Bool := List.replicate b false
theorem plainMs_at (b h : Nat) : (plainMs b).getD h false = false := by
  unfold plainMs
  rw [List.getD_eq_getElem?_getD]
  by_cases hh : h < b
  · rw [List.getElem?_replicate, if_pos hh]; rfl
  · rw [List.getElem?_eq_none (by rw [List.length_replicate]; omega)]; rfl
theorem numAt_plain (b : Nat) (w : List Int) (j : Nat) : numAt (plainMs b) w j = (startI w (w.getD j 0).toNat : Int) + cntI w j := by
  unfold numAt topI
  rw [if_neg (by rw [plainMs_at]; exact Bool.false_ne_true)]
theorem num_mono {b : Nat} {w : List Int} (hw : IsW b w) {p q : Nat} (hp : p < w.length) (hq : q < w.length) (h : w.getD p 0 < w.getD q 0 ∨ (w.getD p 0 = w.getD q 0 ∧ p < q)) : numAt (plainMs b) w p < numAt (plainMs b) w q := by
  rw [numAt_plain, numAt_plain]
  have ep := getElem?_getD 0 hp
  have eq := getElem?_getD 0 hq
  have bp := hw.at ep
  have bq := hw.at eq
  have cp := cnt_lt ep
  rcases h with h | ⟨h1, h2⟩
  · have := startI_lt (w := w) (h := (w.getD p 0).toNat) (h' := (w.getD q 0).toNat) (by omega)
    rw [show (((w.getD p 0).toNat : Nat) : Int) = w.getD p 0 by omega] at this
    unfold cntI
    omega
  · have h3 : (w.take (p + 1)).count (w.getD p 0) ≤ (w.take q).count (w.getD p 0) := by
      have : (w.take (p + 1)).Sublist (w.take q) := List.take_sublist_take_left (by omega)
      exact this.count_le _
    rw [take_nxt ep, List.count_append, List.count_singleton_self] at h3
    unfold cntI
    rw [h1] at *
    omega
theorem incr_len : ∀ {L : List Int} {a d : Int}, L.Pairwise (· < ·) → (∀ x ∈ L, a ≤ x ∧ x < d) → (L.length : Int) ≤ d - a ∨ L = []
  | [], _, _, _, _ => .inr rfl
  | x :: r, a, d, hp, hb => by
    have hx := hb x List.mem_cons_self
    have hp' := List.pairwise_cons.mp hp
    rcases incr_len (L := r) (a := x + 1) (d := d) hp'.2 (fun y hy => ⟨by have := hp'.1 y hy; omega, (hb y (List.mem_cons_of_mem _ hy)).2⟩) with h | h
    · left
      rw [List.length_cons]
      omega
    · subst h
      left
      simp
      omega
theorem incr_at : ∀ {L : List Int} {a : Int}, L.Pairwise (· < ·) → (∀ x ∈ L, a ≤ x ∧ x < a + L.length) → ∀ k, k < L.length → L.getD k 0 = a + k
  | [], _, _, _, k, hk => by simp at hk
  | x :: r, a, hp, hb, k, hk => by
    have hp' := List.pairwise_cons.mp hp
    have hx := hb x List.mem_cons_self
    have ex : x = a := by
      rcases incr_len (L := r) (a := x + 1) (d := a + (x :: r).length) hp'.2 (fun y hy => ⟨by have := hp'.1 y hy; omega, (hb y (List.mem_cons_of_mem _ hy)).2⟩) with h | h
      · rw [List.length_cons] at h
        omega
      · subst h
        simp at hx
        omega
    subst ex
    cases k with
    | zero => simp
    | succ k =>
      have := incr_at (L := r) (a := x + 1) hp'.2 (fun y hy => by
        have h1 := hp'.1 y hy
        have h2 := (hb y (List.mem_cons_of_mem _ hy)).2
        rw [List.length_cons] at h2
        omega) k (by simpa using hk)
      rw [List.getD_cons_succ, this]
      push_cast
      omega
theorem sortPl_nodup (w : List Int) : (sortPl w).Nodup := (sortPl_perm w).nodup_iff.mpr (upto_nodup _)
theorem sortPl_pw (w : List Int) : (sortPl w).Pairwise fun p q => (w.getD p.toNat 0 < w.getD q.toNat 0 ∨ (w.getD p.toNat 0 = w.getD q.toNat 0 ∧ p < q)) := by
  have h1 : (sortPl w).Pairwise fun p q => dataLe false (plKey w) p q = true := sort_pairwise (sortLe_total _ _ _) _
  have h2 := sortPl_nodup w
  rw [List.nodup_iff_pairwise_ne] at h2
  refine (h1.and h2).imp fun {p q} ⟨h, hne⟩ => ?_
  have e : dataLe false (plKey w) = fun p q => decide (w.getD p.toNat 0 < w.getD q.toNat 0 ∨ (w.getD p.toNat 0 = w.getD q.toNat 0 ∧ p ≤ q)) := dataLe_ii (fun i : Int => w.getD i.toNat 0) fun i => i
  rw [e] at h
  have h := of_decide_eq_true h
  omega
theorem num_spot {b : Nat} {w : List Int} (hw : IsW b w) {k : Nat} (hk : k < w.length) : numAt (plainMs b) w ((sortPl w).getD k 0).toNat = k := by
  have hpw := sortPl_pw w
  have hmem : ∀ p ∈ sortPl w, 0 ≤ p ∧ p < w.length := fun p hp => mem_upto.mp ((sortPl_perm w).mem_iff.mp hp)
  have hp : ((sortPl w).map fun p => numAt (plainMs b) w p.toNat).Pairwise (· < ·) := by
    rw [List.pairwise_map]
    refine List.Pairwise.imp_of_mem (fun {p q} hp hq h => ?_) hpw
    have h1 := hmem p hp
    have h2 := hmem q hq
    exact num_mono hw (by omega) (by omega) (by omega)
  have hl : ((sortPl w).map fun p => numAt (plainMs b) w p.toNat).length = w.length := by rw [List.length_map, sortPl_length]
  have := incr_at hp (a := 0) (fun x hx => by
    obtain ⟨p, hpm, rfl⟩ := List.mem_map.mp hx
    have h1 := hmem p hpm
    have h2 := numAt_bd (ms := plainMs b) hw (j := p.toNat) (by omega)
    rw [hl]
    omega) k (by rw [hl]; exact hk)
  have hk2 : k < (sortPl w).length := by rw [sortPl_length]; exact hk
  rw [List.getD_eq_getElem?_getD, List.getElem?_map, List.getElem?_eq_getElem hk2] at this
  rw [List.getD_eq_getElem?_getD, List.getElem?_eq_getElem hk2]
  simpa using this
theorem laidTo_at {o s : List Int} (hn : s.Nodup) (hl : s.length = o.length) (hb : ∀ p ∈ s, 0 ≤ p ∧ p < o.length) : ∀ (i : Nat), i ≤ s.length → ∀ j, j < i → (laidTo o s i).getD (s.getD j 0).toNat 0 = o.getD j 0
  | 0, _, j, hj => by omega
  | i + 1, hi, j, hj => by
    have ei := getElem?_getD (xs := s) 0 (show i < s.length by omega)
    have ej := getElem?_getD (xs := s) 0 (show j < s.length by omega)
    have bi := hb _ (List.mem_of_getElem? ei)
    have bj := hb _ (List.mem_of_getElem? ej)
    have hlen := laidTo_length o s i
    rw [laidTo, List.getD_eq_getElem?_getD]
    by_cases e : j = i
    · subst e
      rw [List.getElem?_set_self (by omega)]; rfl
    · have hne : (s.getD i 0).toNat ≠ (s.getD j 0).toNat := fun z => by
        have z2 : s.getD i 0 = s.getD j 0 := by omega
        rw [z2] at ei
        have := (List.getElem?_inj (i := i) (j := j) (by omega) hn).mp (ei.trans ej.symm)
        omega
      rw [List.getElem?_set_ne hne, ← List.getD_eq_getElem?_getD]
      exact laidTo_at hn hl hb i (by omega) j (by omega)
theorem laidW_riffle {b : Nat} {o w : List Int} (hw : IsW b w) (hl : o.length = w.length) : laidW o w = riffleI o (plainMs b) w := by
  have hr : (riffleI o (plainMs b) w).length = (laidW o w).length := by rw [riffleI_length, laidW_length, hl]
  refine List.ext_getElem? fun p => ?_
  by_cases hp : p < w.length
  · have hmem : (p : Int) ∈ sortPl w := (sortPl_perm w).mem_iff.mpr (mem_upto.mpr (by omega))
    obtain ⟨k, hk, ek⟩ := List.mem_iff_getElem.mp hmem
    rw [sortPl_length] at hk
    have eg : (sortPl w).getD k 0 = (p : Int) := by
      rw [List.getD_eq_getElem?_getD, List.getElem?_eq_getElem (by rw [sortPl_length]; exact hk), ek]; rfl
    have h1 := laidTo_at (o := o) (sortPl_nodup w) (by rw [sortPl_length, hl]) (fun q hq => by have := mem_upto.mp ((sortPl_perm w).mem_iff.mp hq); omega) w.length (by rw [sortPl_length]; omega) k hk
    have h2 := num_spot hw hk
    rw [eg, Int.toNat_natCast] at h1 h2
    have e1 : (laidW o w)[p]? = some (o.getD k 0) := by
      rw [getElem?_getD 0 (by rw [laidW_length, hl]; exact hp)]
      exact congrArg some h1
    rw [e1]
    unfold riffleI laidI numI
    rw [List.getElem?_map, List.getElem?_map, List.getElem?_range hp]
    show some (o.getD k 0) = some (o.getD (numAt (plainMs b) w p).toNat 0)
    rw [h2, Int.toNat_natCast]
  · rw [List.getElem?_eq_none (by rw [laidW_length, hl]; omega), List.getElem?_eq_none (by rw [riffleI_length]; omega)]
theorem plainMs_len (b : Nat) : (plainMs b).length = b := List.length_replicate
theorem heapsTo_length (o : List Int) (ms : List Bool) (w : List Int) (n : Nat) : (heapsTo o ms w n).length = n := by unfold heapsTo; rw [List.length_map, List.length_range]
theorem heapsAt_length (o : List Int) (ms : List Bool) (w : List Int) (n : Nat) : (heapsAt o ms w n).length = ms.length := by unfold heapsAt; rw [List.length_map, List.length_range]
theorem heapsAt_rowC {o : List Int} {ms : List Bool} {w : List Int} {j : Nat} {y : Int} {C : List (List Int)} (hb : 0 ≤ y ∧ y < ms.length) (hh : C = heapsAt o ms w j) : C.getD y.toNat [] = (heapI o ms w y.toNat).drop ((w.take j).count y) := by
  rw [hh, List.getD_eq_getElem?_getD]
  have : y.toNat < ms.length := by omega
  simp only [heapsAt, List.getElem?_map, List.getElem?_range this, Option.map_some, Option.getD_some]
  rw [show ((y.toNat : Nat) : Int) = y by omega]
theorem digTo_isW {b x : Int} (hb : 1 ≤ b) (n : Nat) : IsW (Int.toNat b) (digTo b x n) := fun d hd => by
  have := digTo_bd hb n d hd
  omega
theorem row_due {order : List Int} {b : Int} (i : Nat) (hb : 1 ≤ b) (h1 : 1 ≤ order.length) :
    (rowL order b i).set (Int.toNat (fallsI (riffleI order (plainMs (Int.toNat b)) (digTo b (i : Int) order.length)) : Int)) ((rowL order b i).getD (Int.toNat (fallsI (riffleI order (plainMs (Int.toNat b)) (digTo b (i : Int) order.length)) : Int)) 0 + 1) = rowL order b (i + 1) := by
  rw [← laidW_riffle (digTo_isW hb _) (digTo_length _ _ _).symm]
  rfl
end Rc
namespace Rc
open PySem PySem.W
/-! all words that lead to an order, sorted by their heaps: the ways -/
def waysL (o : List Int) (ms : List Bool) : List (List Int) := (List.range (howI o ms).toNat).map fun k : Nat => wayI o ms (k : Int)
def wordsTo (o : List Int) (ms : List Bool) : List (List Int) := (allW ms.length o.length).filter fun w => decide (riffleI (upto o.length) ms w = o)
def key25 (o w : List Int) : List Int := hsTo o w (min o.length w.length)
theorem lexGt_lt : ∀ {a b : List Int}, lexGt a b = true → b < a
  | [], _, h => by cases h
  | _ :: _, [], _ => List.nil_lt_cons ..
  | x :: a, y :: b, h => by
    have h : (if x = y then lexGt a b else decide (y < x)) = true := h
    rw [List.cons_lt_cons_iff]
    by_cases e : x = y
    · rw [if_pos e] at h
      exact .inr ⟨e.symm, lexGt_lt h⟩
    · rw [if_neg e] at h
      exact .inl (of_decide_eq_true h)
theorem key_heaps {o : List Int} {ms : List Bool} (ho : IsOrd o) {w : List Int} (hw : w ∈ wordsTo o ms) : key25 o w = heapsOf ms.length w ∧ Valid o ms (heapsOf ms.length w) ∧ wordOf o (heapsOf ms.length w) = w := by
  unfold wordsTo at hw
  rw [List.mem_filter, mem_allW, decide_eq_true_eq] at hw
  have he : riffleI (upto w.length) ms w = o := by rw [hw.1.1]; exact hw.2
  have v := valid_heaps hw.1.2 he
  have e := word_heaps hw.1.2 he
  refine ⟨?_, v, e⟩
  have h2 := hsTo_word (hs := heapsOf ms.length w) ho v.1 (Nat.le_refl _)
  rw [e] at h2
  unfold key25
  rw [hw.1.1, Nat.min_self]
  exact h2
theorem sorted_ways {o : List Int} {ms : List Bool} (ho : IsOrd o) (h1 : 1 ≤ o.length) {rows : List (RO (List Int))} (hr : rows.map (·.2) = wordsTo o ms) :
    (rows.mergeSort (dataLe false (rowKey (key25 o)))).map (·.2) = waysL o ms := by
  have hp : (rows.mergeSort (dataLe false (rowKey (key25 o)))).Perm rows := List.mergeSort_perm _ _
  have hpw : (rows.mergeSort (dataLe false (rowKey (key25 o)))).Pairwise fun a b => dataLe false (rowKey (key25 o)) a b = true := sort_pairwise (sortLe_total _ _ _) _
  have hle : dataLe false (rowKey (key25 o)) = fun (p q : RO (List Int)) => decide (key25 o p.2 ≤ key25 o q.2) := dataLe_rows fun r : RO (List Int) => key25 o r.2
  rw [hle] at hp hpw ⊢
  generalize rows.mergeSort (fun (p q : RO (List Int)) => decide (key25 o p.2 ≤ key25 o q.2)) = S at *
  have hp2 : (S.map (·.2)).Perm (wordsTo o ms) := by rw [← hr]; exact hp.map _
  have hnd : (S.map (·.2)).Nodup := hp2.nodup_iff.mpr ((allW_nodup _ _).filter _)
  have hpw2 : (S.map (·.2)).Pairwise fun a b => key25 o a ≤ key25 o b := by
    rw [List.pairwise_map]
    exact hpw.imp fun h => of_decide_eq_true h
  generalize S.map (·.2) = L at *
  have hmem : ∀ w ∈ L, w ∈ wordsTo o ms := fun w hw => hp2.mem_iff.mp hw
  have hwb : ∀ w ∈ L, 0 ≤ numTo' o ms (heapsOf ms.length w) o.length ∧ numTo' o ms (heapsOf ms.length w) o.length < howI o ms ∧ wayI o ms (numTo' o ms (heapsOf ms.length w) o.length) = w := fun w hw => by
    have h := hmem w hw
    unfold wordsTo at h
    rw [List.mem_filter, mem_allW, decide_eq_true_eq] at h
    exact way_back (by omega) h.1.2 (by rw [h.1.1]; exact h.2)
  have hlen : (L.length : Int) = howI o ms := by
    rw [hp2.length_eq]
    exact count_ways ho rfl h1
  have hinc : (L.map fun w => numTo' o ms (heapsOf ms.length w) o.length).Pairwise (· < ·) := by
    rw [List.pairwise_map]
    rw [List.nodup_iff_pairwise_ne] at hnd
    refine List.Pairwise.imp_of_mem (fun {a b} ha hb h => ?_) (hpw2.and hnd)
    obtain ⟨hle2, hne⟩ := h
    obtain ⟨ea, va, wa⟩ := key_heaps ho (hmem a ha)
    obtain ⟨eb, vb, wb⟩ := key_heaps ho (hmem b hb)
    rw [ea, eb] at hle2
    refine num_lex vb va ?_
    rcases lexGt_tri (a := heapsOf ms.length b) (b := heapsOf ms.length a) (by rw [vb.1, va.1]) with h | h | h
    · exact h
    · exact absurd (lexGt_lt h) (List.not_lt.mpr hle2)
    · exact absurd (by rw [← wa, ← wb, h]) hne
  have hat := incr_at (L := L.map fun w => numTo' o ms (heapsOf ms.length w) o.length) (a := 0) hinc (fun x hx => by
    obtain ⟨w, hw, rfl⟩ := List.mem_map.mp hx
    have := hwb w hw
    rw [List.length_map]
    omega)
  refine List.ext_getElem? fun k => ?_
  unfold waysL
  by_cases hk : k < L.length
  · have e := hat k (by rw [List.length_map]; exact hk)
    rw [List.getD_eq_getElem?_getD, List.getElem?_map, List.getElem?_eq_getElem hk] at e
    have e : numTo' o ms (heapsOf ms.length L[k]) o.length = 0 + (k : Int) := e
    have hb := hwb _ (List.getElem_mem hk)
    rw [e, Int.zero_add] at hb
    rw [List.getElem?_eq_getElem hk, List.getElem?_map, List.getElem?_range (by omega)]
    show some L[k] = some (wayI o ms (k : Int))
    rw [hb.2.2]
  · rw [List.getElem?_eq_none (by omega), List.getElem?_eq_none (by rw [List.length_map, List.length_range]; omega)]
theorem waysL_length {o : List Int} {ms : List Bool} : ((waysL o ms).length : Int) = howI o ms := by
  have := howI_nonneg o ms
  unfold waysL
  rw [List.length_map, List.length_range]
  omega
theorem waysL_list (o : List Int) (ms : List Bool) : (List.range (Int.toNat ((waysL o ms).length : Int))).map (fun i : Nat => wayI o ms (i : Int)) = waysL o ms := by
  have h := waysL_length (o := o) (ms := ms)
  unfold waysL at h ⊢
  rw [h]
theorem five4 {k : Nat} (h : 1 ≤ k ∧ k ≤ 4) : 4 ≤ ([5, 5, 5, 4] : List Int).getD (Int.toNat ((k : Int) - 1)) 0 ∧ ([5, 5, 5, 4] : List Int).getD (Int.toNat ((k : Int) - 1)) 0 ≤ 5 := by
  rcases (show k = 1 ∨ k = 2 ∨ k = 3 ∨ k = 4 by omega) with rfl | rfl | rfl | rfl <;> decide
theorem one_mod' {x L b : Int} (hL : 0 < L) (e : b = 1 + x % L) : 1 ≤ b ∧ b ≤ L := by
  have h1 := Int.emod_nonneg x (show L ≠ 0 by omega)
  have h2 := Int.emod_lt_of_pos x hL
  omega
theorem two4 {k : Nat} (h : k < 4) : 1 ≤ (2 : Int) ^ ((k : Int).toNat) ∧ (2 : Int) ^ ((k : Int).toNat) ≤ 8 := by
  rcases (show k = 0 ∨ k = 1 ∨ k = 2 ∨ k = 3 by omega) with rfl | rfl | rfl | rfl <;> decide
theorem isOrd_up {m n : Nat} {w : List Int} {ms : List Bool} (hw : IsW m w) (hl : w.length = n) : IsOrd (riffleI ((List.range n).map fun i : Nat => (i : Int)) ms w) :=
  isOrd_riffleI (o := upto n) ms (isOrd_upto n) hw (by rw [upto_length, hl])
theorem how_le {o : List Int} {ms : List Bool} (ho : IsOrd o) (h1 : 1 ≤ o.length ∧ o.length ≤ 5) (hm : ms.length ≤ 4) : howI o ms ≤ 1024 := by
  rw [← count_ways ho rfl h1.1]
  have h := List.length_filter_le (fun w => decide (riffleI (upto o.length) ms w = o)) (allW ms.length o.length)
  have := allW_le hm h1.2
  omega
end Rc
namespace Rc
open PySem PySem.Spec PyProof.Rows L2 Evl

local macro_rules | `(tactic| walk_at "sca") => `(tactic| first | assumption | exact Sca.ints _ | exact Sca.bls _ | rfl | decide | (simp_all; done))
local macro_rules | `(tactic| walk_at "side") => `(tactic| first | omega | assumption | (simp only [List.length_map, List.length_range, List.length_append, List.length_cons, List.length_nil, cutL_length]; omega) | (simp only [List.length_map, List.length_range, List.length_append, List.length_cons, List.length_nil] at *; omega) | (simp at *; omega))
local macro_rules | `(tactic| walk_at "size") => `(tactic| first | (refine Evl.sz_lt ?_; simp only [List.length_map, List.length_range, List.length_append, List.length_cons, List.length_nil, cutL_length, List.length_set, List.length_replicate, List.length_reverse]; omega) | (refine Evl.sz_of ?_; simp only [List.length_map, List.length_range, List.length_append, List.length_cons, List.length_nil, cutL_length, List.length_set, List.length_replicate, List.length_reverse]; omega) | (refine Evl.sz_lt ?_; simp; omega) | (refine Evl.sz_of ?_; simp; omega))
local macro_rules | `(tactic| walk_at "tsize") => `(tactic| (refine Evl.sz_lt ?_; simp only [List.length_map, List.length_append, List.length_cons, List.length_nil]; first | omega | (rw [snd_len (by assumption)]; omega)))
local macro_rules | `(tactic| walk_at "csize") => `(tactic| first | (refine Evl.sz_lt ?_; simp only [List.length_map, List.length_take, List.length_range]; omega) | (refine Evl.sz_lt ?_; simp only [List.length_map]; refine Nat.lt_of_le_of_lt (List.length_filter_le _ _) ?_; simp only [List.length_take, List.length_range]; omega))
local macro_rules | `(tactic| walk_at "inv") => `(tactic| first | omega | assumption | rfl | (simp only [List.length_append, List.length_cons, List.length_nil, List.length_set]; omega) | (simp; omega) | simp_all)
local macro_rules | `(tactic| walk_at "post") => `(tactic| first | rfl | assumption | omega | (simp_all; done) | (simp_all; omega))
local macro_rules | `(tactic| walk_at "mul") => `(tactic| first | exact .inl (by omega) | exact .inr (by omega))
local macro_rules | `(tactic| walk_at "txl") => `(tactic| first | omega | (simp only [List.length_append, List.length_cons, List.length_nil]; omega) | (simp only [List.length_append, List.length_cons, List.length_nil] at *; omega) | (simp; omega))
local macro_rules | `(tactic| walk_at "log") => `(tactic| exact log_lt (by omega))
local macro_rules | `(tactic| walk_at "div") => `(tactic| exact ⟨by omega, by omega⟩)
local macro_rules | `(tactic| walk_at "widediv") => `(tactic| first | exact ⟨by omega, wl_of (by omega) (by omega)⟩)
local macro_rules | `(tactic| walk_at "rgok") => `(tactic| exact ⟨by omega, by omega, by omega, by omega, by omega⟩)
local macro_rules | `(tactic| walk_at "rgc") => `(tactic| omega)
local macro_rules | `(tactic| walk_at "comp") => `(tactic| first | (simp_all; done) | (simp_all; omega) | grind)
def topS (i : Nat) : Stmt := PySem.Challenge.pw_riftcarry_k25_all_ways.main.body.getD i (.Pass ⟨0, 0, 0, 0⟩)
abbrev s_law_deep : Stmt := topS 12
abbrev s_law_order : Stmt := topS 14
abbrev s_law_words : Stmt := topS 19
abbrev s_law_riffled : Stmt := topS 17
abbrev s_law_heaps : Stmt := topS 18
abbrev s_law_due : Stmt := topS 20
abbrev s_places : Stmt := topS 4
abbrev s_may_share : Stmt := topS 6
abbrev s_goings_on : Stmt := topS 7
abbrev s_how_many : Stmt := topS 8
abbrev s_law_word : Stmt := topS 16
abbrev s_steps_on : Stmt := topS 9
abbrev s_way : Stmt := topS 10
abbrev s_law : Stmt := topS 21
abbrev q_lam : Str := (("_law_due" : Str) ++ (".<locals>." : Str)) ++ ("<lambda>" : Str)
structure Txt (K : PySem.W.Frag) (mg : Str → Option Value) (base : Heap) where
  c_lam : Addr
  P_lam : Addr
  TB_lam : LamX.TabB base mg c_lam P_lam
  f_law_deep : Addr
  fd_law_deep : FuncData
  F_law_deep : Fun K "_law_deep" "_law_deep" s_law_deep f_law_deep fd_law_deep
  g_law_deep : mg "_law_deep" = some (.ref f_law_deep)
  b_law_deep : Binds K fd_law_deep ["_law_script", "_law_k"] []
  f_law_order : Addr
  fd_law_order : FuncData
  F_law_order : Fun K "_law_order" "_law_order" s_law_order f_law_order fd_law_order
  g_law_order : mg "_law_order" = some (.ref f_law_order)
  b_law_order : Binds K fd_law_order ["_law_cell", "_law_n"] []
  f_law_words : Addr
  fd_law_words : FuncData
  F_law_words : Fun K "_law_words" "_law_words" s_law_words f_law_words fd_law_words
  g_law_words : mg "_law_words" = some (.ref f_law_words)
  b_law_words : Binds K fd_law_words ["_law_heaps_here", "_law_n"] []
  f_law_riffled : Addr
  fd_law_riffled : FuncData
  F_law_riffled : Fun K "_law_riffled" "_law_riffled" s_law_riffled f_law_riffled fd_law_riffled
  g_law_riffled : mg "_law_riffled" = some (.ref f_law_riffled)
  b_law_riffled : Binds K fd_law_riffled ["_law_order_here", "_law_marks_here", "_law_word_here"] []
  f_law_heaps : Addr
  fd_law_heaps : FuncData
  F_law_heaps : Fun K "_law_heaps" "_law_heaps" s_law_heaps f_law_heaps fd_law_heaps
  g_law_heaps : mg "_law_heaps" = some (.ref f_law_heaps)
  b_law_heaps : Binds K fd_law_heaps ["_law_order_here", "_law_told"] []
  f_law_due : Addr
  fd_law_due : FuncData
  F_law_due : Fun K "_law_due" "_law_due" s_law_due f_law_due fd_law_due
  FC_law_due : FunC K c_lam "_law_due" "_law_due" s_law_due f_law_due fd_law_due
  g_law_due : mg "_law_due" = some (.ref f_law_due)
  b_law_due : Binds K fd_law_due ["_law_order_here", "_law_marks_here"] []
  f_places : Addr
  fd_places : FuncData
  F_places : Fun K "places" "places" s_places f_places fd_places
  g_places : mg "places" = some (.ref f_places)
  b_places : Binds K fd_places ["order"] []
  f_may_share : Addr
  fd_may_share : FuncData
  F_may_share : Fun K "may_share" "may_share" s_may_share f_may_share fd_may_share
  g_may_share : mg "may_share" = some (.ref f_may_share)
  b_may_share : Binds K fd_may_share ["marks", "heap", "upper", "lower"] []
  f_goings_on : Addr
  fd_goings_on : FuncData
  F_goings_on : Fun K "goings_on" "goings_on" s_goings_on f_goings_on fd_goings_on
  g_goings_on : mg "goings_on" = some (.ref f_goings_on)
  b_goings_on : Binds K fd_goings_on ["order", "marks"] []
  f_how_many : Addr
  fd_how_many : FuncData
  F_how_many : Fun K "how_many" "how_many" s_how_many f_how_many fd_how_many
  g_how_many : mg "how_many" = some (.ref f_how_many)
  b_how_many : Binds K fd_how_many ["order", "marks"] []
  f_law_word : Addr
  fd_law_word : FuncData
  F_law_word : Fun K "_law_word" "_law_word" s_law_word f_law_word fd_law_word
  g_law_word : mg "_law_word" = some (.ref f_law_word)
  b_law_word : Binds K fd_law_word ["_law_cell", "_law_heaps_here", "_law_n"] []
  f_steps_on : Addr
  fd_steps_on : FuncData
  F_steps_on : Fun K "steps_on" "steps_on" s_steps_on f_steps_on fd_steps_on
  g_steps_on : mg "steps_on" = some (.ref f_steps_on)
  b_steps_on : Binds K fd_steps_on ["order", "marks", "heaps"] []
  f_way : Addr
  fd_way : FuncData
  F_way : Fun K "way" "way" s_way f_way fd_way
  g_way : mg "way" = some (.ref f_way)
  b_way : Binds K fd_way ["order", "marks", "number"] []
  f_law : Addr
  fd_law : FuncData
  F_law : Fun K "law" "law" s_law f_law fd_law
  g_law : mg "law" = some (.ref f_law)
  b_law : Binds K fd_law ["_law_script"] []
  m_enumerate : mg "enumerate" = none
  m_len : mg "len" = none
  m_min : mg "min" = none
  m_range : mg "range" = none
  m_sorted : mg "sorted" = none
  m_sum : mg "sum" = none
  m_zip : mg "zip" = none
section
variable {P : Program} {w : World} {K : PySem.W.Frag} {mg : Str → Option Value} {base : Heap}
def sp_law_deep (K : PySem.W.Frag) : Sp := fun vs H Q _ => ∃ (a_script : Addr) (script : List Int) (k : Int), vs = [V.ref a_script, V.int k] ∧ SqL K H a_script (List.map V.int script) ∧ (0 ≤ k ∧ k < 1000) ∧ (∀ (H1 : Hp) (res : Int), (True) → Same H H1 → Q (V.int res) H1)
theorem sc_law_deep : FnScope ["_law_script", "_law_k", "_law_cell", "_law_deep_here", "_law_j"] ["_law_script", "_law_k"] (defScope s_law_deep) := ⟨rfl, rfl, rfl, by decide +kernel, rfl, by decide +kernel, by decide +kernel⟩
theorem ok_law_deep (T : Txt K mg base) : FnOk P w K mg base CX0 1 T.f_law_deep T.fd_law_deep ["_law_script", "_law_k"] (sp_law_deep K) := by
  refine T.F_law_deep.ok sc_law_deep (fun vs H Q E h => ?_) (fun cdv A outer s H vs Q E hr h => ?_)
  · obtain ⟨a_script, script, k, rfl, _⟩ := h; rfl
  · obtain ⟨a_script, script, k, rfl, h_script, pre0, q⟩ := h
    have fr := Fr.nil H
    refine ⟨_, (pss_cons (ps_set (i := 2) sc_law_deep.nd rfl (Or.inl rfl) pe_int)
          (pss_cut (ps_if (pt_cmpR op_ltS (pv 1) (pe_callB (show CallR _ _ (rLenL K) from call_lenL) (by rfl) T.m_len (by decide +kernel) (pa_cons (pv 0) pa_nil)) (nomark _)) (pss_one (ps_set (i := 2) sc_law_deep.nd rfl (Or.inl rfl) (pe_ix (show IxR _ (rIxL K) from ix_list) (pv 0) (pv 1) (fun _ _ => rfl)))) pss_nil)
          (pss_cons (ps_if (PW.pt (pw_or (pt_cmpR op_ltS (pv 2) pe_int (nomark _)) (pw_or1 (pt_cmpR op_geS (pv 2) (pe_op op_powL pe_int pe_int) (nomark _))))) (pss_one (ps_ret (pv 2))) pss_nil)
          (pss_cons (ps_set (i := 3) sc_law_deep.nd rfl (Or.inl rfl) pe_int)
          (pss_cons (ps_for PassesOwn.never rfl (pi_range1 (by rfl) T.m_range (pa_cons pe_int pa_nil)) (pg_name (i := 4) sc_law_deep.nd rfl (Or.inl rfl)) (pss_one (ps_set (i := 3) sc_law_deep.nd rfl (Or.inl rfl) (pe_op op_add (pe_op op_mul (pv 3) pe_int) (pe_op op_mod (pe_op op_mul (pe_op op_mod (pe_op op_add (pe_op op_mul (pv 2) pe_int) (pe_op op_mul (pe_op op_mul (pe_op op_add (pv 4) pe_int) (pe_op op_add (pe_op op_add (pv 4) (pv 1)) pe_int)) pe_int)) pe_int) pe_int) pe_int)))))
          (pss_one (ps_ret (pv 3)))))))), ?_⟩
    refine ⟨fun σ H1 => ∃ (cell_1 : Int), σ = [some (V.ref a_script), some (V.int k), some (V.int cell_1), none, none] ∧ Fr H H1 [], ?_, ?_⟩
    · refine ⟨_, rfl, _, rfl, _, _, _, rfl, (fr.same.seq h_script), (List.length_map _), _, _, rfl, rfl, ?_, ?_⟩
      · intro h2
        refine ⟨_, rfl, ?_⟩
        refine iteT ?_
        refine ⟨_, rfl, _, rfl, _, _, _, _, rfl, rfl, (fr.same.seq h_script), (atD 0 ?_ ?_), ?_⟩
        · walk_at "side"
        · walk_at "side"
        refine ⟨(List.getD script (Int.toNat k) 0), rfl, fr⟩
      · intro h2
        refine ⟨_, rfl, ?_⟩
        refine iteF ?_
        refine ⟨0, rfl, fr⟩
    rintro s_4 H_3 ⟨cell_1, rfl, fr⟩
    refine ⟨_, rfl, _, _, rfl, rfl, ?_, ?_⟩
    · intro h5
      refine ⟨_, rfl, ?_⟩
      refine iteT ?_
      refine iteT ?_
      refine ⟨_, rfl, ?_⟩
      exact q _ cell_1 (by trivial) fr.same
    · intro h5
      refine ⟨_, rfl, ?_⟩
      refine iteF ?_
      refine ⟨_, rfl, _, _, 1000000000000000000, rfl, rfl, ⟨by decide, by decide, by decide⟩, (by decide), _, _, rfl, rfl, ?_, ?_⟩
      · intro h6
        refine ⟨_, rfl, ?_⟩
        refine iteT ?_
        refine ⟨_, rfl, ?_⟩
        exact q _ cell_1 (by trivial) fr.same
      · intro h6
        refine ⟨_, rfl, ?_⟩
        refine iteF ?_
        refine ⟨_, rfl, ?_, ?_, ?_⟩
        · walk_at "side"
        · walk_at "side"
        refine for_it (walkR (n := (Int.toNat 14))) (fun (i : Nat) σ H1 => ∃ (deep_7 : Int) (y_8 : Option V), σ = [some (V.ref a_script), some (V.int k), some (V.int cell_1), some (V.int deep_7), y_8] ∧ Fr H H1 []) ?_ ?_ ?_ ?_
        · refine ⟨0, _, rfl, fr⟩
        · rintro i σ H1 hi ⟨deep_7, y_8, rfl, fr⟩
          exact trivial
        · rintro i_9 x_11 s_14 H_12 H_13 hi_10 ⟨deep_7, y_8, rfl, fr⟩ ⟨rfl, rfl⟩
          refine ⟨_, rfl, _, _, rfl, rfl, (.inr (by decide)), _, rfl, _, _, rfl, rfl, (.inr (by decide)), _, rfl, _, _, rfl, rfl, _, rfl, _, rfl, _, _, rfl, rfl, _, _, rfl, rfl, _, _, rfl, rfl, ?_, _, _, rfl, rfl, (.inr (by decide)), _, _, rfl, rfl, _, _, rfl, rfl, (show (0 : Int) < _ by decide), _, _, rfl, rfl, (.inr (by decide)), _, _, rfl, rfl, (show (0 : Int) < _ by decide), _, _, rfl, rfl, ?_⟩
          · walk_at "mul"
          refine ⟨((deep_7 * 2147483647) + (((((cell_1 * 48271) + ((((i_9 : Int) + 5) * (((i_9 : Int) + k) + 2)) * 69621)) % 2147483647) * 16807) % 2147483629)), _, rfl, fr⟩
        rintro s_16 H_15 ⟨deep_7, y_8, rfl, fr⟩
        refine ⟨_, rfl, ?_⟩
        exact q _ deep_7 (by trivial) fr.same
def sp_law_heaps (K : PySem.W.Frag) : Sp := fun vs H Q _ => ∃ (a_order : Addr) (order : List Int) (a_told : Addr) (told : List Int), vs = [V.ref a_order, V.ref a_told] ∧ H a_order = some (.lst (List.map V.int order)) ∧ H a_told = some (.lst (List.map V.int told)) ∧ (IsOrd order) ∧ (order.length ≤ 60) ∧ (∀ (H1 : Hp) (rA : Addr) (res : List Int), (res = hsTo order told (min order.length told.length)) → Same H H1 → H rA = none → H1 rA = some (.lst (List.map V.int res)) → Q (V.ref rA) H1)
theorem sc_law_heaps : FnScope ["_law_order_here", "_law_told", "_law_heaps_here", "_law_card", "_law_heap"] ["_law_order_here", "_law_told"] (defScope s_law_heaps) := ⟨rfl, rfl, rfl, by decide +kernel, rfl, by decide +kernel, by decide +kernel⟩
theorem ok_law_heaps (T : Txt K mg base) : FnOk P w K mg base CX0 1 T.f_law_heaps T.fd_law_heaps ["_law_order_here", "_law_told"] (sp_law_heaps K) := by
  refine T.F_law_heaps.ok sc_law_heaps (fun vs H Q E h => ?_) (fun cdv A outer s H vs Q E hr h => ?_)
  · obtain ⟨a_order, order, a_told, told, rfl, _⟩ := h; rfl
  · obtain ⟨a_order, order, a_told, told, rfl, h_order, h_told, pre0, pre1, q⟩ := h
    have fr := Fr.nil H
    refine ⟨_, (pss_cons (ps_setLc (i := 2) (own := [("_law_card", 3)]) (g := gName 3) (tt := tYes) rfl sc_law_heaps.nd rfl rfl (sw_true rfl rfl rfl (by decide +kernel)) (pi_list (pv 0)) (blkOk_by (N := ["_law_order_here", "_law_told", "_law_heaps_here", "_law_card", "_law_heap"]) (sc := (defScope s_law_heaps)) (by decide +kernel)) (fun _ _ _ _ _ => pg_name (i := 3) sc_law_heaps.nd rfl (Or.inl rfl)) (fun _ _ _ _ _ => pts_nil) (fun _ _ _ _ _ => pe_int))
          (pss_cons (ps_for PassesOwn.never rfl (pi_zip (by rfl) T.m_zip (pa_cons (pv 0) (pa_cons (pv 1) pa_nil))) (pg_tup rfl (pgs_cons (pg_name (i := 3) sc_law_heaps.nd rfl (Or.inl rfl)) (pgs_cons (pg_name (i := 4) sc_law_heaps.nd rfl (Or.inl rfl)) pgs_nil))) (pss_one (ps_asg (pv 4) (pg_sub (pv 2) (pv 3) set_list))))
          (pss_one (ps_ret (pv 2))))), ?_⟩
    refine ⟨_, rfl, _, rfl, ⟨_, (SqL.of (fr.same _ _ h_order))⟩, ?_⟩
    intro D_1 nD_2
    refine lc_it (walkL V.int order) (fun (i : Nat) H1 => Fr H H1 [(D_1, (.lst (List.map V.int ((List.map (fun y : Int => 0) (List.take i order)))) : HO))]) (fr.new nD_2) (fun i H1 hi fr => (fr.same _ _ h_order)) ?_ ?_
    · rintro i_4 x_8 H_6 H_7 hi_5 fr ⟨rfl, y_9, hy_10, rfl⟩
      refine ⟨rfl, ?_⟩
      refine ⟨_, (Fr.atk fr 0 rfl), ?_, ?_⟩
      · walk_at "csize"
      exact (Fr.wr fr).cast (lc_l hy_10)
    intro H_11 fr
    have fr : Fr H _ [(D_1, (.lst (List.map V.int ((List.map (fun y : Int => 0) order))) : HO))] := fr.cast (by rw [List.take_length])
    refine ⟨_, rfl, _, rfl, _, _, _, _, rfl, (SqL.of (fr.same _ _ h_order)), (SqL.of (fr.same _ _ h_told)), ?_⟩
    refine for_it (walkZ V.int V.int order told) (fun (i : Nat) σ H1 => ∃ (heaps_12 : List Int) (y_13 : Option V) (y_14 : Option V), σ = [some (V.ref a_order), some (V.ref a_told), some (V.ref D_1), y_13, y_14] ∧ Fr H H1 [(D_1, (.lst (List.map V.int heaps_12) : HO))] ∧ (heaps_12 = hsTo order told i)) ?_ ?_ ?_ ?_
    · refine ⟨(List.map (fun y : Int => 0) order), _, _, rfl, fr, ?_⟩
      · exact hsTo_zero _ _
    · rintro i σ H1 hi ⟨heaps_12, y_13, y_14, rfl, fr, hh⟩
      exact ⟨(fr.same _ _ h_order), (fr.same _ _ h_told)⟩
    · rintro i_15 x_17 s_20 H_18 H_19 hi_16 ⟨heaps_12, y_13, y_14, rfl, fr, hh⟩ ⟨T_21, y_22, z_23, rfl, nT_24, rfl, hy_25, hz_26⟩
      have fr := fr.tmp (o := .tup [(V.int y_22), (V.int z_23)]) nT_24
      refine ⟨_, _, rfl, (SqT.of upd_same), rfl, _, _, rfl, _, _, rfl, rfl, ?_⟩
      have hb := pre0.bd hy_25
      have hhl : heaps_12.length = order.length := by rw [hh]; simp
      refine ⟨_, rfl, _, rfl, _, rfl, _, _, _, _, rfl, rfl, fr.at0, (ixDm ?_ ?_), ?_⟩
      · walk_at "side"
      · walk_at "side"
      have fr : Fr H _ [(D_1, (.lst (List.map V.int ((List.set heaps_12 (Int.toNat y_22) z_23))) : HO))] := Fr.wrk fr 0 rfl (lst_set _ _ _ _)
      refine ⟨(List.set heaps_12 (Int.toNat y_22) z_23), _, _, rfl, fr, ?_⟩
      · rw [hh]; exact hsTo_next pre0 hy_25 hz_26
    rintro s_28 H_27 ⟨heaps_12, y_13, y_14, rfl, fr, hh⟩
    refine ⟨_, rfl, ?_⟩
    exact q _ _ heaps_12 (by exact hh) fr.same fr.n0 fr.at0
def sp_law_riffled (K : PySem.W.Frag) : Sp := fun vs H Q _ => ∃ (a_order : Addr) (order : List Int) (a_marks : Addr) (marks : List Bool) (a_word : Addr) (word : List Int), vs = [V.ref a_order, V.ref a_marks, V.ref a_word] ∧ H a_order = some (.lst (List.map V.int order)) ∧ H a_marks = some (.lst (List.map V.bl marks)) ∧ H a_word = some (.lst (List.map V.int word)) ∧ (IsW marks.length word) ∧ (word.length = order.length ∧ marks.length ≤ 400 ∧ order.length ≤ 60) ∧ (∀ (H1 : Hp) (rA : Addr) (res : List Int), (res = riffleI order marks word) → Same H H1 → H rA = none → H1 rA = some (.lst (List.map V.int res)) → Q (V.ref rA) H1)
theorem sc_law_riffled : FnScope ["_law_order_here", "_law_marks_here", "_law_word_here", "_law_heaps_here", "_law_start", "_law_heap", "_law_size", "_law_cards_here", "_law_out"] ["_law_order_here", "_law_marks_here", "_law_word_here"] (defScope s_law_riffled) := ⟨rfl, rfl, rfl, by decide +kernel, rfl, by decide +kernel, by decide +kernel⟩
theorem ok_law_riffled (T : Txt K mg base) : FnOk P w K mg base CX0 1 T.f_law_riffled T.fd_law_riffled ["_law_order_here", "_law_marks_here", "_law_word_here"] (sp_law_riffled K) := by
  refine T.F_law_riffled.ok sc_law_riffled (fun vs H Q E h => ?_) (fun cdv A outer s H vs Q E hr h => ?_)
  · obtain ⟨a_order, order, a_marks, marks, a_word, word, rfl, _⟩ := h; rfl
  · obtain ⟨a_order, order, a_marks, marks, a_word, word, rfl, h_order, h_marks, h_word, pre0, pre1, q⟩ := h
    have fr := Fr.nil H
    refine ⟨_, (pss_cons (ps_set (i := 3) sc_law_riffled.nd rfl (Or.inl rfl) (pe_lst pa_nil))
          (pss_cons (ps_set (i := 4) sc_law_riffled.nd rfl (Or.inl rfl) pe_int)
          (pss_cons (ps_for PassesOwn.never rfl (pi_range1 (by rfl) T.m_range (pa_cons (pe_callB (show CallR _ _ (rLenL K) from call_lenL) (by rfl) T.m_len (by decide +kernel) (pa_cons (pv 1) pa_nil)) pa_nil)) (pg_name (i := 5) sc_law_riffled.nd rfl (Or.inl rfl)) (pss_cons (ps_set (i := 6) sc_law_riffled.nd rfl (Or.inl rfl) (pe_bmK (K := K) (pe_bm PySem.F.plainAttrs_list PySem.F.slot_list_count PySem.F.type_list_count (show MtR _ _ (rCntI K) from mt_lcount) (pv 2) (pa_cons (pv 5) pa_nil))))
          (pss_cons (ps_set (i := 7) sc_law_riffled.nd rfl (Or.inl rfl) (pe_slice (show SlR _ (rSlL K) from sl_list) (pv 0) (po_some (pv 4)) (po_some (pe_op op_add (pv 4) (pv 6)))))
          (pss_cut (ps_if (pt_valS (pe_ix (show IxR _ (rIxL K) from ix_list) (pv 1) (pv 5) (fun _ _ => rfl))) (pss_one (ps_set (i := 7) sc_law_riffled.nd rfl (Or.inl rfl) (pe_revL (pv 7)))) pss_nil)
          (pss_cons (ps_expr (pe_bmK (K := K) (pe_bm PySem.F.plainAttrs_list PySem.F.slot_list_append PySem.F.type_list_append mt_append (pv 3) (pa_cons (pv 7) pa_nil))))
          (pss_one (ps_set (i := 4) sc_law_riffled.nd rfl (Or.inl rfl) (pe_op op_add (pv 4) (pv 6)))))))))
          (pss_cons (ps_set (i := 8) sc_law_riffled.nd rfl (Or.inl rfl) (pe_lst pa_nil))
          (pss_cons (ps_for PassesOwn.never rfl (pi_list (pv 2)) (pg_name (i := 5) sc_law_riffled.nd rfl (Or.inl rfl)) (pss_cons (ps_expr (pe_bmK (K := K) (pe_bm PySem.F.plainAttrs_list PySem.F.slot_list_append PySem.F.type_list_append mt_append (pv 8) (pa_cons (pe_ix (show IxR _ (rIxL K) from ix_list) (pe_ix (show IxR _ (rIxL K) from ix_list) (pv 3) (pv 5) (fun _ _ => rfl)) pe_int (fun _ _ => rfl)) pa_nil))))
          (pss_one (ps_asg (pe_slice (show SlR _ (rSlL K) from sl_list) (pe_ix (show IxR _ (rIxL K) from ix_list) (pv 3) (pv 5) (fun _ _ => rfl)) (po_some pe_int) po_none) (pg_sub (pv 3) (pv 5) set_list)))))
          (pss_one (ps_ret (pv 8)))))))), ?_⟩
    refine ⟨(Evl.sz_of (show 0 ≤ 100000 by decide)), fun l_1 nl_2 => ?_⟩
    have fr : Fr H _ [(l_1, (.lst [] : HO))] := fr.new nl_2
    have fr : Fr H _ [(l_1, (.lst (List.map rowRef ([])) : HO))] := fr
    refine ⟨_, rfl, _, _, _, rfl, (SqL.of (fr.same _ _ h_marks)), (List.length_map _), _, rfl, ?_, ?_, ?_⟩
    · walk_at "side"
    · walk_at "side"
    refine for_it (walkR (n := marks.length)) (fun (i : Nat) σ H1 => ∃ (heaps_3 : List (Addr × List Int)) (start_4 : Int) (y_5 : Option V) (y_6 : Option V) (y_7 : Option V), σ = [some (V.ref a_order), some (V.ref a_marks), some (V.ref a_word), some (V.ref l_1), some (V.int start_4), y_5, y_6, y_7, none] ∧ Fr H H1 ((l_1, (.lst (List.map rowRef heaps_3) : HO)) :: rowsOwn heaps_3) ∧ (heaps_3.map (·.2) = heapsTo order marks word i) ∧ (start_4 = (startI word i : Int))) ?_ ?_ ?_ ?_
    · refine ⟨[], 0, _, _, _, rfl, fr, ?_, ?_⟩
      · rfl
      · rfl
    · rintro i σ H1 hi ⟨heaps_3, start_4, y_5, y_6, y_7, rfl, fr, hh, hs⟩
      exact trivial
    · rintro i_8 x_10 s_13 H_11 H_12 hi_9 ⟨heaps_3, start_4, y_5, y_6, y_7, rfl, fr, hh, hs⟩ ⟨rfl, rfl⟩
      have hhl : heaps_3.length = i_8 := by have := congrArg List.length hh; simpa [heapsTo] using this
      refine ⟨_, rfl, (.inl ⟨rfl, _, (SqL.of (fr.same _ _ h_word))⟩), _, rfl, _, _, _, rfl, rfl, (SqL.of (fr.same _ _ h_word)), ?_⟩
      refine ⟨_, rfl, _, rfl, _, rfl, _, rfl, _, rfl, _, _, rfl, rfl, _, rfl, _, _, rfl, (SqL.of (fr.same _ _ h_order)), fun l_14 nl_15 => ?_⟩
      have fr : Fr H _ ((l_14, (.lst (List.map V.int ((cutL order (some start_4) (some ((start_4 + (List.count ((i_8 : Int)) word : Int))))))) : HO)) :: (l_1, (.lst (List.map rowRef heaps_3) : HO)) :: rowsOwn heaps_3) := (fr.new nl_15).cast (lst_cut _ _ _ _)
      refine ⟨fun σ H1 => ∃ (a_law_cards_16 : Addr) (cards_17 : List Int), σ = [some (V.ref a_order), some (V.ref a_marks), some (V.ref a_word), some (V.ref l_1), some (V.int start_4), some (V.int ((i_8 : Int))), some (V.int ((List.count ((i_8 : Int)) word : Int))), some (V.ref a_law_cards_16), none] ∧ Fr H H1 ((a_law_cards_16, (.lst (List.map V.int cards_17) : HO)) :: (l_1, (.lst (List.map rowRef heaps_3) : HO)) :: rowsOwn heaps_3) ∧ (cards_17 = heapI order marks word i_8), ?_, ?_⟩
      · refine ⟨_, rfl, _, rfl, _, _, _, _, rfl, rfl, (SqL.of (fr.same _ _ h_marks)), (atD false ?_ ?_), _, rfl, ?_, ?_⟩
        · walk_at "side"
        · walk_at "side"
        · intro h18
          refine iteT ?_
          refine ⟨_, rfl, _, _, rfl, (SqL.of fr.at0), fun l_19 nl_20 => ?_⟩
          have fr : Fr H _ ((l_19, (.lst (List.map V.int ((List.reverse ((cutL order (some start_4) (some ((start_4 + (List.count ((i_8 : Int)) word : Int))))))))) : HO)) :: (l_14, (.lst (List.map V.int ((cutL order (some start_4) (some ((start_4 + (List.count ((i_8 : Int)) word : Int))))))) : HO)) :: (l_1, (.lst (List.map rowRef heaps_3) : HO)) :: rowsOwn heaps_3) := (fr.new nl_20).cast (lst_rev _ _)
          have fr : Fr H _ ((l_19, (.lst (List.map V.int ((List.reverse ((cutL order (some start_4) (some ((start_4 + (List.count ((i_8 : Int)) word : Int))))))))) : HO)) :: (l_1, (.lst (List.map rowRef heaps_3) : HO)) :: rowsOwn heaps_3) := Fr.dk fr 1
          refine ⟨l_19, (List.reverse ((cutL order (some start_4) (some ((start_4 + (List.count ((i_8 : Int)) word : Int))))))), rfl, fr, ?_⟩
          · first | exact heap_t pre0 pre1.1 hi_9 hs (by assumption) | exact heap_f pre0 pre1.1 hi_9 hs (by assumption)
        · intro h18
          refine iteF ?_
          refine ⟨l_14, (cutL order (some start_4) (some ((start_4 + (List.count ((i_8 : Int)) word : Int))))), rfl, fr, ?_⟩
          · first | exact heap_t pre0 pre1.1 hi_9 hs (by assumption) | exact heap_f pre0 pre1.1 hi_9 hs (by assumption)
      rintro s_22 H_21 ⟨a_law_cards_16, cards_17, rfl, fr, hc⟩
      refine ⟨_, rfl, (.inl ⟨rfl, _, (SqL.of fr.at1)⟩), _, rfl, _, _, _, rfl, rfl, fr.at1, ?_, ?_⟩
      · walk_at "size"
      have fr : Fr H _ ((a_law_cards_16, (.lst (List.map V.int cards_17) : HO)) :: (l_1, (.lst (List.map rowRef ((heaps_3 ++ [(a_law_cards_16, cards_17)]))) : HO)) :: rowsOwn heaps_3) := Fr.wrk fr 1 rfl (lst_app rowRef _ _)
      have fr : Fr H _ ((l_1, (.lst (List.map rowRef ((heaps_3 ++ [(a_law_cards_16, cards_17)]))) : HO)) :: rowsOwn ((heaps_3 ++ [(a_law_cards_16, cards_17)]))) := Fr.rowin (pre := [(l_1, (.lst (List.map rowRef ((heaps_3 ++ [(a_law_cards_16, cards_17)]))) : HO))]) (rows := heaps_3) fr
      refine ⟨_, rfl, _, rfl, _, _, rfl, rfl, ?_⟩
      refine ⟨(heaps_3 ++ [(a_law_cards_16, cards_17)]), (start_4 + (List.count ((i_8 : Int)) word : Int)), _, _, _, rfl, fr, ?_, ?_⟩
      · rw [List.map_append, hh, hc]; exact (heapsTo_next _ _ _ _).symm
      · rw [hs]; rfl
    rintro s_24 H_23 ⟨heaps_3, start_4, y_5, y_6, y_7, rfl, fr, hh, hs⟩
    refine ⟨(Evl.sz_of (show 0 ≤ 100000 by decide)), fun l_25 nl_26 => ?_⟩
    have fr : Fr H _ ((l_25, (.lst [] : HO)) :: (l_1, (.lst (List.map rowRef heaps_3) : HO)) :: rowsOwn heaps_3) := fr.new nl_26
    have fr : Fr H _ ((l_25, (.lst (List.map V.int ([])) : HO)) :: (l_1, (.lst (List.map rowRef heaps_3) : HO)) :: rowsOwn heaps_3) := fr
    refine ⟨_, rfl, _, rfl, ⟨_, (SqL.of (fr.same _ _ h_word))⟩, ?_⟩
    refine for_it (walkL V.int word) (fun (i : Nat) σ H1 => ∃ (heaps_27 : List (Addr × List Int)) (y_28 : Option V) (out_29 : List Int), σ = [some (V.ref a_order), some (V.ref a_marks), some (V.ref a_word), some (V.ref l_1), some (V.int start_4), y_28, y_6, y_7, some (V.ref l_25)] ∧ Fr H H1 ((l_25, (.lst (List.map V.int out_29) : HO)) :: (l_1, (.lst (List.map rowRef heaps_27) : HO)) :: rowsOwn heaps_27) ∧ (out_29 = riffTo order marks word i) ∧ (heaps_27.map (·.2) = heapsAt order marks word i)) ?_ ?_ ?_ ?_
    · refine ⟨heaps_3, _, [], rfl, fr, ?_, ?_⟩
      · rfl
      · exact hh.trans (heapsAt_zero _ _ _).symm
    · rintro i σ H1 hi ⟨heaps_27, y_28, out_29, rfl, fr, ho, hh⟩
      exact (fr.same _ _ h_word)
    · rintro i_30 x_32 s_35 H_33 H_34 hi_31 ⟨heaps_27, y_28, out_29, rfl, fr, ho, hh⟩ ⟨rfl, y_36, hy_37, rfl⟩
      have hb := pre0.at hy_37
      have hhl : heaps_27.length = marks.length := by have := congrArg List.length hh; simpa [heapsAt] using this
      have hrow := heapsAt_row (by omega) hb hh
      have hrl := heapAt_length (o := order) (i := i_30) pre0 (by omega) hy_37
      have hol : out_29.length = i_30 := by rw [ho]; simp [riffTo]
      have hlt_38 : (Int.toNat y_36) < List.length heaps_27 := by omega
      refine ⟨_, rfl, (.inl ⟨rfl, _, (SqL.of fr.at0)⟩), _, rfl, _, rfl, _, _, _, _, rfl, rfl, (SqL.of fr.at1), (atD (0, []) ?_ ?_), _, _, _, _, rfl, rfl, (SqL.of (Fr.rowat (pre := [(l_25, (.lst (List.map V.int out_29) : HO)), (l_1, (.lst (List.map rowRef heaps_27) : HO))]) fr (0, []) hlt_38)), (atD 0 ?_ ?_), _, _, _, rfl, rfl, fr.at0, ?_, ?_⟩
      · walk_at "side"
      · walk_at "side"
      · first | omega | (rw [hrow]; omega)
      · first | omega | (rw [hrow]; omega)
      · walk_at "size"
      have fr : Fr H _ ((l_25, (.lst (List.map V.int ((out_29 ++ [(List.getD ((List.getD heaps_27 (Int.toNat y_36) (0, [])).2) (Int.toNat 0) 0)]))) : HO)) :: (l_1, (.lst (List.map rowRef heaps_27) : HO)) :: rowsOwn heaps_27) := Fr.wrk fr 0 rfl (lst_app V.int _ _)
      have hlt_39 : (Int.toNat y_36) < List.length heaps_27 := by omega
      refine ⟨_, rfl, _, rfl, _, _, _, _, rfl, rfl, (SqL.of fr.at1), (atD (0, []) ?_ ?_), _, rfl, _, _, rfl, (SqL.of (Fr.rowat (pre := [(l_25, (.lst (List.map V.int ((out_29 ++ [(List.getD ((List.getD heaps_27 (Int.toNat y_36) (0, [])).2) (Int.toNat 0) 0)]))) : HO)), (l_1, (.lst (List.map rowRef heaps_27) : HO))]) fr (0, []) hlt_39)), fun l_40 nl_41 => ?_⟩
      · walk_at "side"
      · walk_at "side"
      have fr : Fr H _ ((l_40, (.lst (List.map V.int ((cutL ((List.getD heaps_27 (Int.toNat y_36) (0, [])).2) (some 1) none))) : HO)) :: (l_25, (.lst (List.map V.int ((out_29 ++ [(List.getD ((List.getD heaps_27 (Int.toNat y_36) (0, [])).2) (Int.toNat 0) 0)]))) : HO)) :: (l_1, (.lst (List.map rowRef heaps_27) : HO)) :: rowsOwn heaps_27) := (fr.new nl_41).cast (lst_cut _ _ _ _)
      have hlt_42 : (Int.toNat y_36) < List.length heaps_27 := by omega
      refine ⟨_, rfl, _, rfl, _, _, _, _, rfl, rfl, fr.at2, (ixDm ?_ ?_), ?_⟩
      · walk_at "side"
      · walk_at "side"
      have fr : Fr H _ ((l_40, (.lst (List.map V.int ((cutL ((List.getD heaps_27 (Int.toNat y_36) (0, [])).2) (some 1) none))) : HO)) :: (l_25, (.lst (List.map V.int ((out_29 ++ [(List.getD ((List.getD heaps_27 (Int.toNat y_36) (0, [])).2) (Int.toNat 0) 0)]))) : HO)) :: (l_1, (.lst (List.map rowRef ((List.set heaps_27 (Int.toNat y_36) (l_40, (cutL ((List.getD heaps_27 (Int.toNat y_36) (0, [])).2) (some 1) none))))) : HO)) :: rowsOwn heaps_27) := Fr.wrk fr 2 rfl (lst_set rowRef _ _ _)
      have fr : Fr H _ ((l_25, (.lst (List.map V.int ((out_29 ++ [(List.getD ((List.getD heaps_27 (Int.toNat y_36) (0, [])).2) (Int.toNat 0) 0)]))) : HO)) :: (l_1, (.lst (List.map rowRef ((List.set heaps_27 (Int.toNat y_36) (l_40, (cutL ((List.getD heaps_27 (Int.toNat y_36) (0, [])).2) (some 1) none))))) : HO)) :: rowsOwn ((List.set heaps_27 (Int.toNat y_36) (l_40, (cutL ((List.getD heaps_27 (Int.toNat y_36) (0, [])).2) (some 1) none))))) := Fr.rowset (pre := [(l_25, (.lst (List.map V.int ((out_29 ++ [(List.getD ((List.getD heaps_27 (Int.toNat y_36) (0, [])).2) (Int.toNat 0) 0)]))) : HO)), (l_1, (.lst (List.map rowRef ((List.set heaps_27 (Int.toNat y_36) (l_40, (cutL ((List.getD heaps_27 (Int.toNat y_36) (0, [])).2) (some 1) none))))) : HO))]) fr hlt_42
      refine ⟨(List.set heaps_27 (Int.toNat y_36) (l_40, (cutL ((List.getD heaps_27 (Int.toNat y_36) (0, [])).2) (some 1) none))), _, (out_29 ++ [(List.getD ((List.getD heaps_27 (Int.toNat y_36) (0, [])).2) (Int.toNat 0) 0)]), rfl, fr, ?_, ?_⟩
      · rw [ho, hrow]; exact riffTo_next pre0 (by omega) hy_37
      · rw [List.map_set, hh]; exact heapsAt_next pre0 hy_37 (by rw [cut_one (by rw [hrow]; omega), hrow])
    rintro s_44 H_43 ⟨heaps_27, y_28, out_29, rfl, fr, ho, hh⟩
    refine ⟨_, rfl, ?_⟩
    exact q _ _ out_29 (by rw [ho]; exact riffTo_all pre0 (by omega)) fr.same fr.n0 fr.at0
def sp_law_words (K : PySem.W.Frag) : Sp := fun vs H Q _ => ∃ (heaps : Int) (n : Int), vs = [V.int heaps, V.int n] ∧ (1 ≤ heaps ∧ heaps ≤ 4) ∧ (0 ≤ n ∧ n ≤ 5) ∧ (∀ (H1 : Hp) (rA : Addr) (rows : List (RO (List Int))) (res : List (List Int)), (res = allW (Int.toNat heaps) (Int.toNat n)) → TabN H H1 gI rA rows res → Same H H1 → Q (V.ref rA) H1)
theorem sc_law_words : FnScope ["_law_heaps_here", "_law_n", "_law_words_here", "_law_k", "_law_longer", "_law_word_here", "_law_heap"] ["_law_heaps_here", "_law_n"] (defScope s_law_words) := ⟨rfl, rfl, rfl, by decide +kernel, rfl, by decide +kernel, by decide +kernel⟩
theorem ok_law_words (T : Txt K mg base) : FnOk P w K mg base CX0 1 T.f_law_words T.fd_law_words ["_law_heaps_here", "_law_n"] (sp_law_words K) := by
  refine T.F_law_words.ok sc_law_words (fun vs H Q E h => ?_) (fun cdv A outer s H vs Q E hr h => ?_)
  · obtain ⟨heaps, n, rfl, _⟩ := h; rfl
  · obtain ⟨heaps, n, rfl, pre0, pre1, q⟩ := h
    have fr := Fr.nil H
    refine ⟨_, (pss_cons (ps_set (i := 2) sc_law_words.nd rfl (Or.inl rfl) (pe_lst (pa_cons (pe_lst pa_nil) pa_nil)))
          (pss_cons (ps_for PassesOwn.never rfl (pi_range1 (by rfl) T.m_range (pa_cons (pv 1) pa_nil)) (pg_name (i := 3) sc_law_words.nd rfl (Or.inl rfl)) (pss_cons (ps_set (i := 4) sc_law_words.nd rfl (Or.inl rfl) (pe_lst pa_nil))
          (pss_cons (ps_for PassesOwn.never rfl (pi_list (pv 2)) (pg_name (i := 5) sc_law_words.nd rfl (Or.inl rfl)) (pss_one (ps_for PassesOwn.never rfl (pi_range1 (by rfl) T.m_range (pa_cons (pv 0) pa_nil)) (pg_name (i := 6) sc_law_words.nd rfl (Or.inl rfl)) (pss_one (ps_expr (pe_bmK (K := K) (pe_bm PySem.F.plainAttrs_list PySem.F.slot_list_append PySem.F.type_list_append mt_append (pv 4) (pa_cons (pe_op op_cat (pv 5) (pe_lst (pa_cons (pv 6) pa_nil))) pa_nil))))))))
          (pss_one (ps_set (i := 2) sc_law_words.nd rfl (Or.inl rfl) (pv 4))))))
          (pss_one (ps_ret (pv 2))))), ?_⟩
    refine ⟨(Evl.sz_of (show 0 ≤ 100000 by decide)), fun l_1 nl_2 => ?_⟩
    have fr : Fr H _ [(l_1, (.lst [] : HO))] := fr.new nl_2
    refine ⟨(Evl.sz_of (show 1 ≤ 100000 by decide)), fun l_3 nl_4 => ?_⟩
    have fr : Fr H _ [(l_3, (.lst [V.ref l_1] : HO)), (l_1, (.lst [] : HO))] := fr.new nl_4
    refine ⟨_, rfl, _, rfl, ?_, ?_, ?_⟩
    · walk_at "side"
    · walk_at "side"
    have fr : Fr H _ [(l_3, (.lst [V.ref l_1] : HO)), (l_1, (.lst (List.map V.int ([])) : HO))] := fr
    have fr : Fr H _ [(l_1, (.lst (List.map V.int ([])) : HO)), (l_3, (.lst [V.ref l_1] : HO))] := Fr.upk fr 1 rfl
    have fr : Fr H _ ([(l_3, (.lst [V.ref l_1] : HO))] ++ List.flatten [rosOwn gI (([(l_1, [])] : List (RO (List Int))))]) := Fr.rnew (g := gI) (pre := [(l_3, (.lst [V.ref l_1] : HO))]) (ts := []) (x := []) fr
    have fr : Fr H _ ([(l_3, (.lst (List.map rref (([(l_1, [])] : List (RO (List Int))))) : HO))] ++ List.flatten [rosOwn gI (([(l_1, [])] : List (RO (List Int))))]) := fr
    refine for_it (walkR (n := (Int.toNat n))) (fun (i : Nat) σ H1 => ∃ (a_law_words_5 : Addr) (r_law_words_6 : List (RO (List Int))) (words_7 : List (List Int)) (y_8 : Option V) (y_9 : Option V) (y_10 : Option V) (y_11 : Option V), σ = [some (V.int heaps), some (V.int n), some (V.ref a_law_words_5), y_8, y_9, y_10, y_11] ∧ Fr H H1 ([(a_law_words_5, (.lst (List.map rref r_law_words_6) : HO))] ++ List.flatten [rosOwn gI r_law_words_6]) ∧ (r_law_words_6.map (·.2) = words_7) ∧ (words_7 = allW (Int.toNat heaps) i)) ?_ ?_ ?_ ?_
    · refine ⟨l_3, ([(l_1, [])] : List (RO (List Int))), ([[]] : List (List Int)), _, _, _, _, rfl, fr, ?_, ?_⟩
      · exact rfl
      · rfl
    · rintro i σ H1 hi ⟨a_law_words_5, r_law_words_6, words_7, y_8, y_9, y_10, y_11, rfl, fr, hC__law_words_here, hw⟩
      exact trivial
    · rintro i_12 x_14 s_17 H_15 H_16 hi_13 ⟨a_law_words_5, r_law_words_6, words_7, y_8, y_9, y_10, y_11, rfl, fr, hC__law_words_here, hw⟩ ⟨rfl, rfl⟩
      have hwl : words_7.length ≤ 1024 := by rw [hw]; exact allW_le (by omega) (by omega)
      refine ⟨(Evl.sz_of (show 0 ≤ 100000 by decide)), fun l_18 nl_19 => ?_⟩
      have fr : Fr H _ ([(l_18, (.lst [] : HO)), (a_law_words_5, (.lst (List.map rref r_law_words_6) : HO))] ++ List.flatten [rosOwn gI r_law_words_6]) := fr.new nl_19
      refine ⟨_, rfl, _, rfl, ⟨_, (SqL.of fr.at1)⟩, ?_⟩
      refine for_it (walkT (K := K) (a := a_law_words_5) (rows := r_law_words_6) hC__law_words_here) (fun (i : Nat) σ H1 => ∃ (r_law_longer_20 : List (RO (List Int))) (longer_21 : List (List Int)) (y_22 : Option V) (y_23 : Option V), σ = [some (V.int heaps), some (V.int n), some (V.ref a_law_words_5), some (V.int ((i_12 : Int))), some (V.ref l_18), y_22, y_23] ∧ Fr H H1 ([(l_18, (.lst (List.map rref r_law_longer_20) : HO)), (a_law_words_5, (.lst (List.map rref r_law_words_6) : HO))] ++ List.flatten [rosOwn gI r_law_longer_20, rosOwn gI r_law_words_6]) ∧ (r_law_longer_20.map (·.2) = longer_21) ∧ (longer_21 = allTo (Int.toNat heaps) words_7 i)) ?_ ?_ ?_ ?_
      · have fr : Fr H _ ([(l_18, (.lst [] : HO)), (a_law_words_5, (.lst (List.map rref r_law_words_6) : HO))] ++ List.flatten [rosOwn gI ([]), rosOwn gI r_law_words_6]) := fr
        refine ⟨[], [], _, _, rfl, fr, ?_, ?_⟩
        · exact rfl
        · rfl
      · rintro i σ H1 hi ⟨r_law_longer_20, longer_21, y_22, y_23, rfl, fr, hC__law_longer, hv⟩
        exact fr.at1
      · rintro i_24 x_26 s_29 H_27 H_28 hi_25 ⟨r_law_longer_20, longer_21, y_22, y_23, rfl, fr, hC__law_longer, hv⟩ ⟨rfl, y_30, hr_31, hy_32, rfl⟩
        have hwr : y_30.2.length ≤ 5 := by
          have hm := List.mem_of_getElem? hy_32
          rw [hw] at hm
          have := (mem_allW.mp hm).1
          omega
        refine ⟨_, rfl, _, rfl, ?_, ?_, ?_⟩
        · walk_at "side"
        · walk_at "side"
        refine for_it (walkR (n := (Int.toNat heaps))) (fun (i : Nat) σ H1 => ∃ (r_law_longer_33 : List (RO (List Int))) (longer_34 : List (List Int)) (y_35 : Option V), σ = [some (V.int heaps), some (V.int n), some (V.ref a_law_words_5), some (V.int ((i_12 : Int))), some (V.ref l_18), some (V.ref y_30.1), y_35] ∧ Fr H H1 ([(l_18, (.lst (List.map rref r_law_longer_33) : HO)), (a_law_words_5, (.lst (List.map rref r_law_words_6) : HO))] ++ List.flatten [rosOwn gI r_law_longer_33, rosOwn gI r_law_words_6]) ∧ (r_law_longer_33.map (·.2) = longer_34) ∧ (longer_34 = allTo (Int.toNat heaps) words_7 i_24 ++ (List.range i).map (fun h : Nat => y_30.2 ++ [(h : Int)]))) ?_ ?_ ?_ ?_
        · have fr : Fr H _ ([(l_18, (.lst (List.map rref r_law_longer_20) : HO)), (a_law_words_5, (.lst (List.map rref r_law_words_6) : HO))] ++ List.flatten [rosOwn gI r_law_words_6, rosOwn gI r_law_longer_20]) := Fr.tup (pre := [(l_18, (.lst (List.map rref r_law_longer_20) : HO)), (a_law_words_5, (.lst (List.map rref r_law_words_6) : HO))]) (ts := [rosOwn gI r_law_longer_20, rosOwn gI r_law_words_6]) fr 1 rfl
          have fr : Fr H _ ([(l_18, (.lst (List.map rref r_law_longer_20) : HO)), (a_law_words_5, (.lst (List.map rref r_law_words_6) : HO))] ++ List.flatten [rosOwn gI r_law_longer_20, rosOwn gI r_law_words_6]) := Fr.tup (pre := [(l_18, (.lst (List.map rref r_law_longer_20) : HO)), (a_law_words_5, (.lst (List.map rref r_law_words_6) : HO))]) (ts := [rosOwn gI r_law_words_6, rosOwn gI r_law_longer_20]) fr 1 rfl
          refine ⟨r_law_longer_20, longer_21, _, rfl, fr, ?_, ?_⟩
          · exact hC__law_longer
          · rw [hv]; simp
        · rintro i σ H1 hi ⟨r_law_longer_33, longer_34, y_35, rfl, fr, hC__law_longer, hu⟩
          exact trivial
        · rintro i_36 x_38 s_41 H_39 H_40 hi_37 ⟨r_law_longer_33, longer_34, y_35, rfl, fr, hC__law_longer, hu⟩ ⟨rfl, rfl⟩
          have htl : longer_34.length ≤ 10000 := by
            rw [hu, List.length_append, allTo_length (by omega), List.length_map, List.length_range]
            have := Nat.mul_le_mul (show i_24 ≤ 1024 by omega) (show (Int.toNat heaps) ≤ 4 by omega)
            omega
          refine ⟨_, rfl, (.inl ⟨rfl, _, (SqL.of fr.at0)⟩), _, rfl, _, rfl, (Evl.sz_of (show 1 ≤ 100000 by decide)), fun l_42 nl_43 => ?_⟩
          have fr : Fr H _ ([(l_42, (.lst (List.map V.int ([(i_36 : Int)])) : HO)), (l_18, (.lst (List.map rref r_law_longer_33) : HO)), (a_law_words_5, (.lst (List.map rref r_law_words_6) : HO))] ++ List.flatten [rosOwn gI r_law_longer_33, rosOwn gI r_law_words_6]) := fr.new nl_43
          refine ⟨_, _, _, _, rfl, rfl, (Fr.rmem (pre := [(l_42, (.lst (List.map V.int ([(i_36 : Int)])) : HO)), (l_18, (.lst (List.map rref r_law_longer_33) : HO)), (a_law_words_5, (.lst (List.map rref r_law_words_6) : HO))]) (ts := [rosOwn gI r_law_longer_33, rosOwn gI r_law_words_6]) fr 1 rfl (List.mem_of_getElem? hr_31)), fr.at0, ?_, fun l_44 nl_45 => ?_⟩
          · walk_at "size"
          have fr : Fr H _ ([(l_44, (.lst (List.map V.int ((y_30.2 ++ ([(i_36 : Int)])))) : HO)), (l_42, (.lst (List.map V.int ([(i_36 : Int)])) : HO)), (l_18, (.lst (List.map rref r_law_longer_33) : HO)), (a_law_words_5, (.lst (List.map rref r_law_words_6) : HO))] ++ List.flatten [rosOwn gI r_law_longer_33, rosOwn gI r_law_words_6]) := (fr.new nl_45).cast (lst_cat _ _ _)
          refine ⟨_, _, _, rfl, rfl, fr.at2, ?_, ?_⟩
          · rw [len_rows hC__law_longer]; exact Evl.sz_lt (by omega)
          have fr : Fr H _ ([(l_44, (.lst (List.map V.int ((y_30.2 ++ ([(i_36 : Int)])))) : HO)), (l_42, (.lst (List.map V.int ([(i_36 : Int)])) : HO)), (l_18, (.lst (List.map rref ((r_law_longer_33 ++ [(l_44, (y_30.2 ++ ([(i_36 : Int)])))]))) : HO)), (a_law_words_5, (.lst (List.map rref r_law_words_6) : HO))] ++ List.flatten [rosOwn gI r_law_longer_33, rosOwn gI r_law_words_6]) := Fr.wrk fr 2 rfl (lst_rref_app (rows := r_law_longer_33) (x := (y_30.2 ++ ([(i_36 : Int)]))))
          have fr : Fr H _ ([(l_42, (.lst (List.map V.int ([(i_36 : Int)])) : HO)), (l_18, (.lst (List.map rref ((r_law_longer_33 ++ [(l_44, (y_30.2 ++ ([(i_36 : Int)])))]))) : HO)), (a_law_words_5, (.lst (List.map rref r_law_words_6) : HO))] ++ List.flatten [rosOwn gI ((r_law_longer_33 ++ [(l_44, (y_30.2 ++ ([(i_36 : Int)])))])), rosOwn gI r_law_words_6]) := Fr.radd (g := gI) (pre := [(l_42, (.lst (List.map V.int ([(i_36 : Int)])) : HO)), (l_18, (.lst (List.map rref ((r_law_longer_33 ++ [(l_44, (y_30.2 ++ ([(i_36 : Int)])))]))) : HO)), (a_law_words_5, (.lst (List.map rref r_law_words_6) : HO))]) (ts := [rosOwn gI r_law_words_6]) (rows := r_law_longer_33) (x := (y_30.2 ++ ([(i_36 : Int)]))) fr
          have fr : Fr H _ ([(l_18, (.lst (List.map rref ((r_law_longer_33 ++ [(l_44, (y_30.2 ++ ([(i_36 : Int)])))]))) : HO)), (a_law_words_5, (.lst (List.map rref r_law_words_6) : HO))] ++ List.flatten [rosOwn gI ((r_law_longer_33 ++ [(l_44, (y_30.2 ++ ([(i_36 : Int)])))])), rosOwn gI r_law_words_6]) := Fr.dk fr 0
          have fr : Fr H _ ([(l_18, (.lst (List.map rref ((r_law_longer_33 ++ [(l_44, (y_30.2 ++ ([(i_36 : Int)])))]))) : HO)), (a_law_words_5, (.lst (List.map rref r_law_words_6) : HO))] ++ List.flatten [rosOwn gI r_law_words_6, rosOwn gI ((r_law_longer_33 ++ [(l_44, (y_30.2 ++ ([(i_36 : Int)])))]))]) := Fr.tup (pre := [(l_18, (.lst (List.map rref ((r_law_longer_33 ++ [(l_44, (y_30.2 ++ ([(i_36 : Int)])))]))) : HO)), (a_law_words_5, (.lst (List.map rref r_law_words_6) : HO))]) (ts := [rosOwn gI ((r_law_longer_33 ++ [(l_44, (y_30.2 ++ ([(i_36 : Int)])))])), rosOwn gI r_law_words_6]) fr 1 rfl
          have fr : Fr H _ ([(l_18, (.lst (List.map rref ((r_law_longer_33 ++ [(l_44, (y_30.2 ++ ([(i_36 : Int)])))]))) : HO)), (a_law_words_5, (.lst (List.map rref r_law_words_6) : HO))] ++ List.flatten [rosOwn gI ((r_law_longer_33 ++ [(l_44, (y_30.2 ++ ([(i_36 : Int)])))])), rosOwn gI r_law_words_6]) := Fr.tup (pre := [(l_18, (.lst (List.map rref ((r_law_longer_33 ++ [(l_44, (y_30.2 ++ ([(i_36 : Int)])))]))) : HO)), (a_law_words_5, (.lst (List.map rref r_law_words_6) : HO))]) (ts := [rosOwn gI r_law_words_6, rosOwn gI ((r_law_longer_33 ++ [(l_44, (y_30.2 ++ ([(i_36 : Int)])))]))]) fr 1 rfl
          refine ⟨(r_law_longer_33 ++ [(l_44, (y_30.2 ++ ([(i_36 : Int)])))]), (longer_34 ++ [(y_30.2 ++ ([(i_36 : Int)]))]), _, rfl, fr, ?_, ?_⟩
          · exact (snd_app (p := l_44) (x := (y_30.2 ++ ([(i_36 : Int)]))) hC__law_longer)
          · rw [hu, List.range_succ, List.map_append, List.append_assoc]; rfl
        rintro s_47 H_46 ⟨r_law_longer_33, longer_34, y_35, rfl, fr, hC__law_longer, hu⟩
        have fr : Fr H _ ([(l_18, (.lst (List.map rref r_law_longer_33) : HO)), (a_law_words_5, (.lst (List.map rref r_law_words_6) : HO))] ++ List.flatten [rosOwn gI r_law_words_6, rosOwn gI r_law_longer_33]) := Fr.tup (pre := [(l_18, (.lst (List.map rref r_law_longer_33) : HO)), (a_law_words_5, (.lst (List.map rref r_law_words_6) : HO))]) (ts := [rosOwn gI r_law_longer_33, rosOwn gI r_law_words_6]) fr 1 rfl
        have fr : Fr H _ ([(l_18, (.lst (List.map rref r_law_longer_33) : HO)), (a_law_words_5, (.lst (List.map rref r_law_words_6) : HO))] ++ List.flatten [rosOwn gI r_law_longer_33, rosOwn gI r_law_words_6]) := Fr.tup (pre := [(l_18, (.lst (List.map rref r_law_longer_33) : HO)), (a_law_words_5, (.lst (List.map rref r_law_words_6) : HO))]) (ts := [rosOwn gI r_law_words_6, rosOwn gI r_law_longer_33]) fr 1 rfl
        refine ⟨r_law_longer_33, longer_34, _, _, rfl, fr, ?_, ?_⟩
        · exact hC__law_longer
        · rw [hu]; exact allTo_next hy_32
      rintro s_49 H_48 ⟨r_law_longer_20, longer_21, y_22, y_23, rfl, fr, hC__law_longer, hv⟩
      refine ⟨_, rfl, ?_⟩
      have fr : Fr H _ ([(l_18, (.lst (List.map rref r_law_longer_20) : HO)), (a_law_words_5, (.lst (List.map rref r_law_words_6) : HO))] ++ List.flatten [rosOwn gI r_law_longer_20]) := Fr.tdrop (pre := [(l_18, (.lst (List.map rref r_law_longer_20) : HO)), (a_law_words_5, (.lst (List.map rref r_law_words_6) : HO))]) (ts := [rosOwn gI r_law_longer_20, rosOwn gI r_law_words_6]) fr 1 rfl
      have fr : Fr H _ ([(l_18, (.lst (List.map rref r_law_longer_20) : HO))] ++ List.flatten [rosOwn gI r_law_longer_20]) := Fr.dk fr 1
      refine ⟨l_18, r_law_longer_20, longer_21, _, _, _, _, rfl, fr, ?_, ?_⟩
      · exact hC__law_longer
      · rw [hv, hw]; exact allTo_all _ _
    rintro s_51 H_50 ⟨a_law_words_5, r_law_words_6, words_7, y_8, y_9, y_10, y_11, rfl, fr, hC__law_words_here, hw⟩
    refine ⟨_, rfl, ?_⟩
    exact q _ _ _ words_7 (by exact hw) (Fr.tabback (g := gI) (pre := []) (ts := []) (rows := r_law_words_6) fr hC__law_words_here) fr.same
def sp_law_due {K : PySem.W.Frag} {mg : Str → Option Value} {base : Heap} (T : Txt K mg base) : Sp := fun vs H Q _ => ∃ (a_order : Addr) (order : List Int) (a_marks : Addr) (marks : List Bool) (lam : LT) (Hm : Hp), vs = [V.ref a_order, V.ref a_marks] ∧ Lent Hm H ([] ++ List.flatten [ctOwn T.P_lam q_lam lam]) ∧ Hm a_order = some (.lst (List.map V.int order)) ∧ Hm a_marks = some (.lst (List.map V.bl marks)) ∧ (IsOrd order) ∧ (1 ≤ order.length ∧ order.length ≤ 5 ∧ 1 ≤ marks.length ∧ marks.length ≤ 4) ∧ (∀ (H1 : Hp) (lam' : LT) (rA : Addr) (r_res : List (RO (List Int))) (res : List (List Int)), (res = waysL order marks) → (List.map (·.2) r_res = res) → Fr Hm H1 ([(rA, (.lst (List.map rref r_res) : HO))] ++ List.flatten [ctOwn T.P_lam q_lam lam', rosOwn gI r_res]) → Q (V.ref rA) H1)
theorem sc_law_due : FnScope ["_law_order_here", "_law_marks_here", "_law_n", "_law_start", "_law_found", "_law_k", "_law_word_here"] ["_law_order_here", "_law_marks_here"] (defScope s_law_due) := ⟨rfl, rfl, rfl, by decide +kernel, rfl, by decide +kernel, by decide +kernel⟩
theorem ok_law_due (T : Txt K mg base) : FnOk P w K mg base CX0 5 T.f_law_due T.fd_law_due ["_law_order_here", "_law_marks_here"] (sp_law_due T) := by
  refine T.FC_law_due.ok sc_law_due (fun vs H Q E h => ?_) (fun A outer s H vs Q E hr h => ?_)
  · obtain ⟨a_order, order, a_marks, marks, lam, Hm, rfl, _⟩ := h; rfl
  · obtain ⟨a_order, order, a_marks, marks, lam, Hm, rfl, hl, h_order, h_marks, pre0, pre1, q⟩ := h
    have fr : Fr Hm _ ([] ++ List.flatten [ctOwn T.P_lam q_lam lam]) := hl.fr
    refine ⟨_, (pss_cons (ps_set (i := 2) sc_law_due.nd rfl (Or.inl rfl) (pe_callB (show CallR _ _ (rLenL K) from call_lenL) (by rfl) T.m_len (by decide +kernel) (pa_cons (pv 0) pa_nil)))
          (pss_cons (ps_set (i := 3) sc_law_due.nd rfl (Or.inr rfl) (pe_lc (own := [("_law_k", 5)]) (g := gName 5) (tt := tYes) rfl sc_law_due.nd (pi_range1 (by rfl) T.m_range (pa_cons (pv 2) pa_nil)) (blkOk_by (N := ["_law_order_here", "_law_marks_here", "_law_n", "_law_start", "_law_found", "_law_k", "_law_word_here"]) (sc := (defScope s_law_due)) (by decide +kernel)) (fun _ _ _ _ _ => pg_name (i := 5) sc_law_due.nd rfl (Or.inl rfl)) (fun _ _ _ _ _ => pts_nil) (fun _ _ _ _ _ => (pv 5))))
          (pss_cons (ps_setLc (i := 4) (own := [("_law_word_here", 6)]) (g := gName 6) rfl sc_law_due.nd rfl rfl (sw_true rfl rfl rfl (by decide +kernel)) (pi_list (pe_call (ok_law_words T) (hr.mono (by decide)) (by rfl) T.g_law_words T.F_law_words.kp T.b_law_words .nil pass0 (pa_cons (pe_callB (show CallR _ _ (rLenL K) from call_lenL) (by rfl) T.m_len (by decide +kernel) (pa_cons (pv 1) pa_nil)) (pa_cons (pv 2) pa_nil)))) (blkOk_by (N := ["_law_order_here", "_law_marks_here", "_law_n", "_law_start", "_law_found", "_law_k", "_law_word_here"]) (sc := (defScope s_law_due)) (by decide +kernel)) (fun _ _ _ _ _ => pg_name (i := 6) sc_law_due.nd rfl (Or.inl rfl)) (fun _ _ _ _ _ => pts_one (pt_cmpR (opS (show OpR _ _ (rEqX K) from op_eqX (hu64 hr))) (pe_call (ok_law_riffled T) (hr.mono (by decide)) (by rfl) T.g_law_riffled T.F_law_riffled.kp T.b_law_riffled .nil pass0 (pa_cons (pv 3) (pa_cons (pv 1) (pa_cons (pv 6) pa_nil)))) (pv 0) (nomark _))) (fun _ _ _ _ _ => (pv 6)))
          (pss_one (ps_ret (pe_sortRows (k := 1) (jf := 4) (jo := 0) (by rfl) T.m_sorted T.TB_lam rfl (hr.mono (by decide)) (lamP_by (show lamPB (defScope s_law_due) _ _ = true by decide +kernel)) (by decide) rfl (Or.inl rfl) rfl rfl (fun _ _ _ _ _ _ => rfl) (fun _ _ _ _ _ _ _ hr2 => pe_call (ok_law_heaps T) (hr2.mono (by decide)) (by rfl) T.g_law_heaps T.F_law_heaps.kp T.b_law_heaps .nil pass0 (pa_cons (pv 1) (pa_cons (pv 0) pa_nil))))))))), ?_⟩
    refine ⟨_, rfl, _, _, _, rfl, (SqL.of (fr.same _ _ h_order)), (List.length_map _), ?_⟩
    refine ⟨_, rfl, _, rfl, ?_, ?_, ?_⟩
    · walk_at "side"
    · walk_at "side"
    intro D_1 nD_2
    refine lc_it (walkR (n := order.length)) (fun (i : Nat) H1 => Fr Hm H1 ([(D_1, (.lst (List.map V.int ((List.map (fun i : Nat => (i : Int)) (List.range i)))) : HO))] ++ List.flatten [ctOwn T.P_lam q_lam lam])) (fr.new nD_2) (fun i H1 hi fr => trivial) ?_ ?_
    · rintro i_4 x_8 H_6 H_7 hi_5 fr ⟨rfl, rfl⟩
      refine ⟨rfl, ?_⟩
      refine ⟨_, rfl, _, (Fr.atk fr 0 rfl), ?_, ?_⟩
      · walk_at "csize"
      exact (Fr.wr fr).cast (lc_r _ _)
    intro H_9 fr
    have fr : Fr Hm _ ([(D_1, (.lst (List.map V.int ((List.map (fun i : Nat => (i : Int)) (List.range order.length)))) : HO))] ++ List.flatten [ctOwn T.P_lam q_lam lam]) := fr
    refine ⟨_, rfl, _, _, _, rfl, (SqL.of (fr.same _ _ h_marks)), (List.length_map _), _, rfl, ((marks.length : Int)), ((order.length : Int)), rfl, ?_, ?_, fun H_10 p_14 rw_15 words_11 hp_13 tn_16 sm_12 => ?_⟩
    · omega
    · omega
    have fr : Fr Hm _ ([(p_14, (.lst (List.map rref rw_15) : HO)), (D_1, (.lst (List.map V.int ((List.map (fun i : Nat => (i : Int)) (List.range order.length)))) : HO))] ++ List.flatten [rosOwn gI rw_15, ctOwn T.P_lam q_lam lam]) := Fr.ctab (pre := [(D_1, (.lst (List.map V.int ((List.map (fun i : Nat => (i : Int)) (List.range order.length)))) : HO))]) (ts := [ctOwn T.P_lam q_lam lam]) fr sm_12 tn_16
    subst hp_13
    replace tn_16 : TabN _ _ gI p_14 rw_15 (((allW marks.length order.length))) := tn_16
    have hwle := allW_le (m := marks.length) (n := order.length) (by omega) (by omega)
    refine ⟨_, rfl, ⟨_, (SqL.of fr.at0)⟩, ?_⟩
    intro D_17 nD_18
    refine lc_it (walkT (K := K) (a := p_14) (rows := rw_15) tn_16.c) (fun (i : Nat) H1 => Fr Hm H1 ([(D_17, (.lst (List.map rref ((List.filter (fun z : RO (List Int) => decide (riffleI (upto order.length) marks z.2 = order)) (List.take i rw_15)))) : HO)), (p_14, (.lst (List.map rref rw_15) : HO)), (D_1, (.lst (List.map V.int ((List.map (fun i : Nat => (i : Int)) (List.range order.length)))) : HO))] ++ List.flatten [rosOwn gI rw_15, ctOwn T.P_lam q_lam lam])) (fr.new nD_18) (fun i H1 hi fr => fr.at1) ?_ ?_
    · rintro i_19 x_23 H_21 H_22 hi_20 fr ⟨rfl, y_24, hr_25, hy_26, rfl⟩
      refine ⟨rfl, ?_⟩
      have hwm := mem_allW.mp (List.mem_of_getElem? hy_26)
      refine ⟨_, rfl, _, rfl, _, rfl, D_1, ((List.map (fun i : Nat => (i : Int)) (List.range order.length))), a_marks, marks, y_24.1, y_24.2, rfl, fr.at2, (fr.same _ _ h_marks), (Fr.rmem (pre := [(D_17, (.lst (List.map rref ((List.filter (fun z : RO (List Int) => decide (riffleI (upto order.length) marks z.2 = order)) (List.take i_19 rw_15)))) : HO)), (p_14, (.lst (List.map rref rw_15) : HO)), (D_1, (.lst (List.map V.int ((List.map (fun i : Nat => (i : Int)) (List.range order.length)))) : HO))]) (ts := [rosOwn gI rw_15, ctOwn T.P_lam q_lam lam]) fr 0 rfl (List.mem_of_getElem? hr_25)), ?_, ?_, fun H_27 p_31 riffled_28 hp_30 sm_29 np_32 ep_33 => ?_⟩
      · exact hwm.2
      · simp; omega
      have fr : Fr Hm _ ([(p_31, (.lst (List.map V.int riffled_28) : HO)), (D_17, (.lst (List.map rref ((List.filter (fun z : RO (List Int) => decide (riffleI (upto order.length) marks z.2 = order)) (List.take i_19 rw_15)))) : HO)), (p_14, (.lst (List.map rref rw_15) : HO)), (D_1, (.lst (List.map V.int ((List.map (fun i : Nat => (i : Int)) (List.range order.length)))) : HO))] ++ List.flatten [rosOwn gI rw_15, ctOwn T.P_lam q_lam lam]) := fr.cnew sm_29 np_32 ep_33
      subst hp_30
      refine ⟨_, rfl, _, _, decide (((riffleI ((List.map (fun i : Nat => (i : Int)) (List.range order.length))) marks y_24.2)) = order), (dp_ints fr.at0), (dp_ints (fr.same _ _ h_order)), (Okd.sh (okd_ints _)), (Okd.sh (okd_ints _)), (eqv_ints _ _), _, rfl, ?_, ?_⟩
      · intro h34
        replace h34 := of_decide_eq_true h34
        refine ⟨_, rfl, ?_⟩
        refine iteT ?_
        refine ⟨_, rfl, _, (Fr.atk fr 1 rfl), (sel_len (Nat.le_of_lt hi_20) (by omega)), ?_⟩
        have fr : Fr Hm _ ([(p_31, (.lst (List.map V.int (((riffleI ((List.map (fun i : Nat => (i : Int)) (List.range order.length))) marks y_24.2)))) : HO)), (D_17, (.lst (List.map rref ((List.filter (fun z : RO (List Int) => decide (riffleI (upto order.length) marks z.2 = order)) (List.take i_19 rw_15)))) : HO)), (p_14, (.lst (List.map rref rw_15) : HO)), (D_1, (.lst (List.map V.int ((List.map (fun i : Nat => (i : Int)) (List.range order.length)))) : HO))] ++ List.flatten [ctOwn T.P_lam q_lam lam, rosOwn gI rw_15]) := Fr.tup (pre := [(p_31, (.lst (List.map V.int (((riffleI ((List.map (fun i : Nat => (i : Int)) (List.range order.length))) marks y_24.2)))) : HO)), (D_17, (.lst (List.map rref ((List.filter (fun z : RO (List Int) => decide (riffleI (upto order.length) marks z.2 = order)) (List.take i_19 rw_15)))) : HO)), (p_14, (.lst (List.map rref rw_15) : HO)), (D_1, (.lst (List.map V.int ((List.map (fun i : Nat => (i : Int)) (List.range order.length)))) : HO))]) (ts := [rosOwn gI rw_15, ctOwn T.P_lam q_lam lam]) fr 1 rfl
        have fr : Fr Hm _ ([(p_31, (.lst (List.map V.int (((riffleI ((List.map (fun i : Nat => (i : Int)) (List.range order.length))) marks y_24.2)))) : HO)), (D_17, (.lst (List.map rref ((List.filter (fun z : RO (List Int) => decide (riffleI (upto order.length) marks z.2 = order)) (List.take i_19 rw_15)))) : HO)), (p_14, (.lst (List.map rref rw_15) : HO)), (D_1, (.lst (List.map V.int ((List.map (fun i : Nat => (i : Int)) (List.range order.length)))) : HO))] ++ List.flatten [rosOwn gI rw_15, ctOwn T.P_lam q_lam lam]) := Fr.tup (pre := [(p_31, (.lst (List.map V.int (((riffleI ((List.map (fun i : Nat => (i : Int)) (List.range order.length))) marks y_24.2)))) : HO)), (D_17, (.lst (List.map rref ((List.filter (fun z : RO (List Int) => decide (riffleI (upto order.length) marks z.2 = order)) (List.take i_19 rw_15)))) : HO)), (p_14, (.lst (List.map rref rw_15) : HO)), (D_1, (.lst (List.map V.int ((List.map (fun i : Nat => (i : Int)) (List.range order.length)))) : HO))]) (ts := [ctOwn T.P_lam q_lam lam, rosOwn gI rw_15]) fr 1 rfl
        have fr : Fr Hm _ ([(D_17, (.lst (List.map rref ((List.filter (fun z : RO (List Int) => decide (riffleI (upto order.length) marks z.2 = order)) (List.take i_19 rw_15)))) : HO)), (p_14, (.lst (List.map rref rw_15) : HO)), (D_1, (.lst (List.map V.int ((List.map (fun i : Nat => (i : Int)) (List.range order.length)))) : HO))] ++ List.flatten [rosOwn gI rw_15, ctOwn T.P_lam q_lam lam]) := Fr.dk fr 0
        exact (Fr.wr fr).cast (sel_t hr_25 (by first | exact decide_eq_true (by assumption) | simp_all))
      · intro h34
        replace h34 := of_decide_eq_false h34
        refine ⟨_, rfl, ?_⟩
        refine iteF ?_
        have fr : Fr Hm _ ([(p_31, (.lst (List.map V.int (((riffleI ((List.map (fun i : Nat => (i : Int)) (List.range order.length))) marks y_24.2)))) : HO)), (D_17, (.lst (List.map rref ((List.filter (fun z : RO (List Int) => decide (riffleI (upto order.length) marks z.2 = order)) (List.take i_19 rw_15)))) : HO)), (p_14, (.lst (List.map rref rw_15) : HO)), (D_1, (.lst (List.map V.int ((List.map (fun i : Nat => (i : Int)) (List.range order.length)))) : HO))] ++ List.flatten [ctOwn T.P_lam q_lam lam, rosOwn gI rw_15]) := Fr.tup (pre := [(p_31, (.lst (List.map V.int (((riffleI ((List.map (fun i : Nat => (i : Int)) (List.range order.length))) marks y_24.2)))) : HO)), (D_17, (.lst (List.map rref ((List.filter (fun z : RO (List Int) => decide (riffleI (upto order.length) marks z.2 = order)) (List.take i_19 rw_15)))) : HO)), (p_14, (.lst (List.map rref rw_15) : HO)), (D_1, (.lst (List.map V.int ((List.map (fun i : Nat => (i : Int)) (List.range order.length)))) : HO))]) (ts := [rosOwn gI rw_15, ctOwn T.P_lam q_lam lam]) fr 1 rfl
        have fr : Fr Hm _ ([(p_31, (.lst (List.map V.int (((riffleI ((List.map (fun i : Nat => (i : Int)) (List.range order.length))) marks y_24.2)))) : HO)), (D_17, (.lst (List.map rref ((List.filter (fun z : RO (List Int) => decide (riffleI (upto order.length) marks z.2 = order)) (List.take i_19 rw_15)))) : HO)), (p_14, (.lst (List.map rref rw_15) : HO)), (D_1, (.lst (List.map V.int ((List.map (fun i : Nat => (i : Int)) (List.range order.length)))) : HO))] ++ List.flatten [rosOwn gI rw_15, ctOwn T.P_lam q_lam lam]) := Fr.tup (pre := [(p_31, (.lst (List.map V.int (((riffleI ((List.map (fun i : Nat => (i : Int)) (List.range order.length))) marks y_24.2)))) : HO)), (D_17, (.lst (List.map rref ((List.filter (fun z : RO (List Int) => decide (riffleI (upto order.length) marks z.2 = order)) (List.take i_19 rw_15)))) : HO)), (p_14, (.lst (List.map rref rw_15) : HO)), (D_1, (.lst (List.map V.int ((List.map (fun i : Nat => (i : Int)) (List.range order.length)))) : HO))]) (ts := [ctOwn T.P_lam q_lam lam, rosOwn gI rw_15]) fr 1 rfl
        have fr : Fr Hm _ ([(D_17, (.lst (List.map rref ((List.filter (fun z : RO (List Int) => decide (riffleI (upto order.length) marks z.2 = order)) (List.take i_19 rw_15)))) : HO)), (p_14, (.lst (List.map rref rw_15) : HO)), (D_1, (.lst (List.map V.int ((List.map (fun i : Nat => (i : Int)) (List.range order.length)))) : HO))] ++ List.flatten [rosOwn gI rw_15, ctOwn T.P_lam q_lam lam]) := Fr.dk fr 0
        exact fr.cast (sel_f hr_25 (by first | exact decide_eq_false (by assumption) | simp_all))
    intro H_35 fr
    have fr : Fr Hm _ ([(D_17, (.lst (List.map rref ((List.filter (fun z : RO (List Int) => decide (riffleI (upto order.length) marks z.2 = order)) rw_15))) : HO)), (p_14, (.lst (List.map rref rw_15) : HO)), (D_1, (.lst (List.map V.int ((List.map (fun i : Nat => (i : Int)) (List.range order.length)))) : HO))] ++ List.flatten [rosOwn gI rw_15, ctOwn T.P_lam q_lam lam]) := fr.cast (sel_all tn_16.c)
    have fr : Fr Hm _ ([(D_17, (.lst (List.map rref ((List.filter (fun z : RO (List Int) => decide (riffleI (upto order.length) marks z.2 = order)) rw_15))) : HO)), (p_14, (.lst (List.map rref rw_15) : HO)), (D_1, (.lst (List.map V.int ((List.map (fun i : Nat => (i : Int)) (List.range order.length)))) : HO))] ++ List.flatten [rosOwn gI ((List.filter (fun z : RO (List Int) => decide (riffleI (upto order.length) marks z.2 = order)) rw_15)), ctOwn T.P_lam q_lam lam]) := Fr.sel (pre := [(D_17, (.lst (List.map rref ((List.filter (fun z : RO (List Int) => decide (riffleI (upto order.length) marks z.2 = order)) rw_15))) : HO)), (p_14, (.lst (List.map rref rw_15) : HO)), (D_1, (.lst (List.map V.int ((List.map (fun i : Nat => (i : Int)) (List.range order.length)))) : HO))]) (ts := [ctOwn T.P_lam q_lam lam]) (fun z : RO (List Int) => decide (riffleI (upto order.length) marks z.2 = order)) fr
    have fr : Fr Hm _ ([(D_17, (.lst (List.map rref ((List.filter (fun z : RO (List Int) => decide (riffleI (upto order.length) marks z.2 = order)) rw_15))) : HO)), (D_1, (.lst (List.map V.int ((List.map (fun i : Nat => (i : Int)) (List.range order.length)))) : HO))] ++ List.flatten [rosOwn gI ((List.filter (fun z : RO (List Int) => decide (riffleI (upto order.length) marks z.2 = order)) rw_15)), ctOwn T.P_lam q_lam lam]) := Fr.dk fr 1
    have fr : Fr Hm _ ([(D_17, (.lst (List.map rref ((List.filter (fun z : RO (List Int) => decide (riffleI (upto order.length) marks z.2 = order)) rw_15))) : HO)), (D_1, (.lst (List.map V.int ((List.map (fun i : Nat => (i : Int)) (List.range order.length)))) : HO))] ++ List.flatten [ctOwn T.P_lam q_lam lam, rosOwn gI ((List.filter (fun z : RO (List Int) => decide (riffleI (upto order.length) marks z.2 = order)) rw_15))]) := Fr.tup (pre := [(D_17, (.lst (List.map rref ((List.filter (fun z : RO (List Int) => decide (riffleI (upto order.length) marks z.2 = order)) rw_15))) : HO)), (D_1, (.lst (List.map V.int ((List.map (fun i : Nat => (i : Int)) (List.range order.length)))) : HO))]) (ts := [rosOwn gI ((List.filter (fun z : RO (List Int) => decide (riffleI (upto order.length) marks z.2 = order)) rw_15)), ctOwn T.P_lam q_lam lam]) fr 1 rfl
    have fr : Fr Hm _ ([(D_17, (.lst (List.map rref ((List.filter (fun z : RO (List Int) => decide (riffleI (upto order.length) marks z.2 = order)) rw_15))) : HO)), (D_1, (.lst (List.map V.int ((List.map (fun i : Nat => (i : Int)) (List.range order.length)))) : HO))] ++ List.flatten [rosOwn gI ((List.filter (fun z : RO (List Int) => decide (riffleI (upto order.length) marks z.2 = order)) rw_15)), ctOwn T.P_lam q_lam lam]) := Fr.tup (pre := [(D_17, (.lst (List.map rref ((List.filter (fun z : RO (List Int) => decide (riffleI (upto order.length) marks z.2 = order)) rw_15))) : HO)), (D_1, (.lst (List.map V.int ((List.map (fun i : Nat => (i : Int)) (List.range order.length)))) : HO))]) (ts := [ctOwn T.P_lam q_lam lam, rosOwn gI ((List.filter (fun z : RO (List Int) => decide (riffleI (upto order.length) marks z.2 = order)) rw_15))]) fr 1 rfl
    have fr : Fr Hm _ ([(D_17, (.lst (List.map rref ((List.filter (fun z : RO (List Int) => decide (riffleI (upto order.length) marks z.2 = order)) rw_15))) : HO)), (D_1, (.lst (List.map V.int ((List.map (fun i : Nat => (i : Int)) (List.range order.length)))) : HO))] ++ List.flatten [ctOwn T.P_lam q_lam lam, rosOwn gI ((List.filter (fun z : RO (List Int) => decide (riffleI (upto order.length) marks z.2 = order)) rw_15))]) := Fr.tup (pre := [(D_17, (.lst (List.map rref ((List.filter (fun z : RO (List Int) => decide (riffleI (upto order.length) marks z.2 = order)) rw_15))) : HO)), (D_1, (.lst (List.map V.int ((List.map (fun i : Nat => (i : Int)) (List.range order.length)))) : HO))]) (ts := [rosOwn gI ((List.filter (fun z : RO (List Int) => decide (riffleI (upto order.length) marks z.2 = order)) rw_15)), ctOwn T.P_lam q_lam lam]) fr 1 rfl
    refine ⟨D_17, a_order, ((List.filter (fun z : RO (List Int) => decide (riffleI (upto order.length) marks z.2 = order)) rw_15)), lam, (key25 order), rfl, rfl, fr.at0, ?_, (Fr.ltAt (pre := [(D_17, (.lst (List.map rref ((List.filter (fun z : RO (List Int) => decide (riffleI (upto order.length) marks z.2 = order)) rw_15))) : HO)), (D_1, (.lst (List.map V.int ((List.map (fun i : Nat => (i : Int)) (List.range order.length)))) : HO))]) (ts := [rosOwn gI ((List.filter (fun z : RO (List Int) => decide (riffleI (upto order.length) marks z.2 = order)) rw_15))]) fr), (fun z hz => ⟨_, rfl, _, rfl, ⟨_, _, _, _, rfl, lstOnly_at (fr.same _ _ h_order), lstOnly_at (Fr.rmem (pre := [(D_17, (.lst (List.map rref ((List.filter (fun z : RO (List Int) => decide (riffleI (upto order.length) marks z.2 = order)) rw_15))) : HO)), (D_1, (.lst (List.map V.int ((List.map (fun i : Nat => (i : Int)) (List.range order.length)))) : HO))]) (ts := [ctOwn T.P_lam q_lam lam, rosOwn gI ((List.filter (fun z : RO (List Int) => decide (riffleI (upto order.length) marks z.2 = order)) rw_15))]) fr 1 rfl hz), (by exact pre0), (by omega),  fun H1 rA res hres sm np ep => by subst hres; exact ⟨sm, rA, _, rfl, np, ep, _, .inr ⟨rfl, rfl⟩⟩⟩⟩), fun H_36 hst_37 p_38 np_39 => ?_⟩
    · rw [snd_len (sel_map (p := (fun z : List Int => decide (riffleI (upto order.length) marks z = order))) tn_16.c)]; exact Nat.le_trans (List.length_filter_le _ _) (Nat.le_trans hwle (by decide))
    obtain ⟨k_40, fr⟩ := Fr.lam (pre := [(D_17, (.lst (List.map rref ((List.filter (fun z : RO (List Int) => decide (riffleI (upto order.length) marks z.2 = order)) rw_15))) : HO)), (D_1, (.lst (List.map V.int ((List.map (fun i : Nat => (i : Int)) (List.range order.length)))) : HO))]) (ts := [rosOwn gI ((List.filter (fun z : RO (List Int) => decide (riffleI (upto order.length) marks z.2 = order)) rw_15))]) fr hst_37
    have fr : Fr Hm _ ([(D_17, (.lst (List.map rref ((List.filter (fun z : RO (List Int) => decide (riffleI (upto order.length) marks z.2 = order)) rw_15))) : HO)), (D_1, (.lst (List.map V.int ((List.map (fun i : Nat => (i : Int)) (List.range order.length)))) : HO))] ++ List.flatten [ctOwn T.P_lam q_lam k_40, rosOwn gI ((List.filter (fun z : RO (List Int) => decide (riffleI (upto order.length) marks z.2 = order)) rw_15))]) := fr
    have fr : Fr Hm _ ([(D_17, (.lst (List.map rref ((List.filter (fun z : RO (List Int) => decide (riffleI (upto order.length) marks z.2 = order)) rw_15))) : HO)), (D_1, (.lst (List.map V.int ((List.map (fun i : Nat => (i : Int)) (List.range order.length)))) : HO))] ++ List.flatten [rosOwn gI ((List.filter (fun z : RO (List Int) => decide (riffleI (upto order.length) marks z.2 = order)) rw_15)), ctOwn T.P_lam q_lam k_40]) := Fr.tup (pre := [(D_17, (.lst (List.map rref ((List.filter (fun z : RO (List Int) => decide (riffleI (upto order.length) marks z.2 = order)) rw_15))) : HO)), (D_1, (.lst (List.map V.int ((List.map (fun i : Nat => (i : Int)) (List.range order.length)))) : HO))]) (ts := [ctOwn T.P_lam q_lam k_40, rosOwn gI ((List.filter (fun z : RO (List Int) => decide (riffleI (upto order.length) marks z.2 = order)) rw_15))]) fr 1 rfl
    have fr : Fr Hm _ ([(D_17, (.lst (List.map rref ((List.filter (fun z : RO (List Int) => decide (riffleI (upto order.length) marks z.2 = order)) rw_15))) : HO)), (D_1, (.lst (List.map V.int ((List.map (fun i : Nat => (i : Int)) (List.range order.length)))) : HO))] ++ List.flatten [rosOwn gI ((List.mergeSort ((List.filter (fun z : RO (List Int) => decide (riffleI (upto order.length) marks z.2 = order)) rw_15)) (PySem.W.dataLe false (rowKey (key25 order))))), ctOwn T.P_lam q_lam k_40]) := Fr.tperm (pre := [(D_17, (.lst (List.map rref ((List.filter (fun z : RO (List Int) => decide (riffleI (upto order.length) marks z.2 = order)) rw_15))) : HO)), (D_1, (.lst (List.map V.int ((List.map (fun i : Nat => (i : Int)) (List.range order.length)))) : HO))]) (ts := [ctOwn T.P_lam q_lam k_40]) (List.mergeSort_perm _ _).symm fr
    have fr : Fr Hm _ ([(p_38, (.lst (List.map rref ((List.mergeSort ((List.filter (fun z : RO (List Int) => decide (riffleI (upto order.length) marks z.2 = order)) rw_15)) (PySem.W.dataLe false (rowKey (key25 order)))))) : HO)), (D_17, (.lst (List.map rref ((List.filter (fun z : RO (List Int) => decide (riffleI (upto order.length) marks z.2 = order)) rw_15))) : HO)), (D_1, (.lst (List.map V.int ((List.map (fun i : Nat => (i : Int)) (List.range order.length)))) : HO))] ++ List.flatten [rosOwn gI ((List.mergeSort ((List.filter (fun z : RO (List Int) => decide (riffleI (upto order.length) marks z.2 = order)) rw_15)) (PySem.W.dataLe false (rowKey (key25 order))))), ctOwn T.P_lam q_lam k_40]) := fr.new np_39
    have fr : Fr Hm _ ([(p_38, (.lst (List.map rref ((List.mergeSort ((List.filter (fun z : RO (List Int) => decide (riffleI (upto order.length) marks z.2 = order)) rw_15)) (PySem.W.dataLe false (rowKey (key25 order)))))) : HO)), (D_17, (.lst (List.map rref ((List.filter (fun z : RO (List Int) => decide (riffleI (upto order.length) marks z.2 = order)) rw_15))) : HO)), (D_1, (.lst (List.map V.int ((List.map (fun i : Nat => (i : Int)) (List.range order.length)))) : HO))] ++ List.flatten [ctOwn T.P_lam q_lam k_40, rosOwn gI ((List.mergeSort ((List.filter (fun z : RO (List Int) => decide (riffleI (upto order.length) marks z.2 = order)) rw_15)) (PySem.W.dataLe false (rowKey (key25 order)))))]) := Fr.tup (pre := [(p_38, (.lst (List.map rref ((List.mergeSort ((List.filter (fun z : RO (List Int) => decide (riffleI (upto order.length) marks z.2 = order)) rw_15)) (PySem.W.dataLe false (rowKey (key25 order)))))) : HO)), (D_17, (.lst (List.map rref ((List.filter (fun z : RO (List Int) => decide (riffleI (upto order.length) marks z.2 = order)) rw_15))) : HO)), (D_1, (.lst (List.map V.int ((List.map (fun i : Nat => (i : Int)) (List.range order.length)))) : HO))]) (ts := [rosOwn gI ((List.mergeSort ((List.filter (fun z : RO (List Int) => decide (riffleI (upto order.length) marks z.2 = order)) rw_15)) (PySem.W.dataLe false (rowKey (key25 order))))), ctOwn T.P_lam q_lam k_40]) fr 1 rfl
    have fr : Fr Hm _ ([(p_38, (.lst (List.map rref ((List.mergeSort ((List.filter (fun z : RO (List Int) => decide (riffleI (upto order.length) marks z.2 = order)) rw_15)) (PySem.W.dataLe false (rowKey (key25 order)))))) : HO)), (D_1, (.lst (List.map V.int ((List.map (fun i : Nat => (i : Int)) (List.range order.length)))) : HO))] ++ List.flatten [ctOwn T.P_lam q_lam k_40, rosOwn gI ((List.mergeSort ((List.filter (fun z : RO (List Int) => decide (riffleI (upto order.length) marks z.2 = order)) rw_15)) (PySem.W.dataLe false (rowKey (key25 order)))))]) := Fr.dk fr 1
    have fr : Fr Hm _ ([(p_38, (.lst (List.map rref ((List.mergeSort ((List.filter (fun z : RO (List Int) => decide (riffleI (upto order.length) marks z.2 = order)) rw_15)) (PySem.W.dataLe false (rowKey (key25 order)))))) : HO))] ++ List.flatten [ctOwn T.P_lam q_lam k_40, rosOwn gI ((List.mergeSort ((List.filter (fun z : RO (List Int) => decide (riffleI (upto order.length) marks z.2 = order)) rw_15)) (PySem.W.dataLe false (rowKey (key25 order)))))]) := Fr.dk fr 1
    exact q _ k_40 p_38 ((List.mergeSort ((List.filter (fun z : RO (List Int) => decide (riffleI (upto order.length) marks z.2 = order)) rw_15)) (PySem.W.dataLe false (rowKey (key25 order))))) ((List.map (·.2) (List.mergeSort ((List.filter (fun z : RO (List Int) => decide (riffleI (upto order.length) marks z.2 = order)) rw_15)) (PySem.W.dataLe false (rowKey (key25 order)))))) (by exact sorted_ways pre0 (by omega) (sel_map (p := (fun z : List Int => decide (riffleI (upto order.length) marks z = order))) tn_16.c)) rfl fr
def sp_law_order (K : PySem.W.Frag) : Sp := fun vs H Q _ => ∃ (cell : Int) (n : Int), vs = [V.int cell, V.int n] ∧ (1 ≤ n ∧ n ≤ 60) ∧ (∀ (H1 : Hp) (rA : Addr) (res : List Int), (IsOrd res) → ((res.length : Int) = n) → Same H H1 → H rA = none → H1 rA = some (.lst (List.map V.int res)) → Q (V.ref rA) H1)
theorem sc_law_order : FnScope ["_law_cell", "_law_n", "_law_left", "_law_order_here", "_law_at", "_law_k"] ["_law_cell", "_law_n"] (defScope s_law_order) := ⟨rfl, rfl, rfl, by decide +kernel, rfl, by decide +kernel, by decide +kernel⟩
theorem ok_law_order (T : Txt K mg base) : FnOk P w K mg base CX0 1 T.f_law_order T.fd_law_order ["_law_cell", "_law_n"] (sp_law_order K) := by
  refine T.F_law_order.ok sc_law_order (fun vs H Q E h => ?_) (fun cdv A outer s H vs Q E hr h => ?_)
  · obtain ⟨cell, n, rfl, _⟩ := h; rfl
  · obtain ⟨cell, n, rfl, pre0, q⟩ := h
    have fr := Fr.nil H
    refine ⟨_, (pss_cons (ps_setLc (i := 2) (own := [("_law_k", 5)]) (g := gName 5) (tt := tYes) rfl sc_law_order.nd rfl rfl (sw_true rfl rfl rfl (by decide +kernel)) (pi_range1 (by rfl) T.m_range (pa_cons (pv 1) pa_nil)) (blkOk_by (N := ["_law_cell", "_law_n", "_law_left", "_law_order_here", "_law_at", "_law_k"]) (sc := (defScope s_law_order)) (by decide +kernel)) (fun _ _ _ _ _ => pg_name (i := 5) sc_law_order.nd rfl (Or.inl rfl)) (fun _ _ _ _ _ => pts_nil) (fun _ _ _ _ _ => (pv 5)))
          (pss_cons (ps_set (i := 3) sc_law_order.nd rfl (Or.inl rfl) (pe_lst pa_nil))
          (pss_cons (ps_while PassesOwn.never (pt_cmpR (opS (show OpR _ _ (rNeX K) from op_neX (hu64 hr))) (pv 2) (pe_lst pa_nil) (nomark _)) (pss_cons (ps_set (i := 4) sc_law_order.nd rfl (Or.inl rfl) (pe_op op_mod (pv 0) (pe_callB (show CallR _ _ (rLenL K) from call_lenL) (by rfl) T.m_len (by decide +kernel) (pa_cons (pv 2) pa_nil))))
          (pss_cons (ps_set (i := 0) sc_law_order.nd rfl (Or.inl rfl) (pe_op op_fdiv (pv 0) (pe_callB (show CallR _ _ (rLenL K) from call_lenL) (by rfl) T.m_len (by decide +kernel) (pa_cons (pv 2) pa_nil))))
          (pss_cons (ps_expr (pe_bmK (K := K) (pe_bm PySem.F.plainAttrs_list PySem.F.slot_list_append PySem.F.type_list_append mt_append (pv 3) (pa_cons (pe_ix (show IxR _ (rIxL K) from ix_list) (pv 2) (pv 4) (fun _ _ => rfl)) pa_nil))))
          (pss_one (ps_set (i := 2) sc_law_order.nd rfl (Or.inl rfl) (pe_op op_cat (pe_slice (show SlR _ (rSlL K) from sl_list) (pv 2) po_none (po_some (pv 4))) (pe_slice (show SlR _ (rSlL K) from sl_list) (pv 2) (po_some (pe_op op_add (pv 4) pe_int)) po_none))))))))
          (pss_one (ps_ret (pv 3)))))), ?_⟩
    refine ⟨_, rfl, _, rfl, ?_, ?_, ?_⟩
    · walk_at "side"
    · walk_at "side"
    intro D_1 nD_2
    refine lc_it (walkR (n := (Int.toNat n))) (fun (i : Nat) H1 => Fr H H1 [(D_1, (.lst (List.map V.int ((List.map (fun i : Nat => (i : Int)) (List.range i)))) : HO))]) (fr.new nD_2) (fun i H1 hi fr => trivial) ?_ ?_
    · rintro i_4 x_8 H_6 H_7 hi_5 fr ⟨rfl, rfl⟩
      refine ⟨rfl, ?_⟩
      refine ⟨_, rfl, _, (Fr.atk fr 0 rfl), ?_, ?_⟩
      · walk_at "csize"
      exact (Fr.wr fr).cast (lc_r _ _)
    intro H_9 fr
    have fr : Fr H _ [(D_1, (.lst (List.map V.int ((List.map (fun i : Nat => (i : Int)) (List.range (Int.toNat n))))) : HO))] := fr
    refine ⟨(Evl.sz_of (show 0 ≤ 100000 by decide)), fun l_10 nl_11 => ?_⟩
    have fr : Fr H _ [(l_10, (.lst [] : HO)), (D_1, (.lst (List.map V.int ((List.map (fun i : Nat => (i : Int)) (List.range (Int.toNat n))))) : HO))] := fr.new nl_11
    have fr : Fr H _ [(l_10, (.lst (List.map V.int ([])) : HO)), (D_1, (.lst (List.map V.int ((List.map (fun i : Nat => (i : Int)) (List.range (Int.toNat n))))) : HO))] := fr
    refine while_m (fun (m : Nat) σ H1 => ∃ (cell_12 : Int) (a_law_left_13 : Addr) (left_14 : List Int) (order_15 : List Int) (y_16 : Option V), σ = [some (V.int cell_12), some (V.int n), some (V.ref a_law_left_13), some (V.ref l_10), y_16, none] ∧ Fr H H1 [(l_10, (.lst (List.map V.int order_15) : HO)), (a_law_left_13, (.lst (List.map V.int left_14) : HO))] ∧ (m = left_14.length) ∧ ((order_15 ++ left_14).Perm (upto (Int.toNat n))) ∧ (order_15.length + left_14.length = Int.toNat n)) ?_ ?_
    · refine ⟨_, cell, D_1, (List.map (fun i : Nat => (i : Int)) (List.range (Int.toNat n))), [], _, rfl, fr, rfl, ?_, ?_⟩
      · exact List.Perm.refl _
      · simp
    rintro m_17 s_18 H_19 ⟨cell_12, a_law_left_13, left_14, order_15, y_16, rfl, fr, hmu, hp, hl⟩
    refine ⟨_, rfl, (Evl.sz_of (show 0 ≤ 100000 by decide)), fun l_20 nl_21 => ?_⟩
    have fr : Fr H _ [(l_20, (.lst [] : HO)), (l_10, (.lst (List.map V.int order_15) : HO)), (a_law_left_13, (.lst (List.map V.int left_14) : HO))] := fr.new nl_21
    refine ⟨_, _, decide (left_14 = []), (dp_ints fr.at2), (dp_ints (xs := []) fr.at0), (Okd.sh (okd_ints _)), (Okd.sh (okd_ints _)), (eqv_ints _ _), _, rfl, ?_, ?_⟩
    · intro h22
      replace h22 := not_of_nd h22
      refine ⟨_, rfl, ?_⟩
      refine iteT ?_
      refine ⟨_, fun _ _ h => h, ?_⟩
      have hpos : 0 < left_14.length := by cases left_14 with
        | nil => contradiction
        | cons _ _ => simp
      have hmm1 := Int.emod_nonneg cell_12 (show (left_14.length : Int) ≠ 0 by omega)
      have hmm2 := Int.emod_lt_of_pos cell_12 (show 0 < (left_14.length : Int) by omega)
      refine ⟨_, rfl, _, rfl, _, _, _, rfl, (SqL.of fr.at2), (List.length_map _), _, _, rfl, rfl, ?_, ?_⟩
      · walk_at "side"
      have fr : Fr H _ [(l_10, (.lst (List.map V.int order_15) : HO)), (a_law_left_13, (.lst (List.map V.int left_14) : HO))] := Fr.dk fr 0
      refine ⟨_, rfl, _, rfl, _, _, _, rfl, (SqL.of fr.at1), (List.length_map _), _, _, rfl, rfl, ?_, ?_⟩
      · walk_at "div"
      refine ⟨_, rfl, (.inl ⟨rfl, _, (SqL.of fr.at0)⟩), _, rfl, _, rfl, _, _, _, _, rfl, rfl, (SqL.of fr.at1), (atD 0 ?_ ?_), _, _, _, rfl, rfl, fr.at0, ?_, ?_⟩
      · walk_at "side"
      · walk_at "side"
      · walk_at "size"
      have fr : Fr H _ [(l_10, (.lst (List.map V.int ((order_15 ++ [(List.getD left_14 (Int.toNat ((cell_12 % (left_14.length : Int)))) 0)]))) : HO)), (a_law_left_13, (.lst (List.map V.int left_14) : HO))] := Fr.wrk fr 0 rfl (lst_app V.int _ _)
      refine ⟨_, rfl, _, rfl, _, rfl, _, _, rfl, (SqL.of fr.at1), fun l_23 nl_24 => ?_⟩
      have fr : Fr H _ [(l_23, (.lst (List.map V.int ((cutL left_14 none (some ((cell_12 % (left_14.length : Int))))))) : HO)), (l_10, (.lst (List.map V.int ((order_15 ++ [(List.getD left_14 (Int.toNat ((cell_12 % (left_14.length : Int)))) 0)]))) : HO)), (a_law_left_13, (.lst (List.map V.int left_14) : HO))] := (fr.new nl_24).cast (lst_cut _ _ _ _)
      refine ⟨_, rfl, _, rfl, _, _, rfl, rfl, _, rfl, _, _, rfl, (SqL.of fr.at2), fun l_25 nl_26 => ?_⟩
      have fr : Fr H _ [(l_25, (.lst (List.map V.int ((cutL left_14 (some (((cell_12 % (left_14.length : Int)) + 1))) none))) : HO)), (l_23, (.lst (List.map V.int ((cutL left_14 none (some ((cell_12 % (left_14.length : Int))))))) : HO)), (l_10, (.lst (List.map V.int ((order_15 ++ [(List.getD left_14 (Int.toNat ((cell_12 % (left_14.length : Int)))) 0)]))) : HO)), (a_law_left_13, (.lst (List.map V.int left_14) : HO))] := (fr.new nl_26).cast (lst_cut _ _ _ _)
      refine ⟨_, _, _, _, rfl, rfl, fr.at1, fr.at0, ?_, fun l_27 nl_28 => ?_⟩
      · rw [List.length_map, List.length_map, ← List.length_append, cut_erase hmm1 hmm2]; exact Evl.sz_of (by rw [List.length_eraseIdx, if_pos (by omega)]; omega)
      have fr : Fr H _ [(l_27, (.lst (List.map V.int ((((cutL left_14 none (some ((cell_12 % (left_14.length : Int)))))) ++ ((cutL left_14 (some (((cell_12 % (left_14.length : Int)) + 1))) none))))) : HO)), (l_25, (.lst (List.map V.int ((cutL left_14 (some (((cell_12 % (left_14.length : Int)) + 1))) none))) : HO)), (l_23, (.lst (List.map V.int ((cutL left_14 none (some ((cell_12 % (left_14.length : Int))))))) : HO)), (l_10, (.lst (List.map V.int ((order_15 ++ [(List.getD left_14 (Int.toNat ((cell_12 % (left_14.length : Int)))) 0)]))) : HO)), (a_law_left_13, (.lst (List.map V.int left_14) : HO))] := (fr.new nl_28).cast (lst_cat _ _ _)
      have fr : Fr H _ [(l_27, (.lst (List.map V.int ((((cutL left_14 none (some ((cell_12 % (left_14.length : Int)))))) ++ ((cutL left_14 (some (((cell_12 % (left_14.length : Int)) + 1))) none))))) : HO)), (l_23, (.lst (List.map V.int ((cutL left_14 none (some ((cell_12 % (left_14.length : Int))))))) : HO)), (l_10, (.lst (List.map V.int ((order_15 ++ [(List.getD left_14 (Int.toNat ((cell_12 % (left_14.length : Int)))) 0)]))) : HO)), (a_law_left_13, (.lst (List.map V.int left_14) : HO))] := Fr.dk fr 1
      have fr : Fr H _ [(l_27, (.lst (List.map V.int ((((cutL left_14 none (some ((cell_12 % (left_14.length : Int)))))) ++ ((cutL left_14 (some (((cell_12 % (left_14.length : Int)) + 1))) none))))) : HO)), (l_10, (.lst (List.map V.int ((order_15 ++ [(List.getD left_14 (Int.toNat ((cell_12 % (left_14.length : Int)))) 0)]))) : HO)), (a_law_left_13, (.lst (List.map V.int left_14) : HO))] := Fr.dk fr 1
      have fr : Fr H _ [(l_27, (.lst (List.map V.int ((((cutL left_14 none (some ((cell_12 % (left_14.length : Int)))))) ++ ((cutL left_14 (some (((cell_12 % (left_14.length : Int)) + 1))) none))))) : HO)), (l_10, (.lst (List.map V.int ((order_15 ++ [(List.getD left_14 (Int.toNat ((cell_12 % (left_14.length : Int)))) 0)]))) : HO))] := Fr.dk fr 2
      have fr : Fr H _ [(l_10, (.lst (List.map V.int ((order_15 ++ [(List.getD left_14 (Int.toNat ((cell_12 % (left_14.length : Int)))) 0)]))) : HO)), (l_27, (.lst (List.map V.int ((((cutL left_14 none (some ((cell_12 % (left_14.length : Int)))))) ++ ((cutL left_14 (some (((cell_12 % (left_14.length : Int)) + 1))) none))))) : HO))] := Fr.upk fr 1 rfl
      refine ⟨_, ?_, (cell_12 / (left_14.length : Int)), l_27, (((cutL left_14 none (some ((cell_12 % (left_14.length : Int)))))) ++ ((cutL left_14 (some (((cell_12 % (left_14.length : Int)) + 1))) none))), (order_15 ++ [(List.getD left_14 (Int.toNat ((cell_12 % (left_14.length : Int)))) 0)]), _, rfl, fr, rfl, ?_, ?_⟩
      · subst hmu
        rw [cut_erase hmm1 hmm2, List.length_eraseIdx, if_pos (by omega)]; omega
      · rw [cut_erase hmm1 hmm2]; exact take_perm hp (by omega)
      · rw [cut_erase hmm1 hmm2, List.length_eraseIdx, if_pos (by omega), List.length_append]; simp; omega
    · intro h22
      replace h22 := of_nd h22
      refine ⟨_, rfl, ?_⟩
      refine iteF ?_
      have fr : Fr H _ [(l_10, (.lst (List.map V.int order_15) : HO)), (a_law_left_13, (.lst (List.map V.int left_14) : HO))] := Fr.dk fr 0
      refine ⟨_, rfl, ?_⟩
      exact q _ _ order_15 (by have h0 : left_14 = [] := (by assumption); rw [h0, List.append_nil] at hp; exact isOrd_of hp) (by have h0 : left_14 = [] := (by assumption); rw [h0] at hl; have hl2 : order_15.length = Int.toNat n := hl; omega) fr.same fr.n0 fr.at0
def sp_law_word (K : PySem.W.Frag) : Sp := fun vs H Q _ => ∃ (cell : Int) (heaps : Int) (n : Int), vs = [V.int cell, V.int heaps, V.int n] ∧ (1 ≤ heaps ∧ heaps ≤ 400) ∧ (1 ≤ n ∧ n ≤ 60) ∧ (∀ (H1 : Hp) (rA : Addr) (res : List Int), ((res.length : Int) = n) → (IsW (Int.toNat heaps) res) → Same H H1 → H rA = none → H1 rA = some (.lst (List.map V.int res)) → Q (V.ref rA) H1)
theorem sc_law_word : FnScope ["_law_cell", "_law_heaps_here", "_law_n", "_law_word_here", "_law_k"] ["_law_cell", "_law_heaps_here", "_law_n"] (defScope s_law_word) := ⟨rfl, rfl, rfl, by decide +kernel, rfl, by decide +kernel, by decide +kernel⟩
theorem ok_law_word (T : Txt K mg base) : FnOk P w K mg base CX0 1 T.f_law_word T.fd_law_word ["_law_cell", "_law_heaps_here", "_law_n"] (sp_law_word K) := by
  refine T.F_law_word.ok sc_law_word (fun vs H Q E h => ?_) (fun cdv A outer s H vs Q E hr h => ?_)
  · obtain ⟨cell, heaps, n, rfl, _⟩ := h; rfl
  · obtain ⟨cell, heaps, n, rfl, pre0, pre1, q⟩ := h
    have fr := Fr.nil H
    refine ⟨_, (pss_cons (ps_set (i := 3) sc_law_word.nd rfl (Or.inl rfl) (pe_lst pa_nil))
          (pss_cons (ps_for PassesOwn.never rfl (pi_range1 (by rfl) T.m_range (pa_cons (pv 2) pa_nil)) (pg_name (i := 4) sc_law_word.nd rfl (Or.inl rfl)) (pss_cons (ps_expr (pe_bmK (K := K) (pe_bm PySem.F.plainAttrs_list PySem.F.slot_list_append PySem.F.type_list_append mt_append (pv 3) (pa_cons (pe_op op_mod (pv 0) (pv 1)) pa_nil))))
          (pss_one (ps_set (i := 0) sc_law_word.nd rfl (Or.inl rfl) (pe_op op_fdiv (pv 0) (pv 1))))))
          (pss_one (ps_ret (pv 3))))), ?_⟩
    refine ⟨(Evl.sz_of (show 0 ≤ 100000 by decide)), fun l_1 nl_2 => ?_⟩
    have fr : Fr H _ [(l_1, (.lst [] : HO))] := fr.new nl_2
    have fr : Fr H _ [(l_1, (.lst (List.map V.int ([])) : HO))] := fr
    refine ⟨_, rfl, _, rfl, ?_, ?_, ?_⟩
    · walk_at "side"
    · walk_at "side"
    refine for_it (walkR (n := (Int.toNat n))) (fun (i : Nat) σ H1 => ∃ (cell_3 : Int) (word_4 : List Int) (y_5 : Option V), σ = [some (V.int cell_3), some (V.int heaps), some (V.int n), some (V.ref l_1), y_5] ∧ Fr H H1 [(l_1, (.lst (List.map V.int word_4) : HO))] ∧ (word_4.length = i) ∧ (IsW (Int.toNat heaps) word_4)) ?_ ?_ ?_ ?_
    · refine ⟨cell, [], _, rfl, fr, ?_, ?_⟩
      · walk_at "inv"
      · exact IsW.nil _
    · rintro i σ H1 hi ⟨cell_3, word_4, y_5, rfl, fr, hl, hw⟩
      exact trivial
    · rintro i_6 x_8 s_11 H_9 H_10 hi_7 ⟨cell_3, word_4, y_5, rfl, fr, hl, hw⟩ ⟨rfl, rfl⟩
      have hmm1 := Int.emod_nonneg cell_3 (show heaps ≠ 0 by omega)
      have hmm2 := Int.emod_lt_of_pos cell_3 (show 0 < heaps by omega)
      refine ⟨_, rfl, (.inl ⟨rfl, _, (SqL.of fr.at0)⟩), _, rfl, _, rfl, _, _, rfl, rfl, ?_, _, _, _, rfl, rfl, fr.at0, ?_, ?_⟩
      · walk_at "side"
      · walk_at "size"
      have fr : Fr H _ [(l_1, (.lst (List.map V.int ((word_4 ++ [(cell_3 % heaps)]))) : HO))] := Fr.wrk fr 0 rfl (lst_app V.int _ _)
      refine ⟨_, rfl, _, rfl, _, _, rfl, rfl, ?_, ?_⟩
      · walk_at "div"
      refine ⟨(cell_3 / heaps), (word_4 ++ [(cell_3 % heaps)]), _, rfl, fr, ?_, ?_⟩
      · walk_at "inv"
      · exact hw.app hmm1 (by omega)
    rintro s_13 H_12 ⟨cell_3, word_4, y_5, rfl, fr, hl, hw⟩
    refine ⟨_, rfl, ?_⟩
    exact q _ _ word_4 (by omega) (by exact hw) fr.same fr.n0 fr.at0
def sp_may_share (K : PySem.W.Frag) : Sp := fun vs H Q _ => ∃ (a_marks : Addr) (marks : List Bool) (heap : Int) (upper : Int) (lower : Int), vs = [V.ref a_marks, V.int heap, V.int upper, V.int lower] ∧ H a_marks = some (.lst (List.map V.bl marks)) ∧ (0 ≤ heap ∧ heap < (marks.length : Int)) ∧ (∀ (H1 : Hp) (res : Bool), (res = shI marks upper lower (Int.toNat heap)) → Same H H1 → Q (V.bl res) H1)
theorem sc_may_share : FnScope ["marks", "heap", "upper", "lower"] ["marks", "heap", "upper", "lower"] (defScope s_may_share) := ⟨rfl, rfl, rfl, by decide +kernel, rfl, by decide +kernel, by decide +kernel⟩
theorem ok_may_share (T : Txt K mg base) : FnOk P w K mg base CX0 1 T.f_may_share T.fd_may_share ["marks", "heap", "upper", "lower"] (sp_may_share K) := by
  refine T.F_may_share.ok sc_may_share (fun vs H Q E h => ?_) (fun cdv A outer s H vs Q E hr h => ?_)
  · obtain ⟨a_marks, marks, heap, upper, lower, rfl, _⟩ := h; rfl
  · obtain ⟨a_marks, marks, heap, upper, lower, rfl, h_marks, pre0, q⟩ := h
    have fr := Fr.nil H
    refine ⟨_, (pss_cons (ps_if (pt_valS (pe_ix (show IxR _ (rIxL K) from ix_list) (pv 0) (pv 1) (fun _ _ => rfl))) (pss_one (ps_ret (pe_cmp (pc_lt (pv 3) (pv 2))))) pss_nil)
          (pss_one (ps_ret (pe_cmp (pc_lt (pv 2) (pv 3)))))), ?_⟩
    refine ⟨_, rfl, _, rfl, _, _, _, _, rfl, rfl, (SqL.of (fr.same _ _ h_marks)), (atD false ?_ ?_), _, rfl, ?_, ?_⟩
    · walk_at "side"
    · walk_at "side"
    · intro h1
      refine iteT ?_
      refine ⟨_, rfl, _, rfl, _, _, rfl, rfl, ?_⟩
      exact q _ (decide (lower < upper)) (by simp only [shI]; simp_all) fr.same
    · intro h1
      refine iteF ?_
      refine ⟨_, rfl, _, rfl, _, _, rfl, rfl, ?_⟩
      exact q _ (decide (upper < lower)) (by simp only [shI]; simp_all) fr.same
def sp_places (K : PySem.W.Frag) : Sp := fun vs H Q _ => ∃ (a_order : Addr) (order : List Int), vs = [V.ref a_order] ∧ H a_order = some (.lst (List.map V.int order)) ∧ (IsOrd order) ∧ (order.length ≤ 1000) ∧ (∀ (H1 : Hp) (rA : Addr) (res : List Int), (res = placesI order) → Same H H1 → H rA = none → H1 rA = some (.lst (List.map V.int res)) → Q (V.ref rA) H1)
theorem sc_places : FnScope ["order", "row", "place", "card"] ["order"] (defScope s_places) := ⟨rfl, rfl, rfl, by decide +kernel, rfl, by decide +kernel, by decide +kernel⟩
theorem ok_places (T : Txt K mg base) : FnOk P w K mg base CX0 1 T.f_places T.fd_places ["order"] (sp_places K) := by
  refine T.F_places.ok sc_places (fun vs H Q E h => ?_) (fun cdv A outer s H vs Q E hr h => ?_)
  · obtain ⟨a_order, order, rfl, _⟩ := h; rfl
  · obtain ⟨a_order, order, rfl, h_order, pre0, pre1, q⟩ := h
    have fr := Fr.nil H
    refine ⟨_, (pss_cons (ps_set (i := 1) sc_places.nd rfl (Or.inl rfl) (pe_op op_rep (pe_lst (pa_cons pe_int pa_nil)) (pe_callB (show CallR _ _ (rLenL K) from call_lenL) (by rfl) T.m_len (by decide +kernel) (pa_cons (pv 0) pa_nil))))
          (pss_cons (ps_for PassesOwn.never rfl (pi_enum (by rfl) T.m_enumerate (pa_cons (pv 0) pa_nil)) (pg_tup rfl (pgs_cons (pg_name (i := 2) sc_places.nd rfl (Or.inl rfl)) (pgs_cons (pg_name (i := 3) sc_places.nd rfl (Or.inl rfl)) pgs_nil))) (pss_one (ps_asg (pv 2) (pg_sub (pv 1) (pv 3) set_list))))
          (pss_one (ps_ret (pv 1))))), ?_⟩
    refine ⟨(Evl.sz_of (show 1 ≤ 100000 by decide)), fun l_1 nl_2 => ?_⟩
    have fr : Fr H _ [(l_1, (.lst (List.map V.int ([0])) : HO))] := fr.new nl_2
    refine ⟨_, rfl, _, _, _, rfl, (SqL.of (fr.same _ _ h_order)), (List.length_map _), _, _, _, rfl, rfl, fr.at0, ?_, ?_, ?_, fun l_3 nl_4 => ?_⟩
    · walk_at "side"
    · walk_at "side"
    · walk_at "size"
    have fr : Fr H _ [(l_3, (.lst (List.map V.int ((List.replicate (Int.toNat ((order.length : Int))) 0))) : HO)), (l_1, (.lst (List.map V.int ([0])) : HO))] := (fr.new nl_4).cast (lst_rep1 _ _ _)
    have fr : Fr H _ [(l_3, (.lst (List.map V.int ((List.replicate (Int.toNat ((order.length : Int))) 0))) : HO))] := Fr.dk fr 1
    refine ⟨_, rfl, _, _, rfl, (SqL.of (fr.same _ _ h_order)), ?_⟩
    refine for_it (walkE V.int order) (fun (i : Nat) σ H1 => ∃ (row_5 : List Int) (y_6 : Option V) (y_7 : Option V), σ = [some (V.ref a_order), some (V.ref l_3), y_6, y_7] ∧ Fr H H1 [(l_3, (.lst (List.map V.int row_5) : HO))] ∧ (row_5 = placesTo order i)) ?_ ?_ ?_ ?_
    · refine ⟨(List.replicate (Int.toNat ((order.length : Int))) 0), _, _, rfl, fr, ?_⟩
      · exact (placesTo_zero _).symm
    · rintro i σ H1 hi ⟨row_5, y_6, y_7, rfl, fr, hrow⟩
      exact (fr.same _ _ h_order)
    · rintro i_8 x_10 s_13 H_11 H_12 hi_9 ⟨row_5, y_6, y_7, rfl, fr, hrow⟩ ⟨T_14, y_15, rfl, nT_17, rfl, hy_18⟩
      have fr := fr.tmp (o := .tup [(V.int ((i_8 : Int))), (V.int y_15)]) nT_17
      refine ⟨_, _, rfl, (SqT.of upd_same), rfl, _, _, rfl, _, _, rfl, rfl, ?_⟩
      have hb := pre0.bd hy_18
      have hlr : row_5.length = order.length := by rw [hrow]; simp [placesTo]
      refine ⟨_, rfl, _, rfl, _, rfl, _, _, _, _, rfl, rfl, fr.at0, (ixDm ?_ ?_), ?_⟩
      · walk_at "side"
      · walk_at "side"
      have fr : Fr H _ [(l_3, (.lst (List.map V.int ((List.set row_5 (Int.toNat y_15) ((i_8 : Int))))) : HO))] := Fr.wrk fr 0 rfl (lst_set _ _ _ _)
      refine ⟨(List.set row_5 (Int.toNat y_15) ((i_8 : Int))), _, _, rfl, fr, ?_⟩
      · rw [hrow]; exact placesTo_next pre0 hy_18
    rintro s_21 H_20 ⟨row_5, y_6, y_7, rfl, fr, hrow⟩
    refine ⟨_, rfl, ?_⟩
    exact q _ _ row_5 (by rw [hrow]; exact placesTo_all pre0) fr.same fr.n0 fr.at0
def sp_goings_on (K : PySem.W.Frag) : Sp := fun vs H Q _ => ∃ (a_order : Addr) (order : List Int) (a_marks : Addr) (marks : List Bool), vs = [V.ref a_order, V.ref a_marks] ∧ H a_order = some (.lst (List.map V.int order)) ∧ H a_marks = some (.lst (List.map V.bl marks)) ∧ (IsOrd order) ∧ (1 ≤ order.length ∧ order.length ≤ 60 ∧ 1 ≤ marks.length ∧ marks.length ≤ 1000) ∧ (∀ (H1 : Hp) (rA : Addr) (res : List (Addr × List Int)), (res.map (·.2) = (gRows marks (placesI order) order.length).reverse) → Same H H1 → H rA = none → H1 rA = some (.lst (List.map rowRef res)) → (∀ z ∈ res, H z.1 = none ∧ H1 z.1 = some (.lst (z.2.map V.int))) → (rA :: res.map (·.1)).Nodup → Q (V.ref rA) H1)
theorem sc_goings_on : FnScope ["order", "marks", "at", "rows", "card", "row", "behind", "heap", "here", "mark"] ["order", "marks"] (defScope s_goings_on) := ⟨rfl, rfl, rfl, by decide +kernel, rfl, by decide +kernel, by decide +kernel⟩
theorem ok_goings_on (T : Txt K mg base) : FnOk P w K mg base CX0 2 T.f_goings_on T.fd_goings_on ["order", "marks"] (sp_goings_on K) := by
  refine T.F_goings_on.ok sc_goings_on (fun vs H Q E h => ?_) (fun cdv A outer s H vs Q E hr h => ?_)
  · obtain ⟨a_order, order, a_marks, marks, rfl, _⟩ := h; rfl
  · obtain ⟨a_order, order, a_marks, marks, rfl, h_order, h_marks, pre0, pre1, q⟩ := h
    have fr := Fr.nil H
    have hpl := placesI_length order
    refine ⟨_, (pss_cons (ps_set (i := 2) sc_goings_on.nd rfl (Or.inl rfl) (pe_call (ok_places T) (hr.mono (by decide)) (by rfl) T.g_places T.F_places.kp T.b_places .nil pass0 (pa_cons (pv 0) pa_nil)))
          (pss_cons (ps_set (i := 3) sc_goings_on.nd rfl (Or.inl rfl) (pe_lst (pa_cons (pe_lc (own := [("mark", 9)]) (g := gName 9) (tt := tYes) rfl sc_goings_on.nd (pi_list (pv 1)) (blkOk_by (N := ["order", "marks", "at", "rows", "card", "row", "behind", "heap", "here", "mark"]) (sc := (defScope s_goings_on)) (by decide +kernel)) (fun _ _ _ _ _ => pg_name (i := 9) sc_goings_on.nd rfl (Or.inl rfl)) (fun _ _ _ _ _ => pts_nil) (fun _ _ _ _ _ => pe_int)) pa_nil)))
          (pss_cons (ps_for PassesOwn.never rfl (pi_range3 (by rfl) T.m_range (pa_cons (pe_op op_sub (pe_callB (show CallR _ _ (rLenL K) from call_lenL) (by rfl) T.m_len (by decide +kernel) (pa_cons (pv 0) pa_nil)) pe_int) (pa_cons (pe_un un_neg pe_int) (pa_cons (pe_un un_neg pe_int) pa_nil)))) (pg_name (i := 4) sc_goings_on.nd rfl (Or.inl rfl)) (pss_cons (ps_set (i := 5) sc_goings_on.nd rfl (Or.inl rfl) (pe_lst pa_nil))
          (pss_cons (ps_set (i := 6) sc_goings_on.nd rfl (Or.inl rfl) pe_int)
          (pss_cons (ps_for PassesOwn.never rfl (pi_range3 (by rfl) T.m_range (pa_cons (pe_op op_sub (pe_callB (show CallR _ _ (rLenL K) from call_lenL) (by rfl) T.m_len (by decide +kernel) (pa_cons (pv 1) pa_nil)) pe_int) (pa_cons (pe_un un_neg pe_int) (pa_cons (pe_un un_neg pe_int) pa_nil)))) (pg_name (i := 7) sc_goings_on.nd rfl (Or.inl rfl)) (pss_cons (ps_set (i := 8) sc_goings_on.nd rfl (Or.inl rfl) (pv 6))
          (pss_cut (ps_if (pt_valS (pe_call (ok_may_share T) (hr.mono (by decide)) (by rfl) T.g_may_share T.F_may_share.kp T.b_may_share .nil pass0 (pa_cons (pv 1) (pa_cons (pv 7) (pa_cons (pe_ix (show IxR _ (rIxL K) from ix_list) (pv 2) (pv 4) (fun _ _ => rfl)) (pa_cons (pe_ix (show IxR _ (rIxL K) from ix_list) (pv 2) (pe_op op_add (pv 4) pe_int) (fun _ _ => rfl)) pa_nil)))))) (pss_one (ps_aug (i := 8) sc_goings_on.nd rfl (Or.inl rfl) (pe_ix (show IxR _ (rIxL K) from ix_list) (pe_ix (show IxR _ (rIxL K) from ix_list) (pv 3) (pe_un un_neg pe_int) (fun _ _ => rfl)) (pv 7) (fun _ _ => rfl)) ip_add)) pss_nil)
          (pss_cons (ps_expr (pe_bmK (K := K) (pe_bm PySem.F.plainAttrs_list PySem.F.slot_list_append PySem.F.type_list_append mt_append (pv 5) (pa_cons (pv 8) pa_nil))))
          (pss_one (ps_aug (i := 6) sc_goings_on.nd rfl (Or.inl rfl) (pe_ix (show IxR _ (rIxL K) from ix_list) (pe_ix (show IxR _ (rIxL K) from ix_list) (pv 3) (pe_un un_neg pe_int) (fun _ _ => rfl)) (pv 7) (fun _ _ => rfl)) ip_add))))))
          (pss_cons (ps_expr (pe_bm0 PySem.F.plainAttrs_list PySem.F.slot_list_reverse PySem.F.type_list_reverse mt_reverse (pv 5)))
          (pss_one (ps_expr (pe_bmK (K := K) (pe_bm PySem.F.plainAttrs_list PySem.F.slot_list_append PySem.F.type_list_append mt_append (pv 3) (pa_cons (pv 5) pa_nil))))))))))
          (pss_cons (ps_expr (pe_bm0 PySem.F.plainAttrs_list PySem.F.slot_list_reverse PySem.F.type_list_reverse mt_reverse (pv 3)))
          (pss_one (ps_ret (pv 3))))))), ?_⟩
    refine ⟨_, rfl, a_order, order, rfl, (fr.same _ _ h_order), ?_, ?_, fun H_1 p_5 places_2 hp_4 sm_3 np_6 ep_7 => ?_⟩
    · first | exact pre0 | omega
    · first | exact pre0 | omega
    have fr : Fr H _ [(p_5, (.lst (List.map V.int places_2) : HO))] := fr.cnew sm_3 np_6 ep_7
    subst hp_4
    refine ⟨_, rfl, _, rfl, ⟨_, (SqL.of (fr.same _ _ h_marks))⟩, ?_⟩
    intro D_8 nD_9
    refine lc_it (walkL V.bl marks) (fun (i : Nat) H1 => Fr H H1 [(D_8, (.lst (List.map V.int ((List.map (fun y : Bool => 1) (List.take i marks)))) : HO)), (p_5, (.lst (List.map V.int (((placesI order)))) : HO))]) (fr.new nD_9) (fun i H1 hi fr => (fr.same _ _ h_marks)) ?_ ?_
    · rintro i_11 x_15 H_13 H_14 hi_12 fr ⟨rfl, y_16, hy_17, rfl⟩
      refine ⟨rfl, ?_⟩
      refine ⟨_, (Fr.atk fr 0 rfl), ?_, ?_⟩
      · walk_at "csize"
      exact (Fr.wr fr).cast (lc_l hy_17)
    intro H_18 fr
    have fr : Fr H _ [(D_8, (.lst (List.map V.int ((List.map (fun y : Bool => 1) marks))) : HO)), (p_5, (.lst (List.map V.int (((placesI order)))) : HO))] := fr.cast (by rw [List.take_length])
    refine ⟨(Evl.sz_of (show 1 ≤ 100000 by decide)), fun l_19 nl_20 => ?_⟩
    have fr : Fr H _ [(l_19, (.lst [V.ref D_8] : HO)), (D_8, (.lst (List.map V.int ((List.map (fun y : Bool => 1) marks))) : HO)), (p_5, (.lst (List.map V.int (((placesI order)))) : HO))] := fr.new nl_20
    have fr : Fr H _ [(D_8, (.lst (List.map V.int ((List.map (fun y : Bool => 1) marks))) : HO)), (l_19, (.lst (List.map rowRef ([(D_8, (List.map (fun y : Bool => 1) marks))])) : HO)), (p_5, (.lst (List.map V.int (((placesI order)))) : HO))] := Fr.upk fr 1 rfl
    have fr : Fr H _ ((l_19, (.lst (List.map rowRef ([(D_8, (List.map (fun y : Bool => 1) marks))])) : HO)) :: (p_5, (.lst (List.map V.int (((placesI order)))) : HO)) :: rowsOwn ([(D_8, (List.map (fun y : Bool => 1) marks))])) := Fr.rowin (pre := [(l_19, (.lst (List.map rowRef ([(D_8, (List.map (fun y : Bool => 1) marks))])) : HO)), (p_5, (.lst (List.map V.int (((placesI order)))) : HO))]) (rows := []) fr
    refine ⟨_, rfl, _, _, _, rfl, (SqL.of (fr.same _ _ h_order)), (List.length_map _), _, _, rfl, rfl, _, rfl, _, rfl, _, _, _, (Int.toNat (((order.length : Int) - 2) - (-1))), rfl, (RgC.neg ?_ ?_ ?_ ?_), ?_⟩
    · walk_at "side"
    · walk_at "side"
    · walk_at "side"
    · walk_at "side"
    refine for_it (walk_rangeC (lo := ((order.length : Int) - 2)) (c := -1) (n := (Int.toNat (((order.length : Int) - 2) - (-1))))) (fun (i : Nat) σ H1 => ∃ (rows_21 : List (Addr × List Int)) (y_22 : Option V) (y_23 : Option V) (y_24 : Option V) (y_25 : Option V) (y_26 : Option V), σ = [some (V.ref a_order), some (V.ref a_marks), some (V.ref p_5), some (V.ref l_19), y_22, y_23, y_24, y_25, y_26, none] ∧ Fr H H1 ((l_19, (.lst (List.map rowRef rows_21) : HO)) :: (p_5, (.lst (List.map V.int (((placesI order)))) : HO)) :: rowsOwn rows_21) ∧ (rows_21.map (·.2) = gRows marks (placesI order) (i + 1))) ?_ ?_ ?_ ?_
    · refine ⟨[(D_8, (List.map (fun y : Bool => 1) marks))], _, _, _, _, _, rfl, fr, ?_⟩
      · rfl
    · rintro i σ H1 hi ⟨rows_21, y_22, y_23, y_24, y_25, y_26, rfl, fr, hg⟩
      exact trivial
    · rintro i_27 x_29 s_32 H_30 H_31 hi_28 ⟨rows_21, y_22, y_23, y_24, y_25, y_26, rfl, fr, hg⟩ ⟨rfl, rfl⟩
      have hrl := gRows_last hg
      have hrl3 : (List.getD rows_21 (rows_21.length - 1) (0, [])).2.length = marks.length := by rw [hrl.2]; simp
      refine ⟨(Evl.sz_of (show 0 ≤ 100000 by decide)), fun l_33 nl_34 => ?_⟩
      have fr : Fr H _ ((l_33, (.lst [] : HO)) :: (l_19, (.lst (List.map rowRef rows_21) : HO)) :: (p_5, (.lst (List.map V.int (((placesI order)))) : HO)) :: rowsOwn rows_21) := fr.new nl_34
      have fr : Fr H _ ((l_33, (.lst (List.map V.int ([])) : HO)) :: (l_19, (.lst (List.map rowRef rows_21) : HO)) :: (p_5, (.lst (List.map V.int (((placesI order)))) : HO)) :: rowsOwn rows_21) := fr
      refine ⟨_, rfl, _, _, _, rfl, (SqL.of (fr.same _ _ h_marks)), (List.length_map _), _, _, rfl, rfl, _, rfl, _, rfl, _, _, _, (Int.toNat (((marks.length : Int) - 1) - (-1))), rfl, (RgC.neg ?_ ?_ ?_ ?_), ?_⟩
      · walk_at "side"
      · walk_at "side"
      · walk_at "side"
      · walk_at "side"
      refine for_it (walk_rangeC (lo := ((marks.length : Int) - 1)) (c := -1) (n := (Int.toNat (((marks.length : Int) - 1) - (-1))))) (fun (i : Nat) σ H1 => ∃ (row_35 : List Int) (behind_36 : Int) (y_37 : Option V) (y_38 : Option V), σ = [some (V.ref a_order), some (V.ref a_marks), some (V.ref p_5), some (V.ref l_19), some (V.int ((((order.length : Int) - 2) + (i_27 : Int) * (-1)))), some (V.ref l_33), some (V.int behind_36), y_37, y_38, none] ∧ Fr H H1 ((l_33, (.lst (List.map V.int row_35) : HO)) :: (l_19, (.lst (List.map rowRef rows_21) : HO)) :: (p_5, (.lst (List.map V.int (((placesI order)))) : HO)) :: rowsOwn rows_21) ∧ (row_35 = gTo (shI marks ((placesI order).getD ((placesI order).length - 2 - i_27) 0) ((placesI order).getD ((placesI order).length - 1 - i_27) 0)) (gRow marks (placesI order) i_27) i) ∧ (behind_36 = gBeh (gRow marks (placesI order) i_27) i)) ?_ ?_ ?_ ?_
      · refine ⟨[], 0, _, _, rfl, fr, ?_, ?_⟩
        · rfl
        · rfl
      · rintro i σ H1 hi ⟨row_35, behind_36, y_37, y_38, rfl, fr, hrow, hbeh⟩
        exact trivial
      · rintro i_39 x_41 s_44 H_42 H_43 hi_40 ⟨row_35, behind_36, y_37, y_38, rfl, fr, hrow, hbeh⟩ ⟨rfl, rfl⟩
        have hrwl : row_35.length = i_39 := by rw [hrow]; simp [gTo]
        refine ⟨_, rfl, ?_⟩
        refine ⟨fun σ H1 => ∃ (here_45 : Int), σ = [some (V.ref a_order), some (V.ref a_marks), some (V.ref p_5), some (V.ref l_19), some (V.int ((((order.length : Int) - 2) + (i_27 : Int) * (-1)))), some (V.ref l_33), some (V.int behind_36), some (V.int ((((marks.length : Int) - 1) + (i_39 : Int) * (-1)))), some (V.int here_45), none] ∧ Fr H H1 ((l_33, (.lst (List.map V.int row_35) : HO)) :: (l_19, (.lst (List.map rowRef rows_21) : HO)) :: (p_5, (.lst (List.map V.int (((placesI order)))) : HO)) :: rowsOwn rows_21) ∧ (here_45 = gOne (shI marks ((placesI order).getD ((placesI order).length - 2 - i_27) 0) ((placesI order).getD ((placesI order).length - 1 - i_27) 0)) (gRow marks (placesI order) i_27) i_39), ?_, ?_⟩
        · refine ⟨_, rfl, _, rfl, _, rfl, _, rfl, _, _, _, _, rfl, rfl, (SqL.of fr.at2), (atD 0 ?_ ?_), _, rfl, _, rfl, _, _, rfl, rfl, _, _, _, _, rfl, rfl, (SqL.of fr.at2), (atD 0 ?_ ?_), a_marks, marks, ((((marks.length : Int) - 1) + (i_39 : Int) * (-1))), ((List.getD (((placesI order))) (Int.toNat ((((order.length : Int) - 2) + (i_27 : Int) * (-1)))) 0)), ((List.getD (((placesI order))) (Int.toNat (((((order.length : Int) - 2) + (i_27 : Int) * (-1)) + 1))) 0)), rfl, (fr.same _ _ h_marks), ?_, fun H_46 may_share_47 hp_49 sm_48 => ?_⟩
          · walk_at "side"
          · walk_at "side"
          · walk_at "side"
          · walk_at "side"
          · omega
          have fr : Fr H _ ((l_33, (.lst (List.map V.int row_35) : HO)) :: (l_19, (.lst (List.map rowRef rows_21) : HO)) :: (p_5, (.lst (List.map V.int (((placesI order)))) : HO)) :: rowsOwn rows_21) := fr.call sm_48
          subst hp_49
          refine ⟨_, rfl, ?_, ?_⟩
          · intro h50
            refine iteT ?_
            have hlt_51 : (List.length rows_21 - 1) < List.length rows_21 := by omega
            refine ⟨_, rfl, _, rfl, _, rfl, _, _, _, _, rfl, rfl, (SqL.of fr.at1), (atLastD (0, []) ?_), _, rfl, _, _, _, _, rfl, rfl, (SqL.of (Fr.rowat (pre := [(l_33, (.lst (List.map V.int row_35) : HO)), (l_19, (.lst (List.map rowRef rows_21) : HO)), (p_5, (.lst (List.map V.int (((placesI order)))) : HO))]) fr (0, []) hlt_51)), (atD 0 ?_ ?_), _, _, rfl, rfl, ?_⟩
            · omega
            · first | omega | (rw [hrl3]; omega)
            · first | omega | (rw [hrl3]; omega)
            refine ⟨(behind_36 + (List.getD ((List.getD rows_21 (List.length rows_21 - 1) (0, [])).2) (Int.toNat ((((marks.length : Int) - 1) + (i_39 : Int) * (-1)))) 0)), rfl, fr, ?_⟩
            · first | (rw [hrl.2]; exact go_t (show i_39 < marks.length by omega) rfl (gRow_length _ _ _) (by assumption) (show _ = (placesI order).getD ((placesI order).length - 2 - i_27) 0 by congr 1; rw [placesI_length]; omega) (show _ = (placesI order).getD ((placesI order).length - 1 - i_27) 0 by congr 1; rw [placesI_length]; omega) hbeh) | exact go_f (show i_39 < marks.length by omega) rfl (gRow_length _ _ _) (by assumption) (show _ = (placesI order).getD ((placesI order).length - 2 - i_27) 0 by congr 1; rw [placesI_length]; omega) (show _ = (placesI order).getD ((placesI order).length - 1 - i_27) 0 by congr 1; rw [placesI_length]; omega) hbeh
          · intro h50
            refine iteF ?_
            refine ⟨behind_36, rfl, fr, ?_⟩
            · first | (rw [hrl.2]; exact go_t (show i_39 < marks.length by omega) rfl (gRow_length _ _ _) (by assumption) (show _ = (placesI order).getD ((placesI order).length - 2 - i_27) 0 by congr 1; rw [placesI_length]; omega) (show _ = (placesI order).getD ((placesI order).length - 1 - i_27) 0 by congr 1; rw [placesI_length]; omega) hbeh) | exact go_f (show i_39 < marks.length by omega) rfl (gRow_length _ _ _) (by assumption) (show _ = (placesI order).getD ((placesI order).length - 2 - i_27) 0 by congr 1; rw [placesI_length]; omega) (show _ = (placesI order).getD ((placesI order).length - 1 - i_27) 0 by congr 1; rw [placesI_length]; omega) hbeh
        rintro s_53 H_52 ⟨here_45, rfl, fr, hh⟩
        refine ⟨_, rfl, (.inl ⟨rfl, _, (SqL.of fr.at0)⟩), _, rfl, _, _, _, rfl, rfl, fr.at0, ?_, ?_⟩
        · walk_at "size"
        have fr : Fr H _ ((l_33, (.lst (List.map V.int ((row_35 ++ [here_45]))) : HO)) :: (l_19, (.lst (List.map rowRef rows_21) : HO)) :: (p_5, (.lst (List.map V.int (((placesI order)))) : HO)) :: rowsOwn rows_21) := Fr.wrk fr 0 rfl (lst_app V.int _ _)
        have hlt_54 : (List.length rows_21 - 1) < List.length rows_21 := by omega
        refine ⟨_, rfl, _, rfl, _, rfl, _, _, _, _, rfl, rfl, (SqL.of fr.at1), (atLastD (0, []) ?_), _, rfl, _, _, _, _, rfl, rfl, (SqL.of (Fr.rowat (pre := [(l_33, (.lst (List.map V.int ((row_35 ++ [here_45]))) : HO)), (l_19, (.lst (List.map rowRef rows_21) : HO)), (p_5, (.lst (List.map V.int (((placesI order)))) : HO))]) fr (0, []) hlt_54)), (atD 0 ?_ ?_), _, _, rfl, rfl, ?_⟩
        · omega
        · first | omega | (rw [hrl3]; omega)
        · first | omega | (rw [hrl3]; omega)
        refine ⟨(row_35 ++ [here_45]), (behind_36 + (List.getD ((List.getD rows_21 (List.length rows_21 - 1) (0, [])).2) (Int.toNat ((((marks.length : Int) - 1) + (i_39 : Int) * (-1)))) 0)), _, _, rfl, fr, ?_, ?_⟩
        · rw [hrow, hh]; exact gTo_next _ _ rfl
        · rw [hrl.2]; exact go_b (show i_39 < marks.length by omega) rfl (gRow_length _ _ _) hbeh
      rintro s_56 H_55 ⟨row_35, behind_36, y_37, y_38, rfl, fr, hrow, hbeh⟩
      refine ⟨_, rfl, (.inl ⟨rfl, _, (SqL.of fr.at0)⟩), _, _, rfl, rfl, fr.at0, ?_⟩
      have fr : Fr H _ ((l_33, (.lst (List.map V.int ((List.reverse row_35))) : HO)) :: (l_19, (.lst (List.map rowRef rows_21) : HO)) :: (p_5, (.lst (List.map V.int (((placesI order)))) : HO)) :: rowsOwn rows_21) := Fr.wrk fr 0 rfl (lst_rev _ _)
      refine ⟨_, rfl, (.inl ⟨rfl, _, (SqL.of fr.at1)⟩), _, rfl, _, _, _, rfl, rfl, fr.at1, ?_, ?_⟩
      · walk_at "size"
      have fr : Fr H _ ((l_33, (.lst (List.map V.int ((List.reverse row_35))) : HO)) :: (l_19, (.lst (List.map rowRef ((rows_21 ++ [(l_33, (List.reverse row_35))]))) : HO)) :: (p_5, (.lst (List.map V.int (((placesI order)))) : HO)) :: rowsOwn rows_21) := Fr.wrk fr 1 rfl (lst_app rowRef _ _)
      have fr : Fr H _ ((l_19, (.lst (List.map rowRef ((rows_21 ++ [(l_33, (List.reverse row_35))]))) : HO)) :: (p_5, (.lst (List.map V.int (((placesI order)))) : HO)) :: rowsOwn ((rows_21 ++ [(l_33, (List.reverse row_35))]))) := Fr.rowin (pre := [(l_19, (.lst (List.map rowRef ((rows_21 ++ [(l_33, (List.reverse row_35))]))) : HO)), (p_5, (.lst (List.map V.int (((placesI order)))) : HO))]) (rows := rows_21) fr
      refine ⟨(rows_21 ++ [(l_33, (List.reverse row_35))]), _, _, _, _, _, rfl, fr, ?_⟩
      · rw [List.map_append, hg]; exact (congrArg (fun z => gRows marks (placesI order) (i_27 + 1) ++ [z]) (by show List.reverse _ = _; rw [hrow]; rw [gRow, gStep, gRow_length]; congr 2; omega)).trans (gRows_next _ _ _)
    rintro s_58 H_57 ⟨rows_21, y_22, y_23, y_24, y_25, y_26, rfl, fr, hg⟩
    refine ⟨_, rfl, (.inl ⟨rfl, _, (SqL.of fr.at0)⟩), _, _, rfl, rfl, fr.at0, ?_⟩
    have fr : Fr H _ ((l_19, (.lst (List.map rowRef ((List.reverse rows_21))) : HO)) :: (p_5, (.lst (List.map V.int (((placesI order)))) : HO)) :: rowsOwn rows_21) := Fr.wrk fr 0 rfl (lst_rev _ _)
    have fr : Fr H _ ((l_19, (.lst (List.map rowRef ((List.reverse rows_21))) : HO)) :: (p_5, (.lst (List.map V.int (((placesI order)))) : HO)) :: rowsOwn ((List.reverse rows_21))) := Fr.rowsrev (pre := [(l_19, (.lst (List.map rowRef ((List.reverse rows_21))) : HO)), (p_5, (.lst (List.map V.int (((placesI order)))) : HO))]) fr
    refine ⟨_, rfl, ?_⟩
    have fr : Fr H _ ((l_19, (.lst (List.map rowRef ((List.reverse rows_21))) : HO)) :: rowsOwn ((List.reverse rows_21))) := Fr.dk fr 1
    exact q _ _ ((List.reverse rows_21)) (by rw [List.map_reverse, hg]; congr 2; omega) fr.same fr.n0 fr.at0 (Fr.rowsback fr).1 (Fr.rowsback fr).2
def sp_how_many (K : PySem.W.Frag) : Sp := fun vs H Q _ => ∃ (a_order : Addr) (order : List Int) (a_marks : Addr) (marks : List Bool), vs = [V.ref a_order, V.ref a_marks] ∧ H a_order = some (.lst (List.map V.int order)) ∧ H a_marks = some (.lst (List.map V.bl marks)) ∧ (IsOrd order) ∧ (1 ≤ order.length ∧ order.length ≤ 60 ∧ 1 ≤ marks.length ∧ marks.length ≤ 1000) ∧ (∀ (H1 : Hp) (res : Int), (res = howI order marks) → Same H H1 → Q (V.int res) H1)
theorem sc_how_many : FnScope ["order", "marks"] ["order", "marks"] (defScope s_how_many) := ⟨rfl, rfl, rfl, by decide +kernel, rfl, by decide +kernel, by decide +kernel⟩
theorem ok_how_many (T : Txt K mg base) : FnOk P w K mg base CX0 3 T.f_how_many T.fd_how_many ["order", "marks"] (sp_how_many K) := by
  refine T.F_how_many.ok sc_how_many (fun vs H Q E h => ?_) (fun cdv A outer s H vs Q E hr h => ?_)
  · obtain ⟨a_order, order, a_marks, marks, rfl, _⟩ := h; rfl
  · obtain ⟨a_order, order, a_marks, marks, rfl, h_order, h_marks, pre0, pre1, q⟩ := h
    have fr := Fr.nil H
    refine ⟨_, (pss_one (ps_ret (pe_callB (show CallR _ _ (rSum K) from cr_sum rfl) (by rfl) T.m_sum (by decide +kernel) (pa_cons (pe_ix (show IxR _ (rIxL K) from ix_list) (pe_call (ok_goings_on T) (hr.mono (by decide)) (by rfl) T.g_goings_on T.F_goings_on.kp T.b_goings_on .nil pass0 (pa_cons (pv 0) (pa_cons (pv 1) pa_nil))) pe_int (fun _ _ => rfl)) pa_nil)))), ?_⟩
    refine ⟨_, rfl, _, rfl, a_order, order, a_marks, marks, rfl, (fr.same _ _ h_order), (fr.same _ _ h_marks), ?_, ?_, fun H_1 p_5 goings_on_2 hp_4 sm_3 np_6 ep_7 hrr_8 hnd_9 => ?_⟩
    · exact pre0
    · omega
    have fr : Fr H _ ((p_5, (.lst (List.map rowRef goings_on_2) : HO)) :: rowsOwn goings_on_2) := Fr.crows (own := []) fr sm_3 np_6 ep_7 hrr_8 hnd_9
    have hgf := gRows_first (by omega) hp_4
    have hlt_10 : (Int.toNat 0) < List.length goings_on_2 := by omega
    refine ⟨_, _, _, _, rfl, rfl, (SqL.of fr.at0), (atD (0, []) ?_ ?_), _, _, rfl, (SqL.of (Fr.rowat (pre := [(p_5, (.lst (List.map rowRef goings_on_2) : HO))]) fr (0, []) hlt_10)), ?_⟩
    · omega
    · omega
    exact q _ ((List.sum ((List.getD goings_on_2 (Int.toNat 0) (0, [])).2))) (by exact hgf.2) fr.same
def sp_steps_on (K : PySem.W.Frag) : Sp := fun vs H Q _ => ∃ (a_order : Addr) (order : List Int) (a_marks : Addr) (marks : List Bool) (a_heaps : Addr) (heaps : List Int), vs = [V.ref a_order, V.ref a_marks, V.ref a_heaps] ∧ H a_order = some (.lst (List.map V.int order)) ∧ H a_marks = some (.lst (List.map V.bl marks)) ∧ H a_heaps = some (.lst (List.map V.int heaps)) ∧ (IsOrd order) ∧ (1 ≤ order.length ∧ order.length ≤ 60 ∧ 1 ≤ marks.length ∧ marks.length ≤ 1000 ∧ heaps.length < order.length) ∧ (∀ x ∈ heaps, 0 ≤ x ∧ x < (marks.length : Int)) ∧ (∀ (H1 : Hp) (rA : Addr) (res : List Int), (res = stepsI order marks heaps) → Same H H1 → H rA = none → H1 rA = some (.lst (List.map V.int res)) → Q (V.ref rA) H1)
theorem sc_steps_on : FnScope ["order", "marks", "heaps", "at", "last", "found", "heap"] ["order", "marks", "heaps"] (defScope s_steps_on) := ⟨rfl, rfl, rfl, by decide +kernel, rfl, by decide +kernel, by decide +kernel⟩
theorem ok_steps_on (T : Txt K mg base) : FnOk P w K mg base CX0 2 T.f_steps_on T.fd_steps_on ["order", "marks", "heaps"] (sp_steps_on K) := by
  refine T.F_steps_on.ok sc_steps_on (fun vs H Q E h => ?_) (fun cdv A outer s H vs Q E hr h => ?_)
  · obtain ⟨a_order, order, a_marks, marks, a_heaps, heaps, rfl, _⟩ := h; rfl
  · obtain ⟨a_order, order, a_marks, marks, a_heaps, heaps, rfl, h_order, h_marks, h_heaps, pre0, pre1, pre2, q⟩ := h
    have fr := Fr.nil H
    have hpl := placesI_length order
    refine ⟨_, (pss_cons (ps_if (pt_cmpR op_eqS (pe_callB (show CallR _ _ (rLenL K) from call_lenL) (by rfl) T.m_len (by decide +kernel) (pa_cons (pv 2) pa_nil)) pe_int (nomark _)) (pss_one (ps_ret (pe_lc (own := [("heap", 6)]) (g := gName 6) (tt := tYes) rfl sc_steps_on.nd (pi_range1 (by rfl) T.m_range (pa_cons (pe_callB (show CallR _ _ (rLenL K) from call_lenL) (by rfl) T.m_len (by decide +kernel) (pa_cons (pv 1) pa_nil)) pa_nil)) (blkOk_by (N := ["order", "marks", "heaps", "at", "last", "found", "heap"]) (sc := (defScope s_steps_on)) (by decide +kernel)) (fun _ _ _ _ _ => pg_name (i := 6) sc_steps_on.nd rfl (Or.inl rfl)) (fun _ _ _ _ _ => pts_nil) (fun _ _ _ _ _ => (pv 6))))) pss_nil)
          (pss_cons (ps_set (i := 3) sc_steps_on.nd rfl (Or.inl rfl) (pe_call (ok_places T) (hr.mono (by decide)) (by rfl) T.g_places T.F_places.kp T.b_places .nil pass0 (pa_cons (pv 0) pa_nil)))
          (pss_cons (ps_set (i := 4) sc_steps_on.nd rfl (Or.inl rfl) (pe_ix (show IxR _ (rIxL K) from ix_list) (pv 2) (pe_un un_neg pe_int) (fun _ _ => rfl)))
          (pss_cons (ps_setLc (i := 5) (own := [("heap", 6)]) (g := gName 6) (tt := tYes) rfl sc_steps_on.nd rfl rfl (sw_true rfl rfl rfl (by decide +kernel)) (pi_range2 (by rfl) T.m_range (pa_cons (pe_op op_add (pv 4) pe_int) (pa_cons (pe_callB (show CallR _ _ (rLenL K) from call_lenL) (by rfl) T.m_len (by decide +kernel) (pa_cons (pv 1) pa_nil)) pa_nil))) (blkOk_by (N := ["order", "marks", "heaps", "at", "last", "found", "heap"]) (sc := (defScope s_steps_on)) (by decide +kernel)) (fun _ _ _ _ _ => pg_name (i := 6) sc_steps_on.nd rfl (Or.inl rfl)) (fun _ _ _ _ _ => pts_nil) (fun _ _ _ _ _ => (pv 6)))
          (pss_cons (ps_if (pt_valS (pe_call (ok_may_share T) (hr.mono (by decide)) (by rfl) T.g_may_share T.F_may_share.kp T.b_may_share .nil pass0 (pa_cons (pv 1) (pa_cons (pv 4) (pa_cons (pe_ix (show IxR _ (rIxL K) from ix_list) (pv 3) (pe_op op_sub (pe_callB (show CallR _ _ (rLenL K) from call_lenL) (by rfl) T.m_len (by decide +kernel) (pa_cons (pv 2) pa_nil)) pe_int) (fun _ _ => rfl)) (pa_cons (pe_ix (show IxR _ (rIxL K) from ix_list) (pv 3) (pe_callB (show CallR _ _ (rLenL K) from call_lenL) (by rfl) T.m_len (by decide +kernel) (pa_cons (pv 2) pa_nil)) (fun _ _ => rfl)) pa_nil)))))) (pss_one (ps_ret (pe_op op_cat (pe_lst (pa_cons (pv 4) pa_nil)) (pv 5)))) pss_nil)
          (pss_one (ps_ret (pv 5)))))))), ?_⟩
    refine ⟨_, rfl, _, _, _, rfl, (SqL.of (fr.same _ _ h_heaps)), (List.length_map _), _, _, rfl, rfl, ?_, ?_⟩
    · intro h1
      refine ⟨_, rfl, ?_⟩
      refine iteT ?_
      refine ⟨_, rfl, _, _, _, rfl, (SqL.of (fr.same _ _ h_marks)), (List.length_map _), _, rfl, ?_, ?_, ?_⟩
      · walk_at "side"
      · walk_at "side"
      intro D_2 nD_3
      refine lc_it (walkR (n := marks.length)) (fun (i : Nat) H1 => Fr H H1 [(D_2, (.lst (List.map V.int ((List.map (fun i : Nat => (i : Int)) (List.range i)))) : HO))]) (fr.new nD_3) (fun i H1 hi fr => trivial) ?_ ?_
      · rintro i_5 x_9 H_7 H_8 hi_6 fr ⟨rfl, rfl⟩
        refine ⟨rfl, ?_⟩
        refine ⟨_, rfl, _, (Fr.atk fr 0 rfl), ?_, ?_⟩
        · walk_at "csize"
        exact (Fr.wr fr).cast (lc_r _ _)
      intro H_10 fr
      have fr : Fr H _ [(D_2, (.lst (List.map V.int ((List.map (fun i : Nat => (i : Int)) (List.range marks.length)))) : HO))] := fr
      exact q _ _ ((List.map (fun i : Nat => (i : Int)) (List.range marks.length))) (by first | exact steps_none (by assumption) | exact steps_t (by assumption) (by assumption) | exact steps_f (by assumption) (by assumption)) fr.same fr.n0 fr.at0
    · intro h1
      refine ⟨_, rfl, ?_⟩
      refine iteF ?_
      refine ⟨_, rfl, a_order, order, rfl, (fr.same _ _ h_order), ?_, ?_, fun H_11 p_15 places_12 hp_14 sm_13 np_16 ep_17 => ?_⟩
      · first | exact pre0 | omega
      · first | exact pre0 | omega
      have fr : Fr H _ [(p_15, (.lst (List.map V.int places_12) : HO))] := fr.cnew sm_13 np_16 ep_17
      subst hp_14
      refine ⟨_, rfl, _, rfl, _, _, _, _, rfl, rfl, (SqL.of (fr.same _ _ h_heaps)), (atLast 0 ?_), ?_⟩
      · omega
      have hlb := pre2 _ (lastD_mem (show 0 < heaps.length by omega))
      refine ⟨_, rfl, _, _, rfl, rfl, _, rfl, _, _, _, rfl, (SqL.of (fr.same _ _ h_marks)), (List.length_map _), _, _, rfl, ⟨?_, ?_, ?_, ?_⟩, ?_⟩
      · omega
      · omega
      · omega
      · omega
      intro D_18 nD_19
      refine lc_it (walk_range (lo := ((List.getLastD heaps 0) + 1)) (n := (Int.toNat ((marks.length : Int) - ((List.getLastD heaps 0) + 1))))) (fun (i : Nat) H1 => Fr H H1 [(D_18, (.lst (List.map V.int ((List.map (fun i : Nat => (((List.getLastD heaps 0) + 1) + (i : Int))) (List.range i)))) : HO)), (p_15, (.lst (List.map V.int (((placesI order)))) : HO))]) (fr.new nD_19) (fun i H1 hi fr => trivial) ?_ ?_
      · rintro i_21 x_25 H_23 H_24 hi_22 fr ⟨rfl, rfl⟩
        refine ⟨rfl, ?_⟩
        refine ⟨_, rfl, _, (Fr.atk fr 0 rfl), ?_, ?_⟩
        · walk_at "csize"
        exact (Fr.wr fr).cast (lc_r _ _)
      intro H_26 fr
      have fr : Fr H _ [(D_18, (.lst (List.map V.int ((List.map (fun i : Nat => (((List.getLastD heaps 0) + 1) + (i : Int))) (List.range (Int.toNat ((marks.length : Int) - ((List.getLastD heaps 0) + 1))))))) : HO)), (p_15, (.lst (List.map V.int (((placesI order)))) : HO))] := fr
      refine ⟨_, rfl, _, rfl, _, rfl, _, rfl, _, _, _, rfl, (SqL.of (fr.same _ _ h_heaps)), (List.length_map _), _, _, rfl, rfl, _, _, _, _, rfl, rfl, (SqL.of fr.at1), (atD 0 ?_ ?_), _, rfl, _, rfl, _, _, _, rfl, (SqL.of (fr.same _ _ h_heaps)), (List.length_map _), _, _, _, _, rfl, rfl, (SqL.of fr.at1), (atD 0 ?_ ?_), a_marks, marks, ((List.getLastD heaps 0)), ((List.getD (((placesI order))) (Int.toNat (((heaps.length : Int) - 1))) 0)), ((List.getD (((placesI order))) (Int.toNat ((heaps.length : Int))) 0)), rfl, (fr.same _ _ h_marks), ?_, fun H_27 may_share_28 hp_30 sm_29 => ?_⟩
      · walk_at "side"
      · walk_at "side"
      · walk_at "side"
      · walk_at "side"
      · exact hlb
      have fr : Fr H _ [(D_18, (.lst (List.map V.int ((List.map (fun i : Nat => (((List.getLastD heaps 0) + 1) + (i : Int))) (List.range (Int.toNat ((marks.length : Int) - ((List.getLastD heaps 0) + 1))))))) : HO)), (p_15, (.lst (List.map V.int (((placesI order)))) : HO))] := fr.call sm_29
      subst hp_30
      refine ⟨_, rfl, ?_, ?_⟩
      · intro h31
        refine iteT ?_
        refine ⟨_, rfl, (Evl.sz_of (show 1 ≤ 100000 by decide)), fun l_32 nl_33 => ?_⟩
        have fr : Fr H _ [(l_32, (.lst (List.map V.int ([(List.getLastD heaps 0)])) : HO)), (D_18, (.lst (List.map V.int ((List.map (fun i : Nat => (((List.getLastD heaps 0) + 1) + (i : Int))) (List.range (Int.toNat ((marks.length : Int) - ((List.getLastD heaps 0) + 1))))))) : HO)), (p_15, (.lst (List.map V.int (((placesI order)))) : HO))] := fr.new nl_33
        refine ⟨_, rfl, _, _, _, _, rfl, rfl, fr.at0, fr.at1, ?_, fun l_34 nl_35 => ?_⟩
        · walk_at "size"
        have fr : Fr H _ [(l_34, (.lst (List.map V.int ((([(List.getLastD heaps 0)]) ++ ((List.map (fun i : Nat => (((List.getLastD heaps 0) + 1) + (i : Int))) (List.range (Int.toNat ((marks.length : Int) - ((List.getLastD heaps 0) + 1))))))))) : HO)), (l_32, (.lst (List.map V.int ([(List.getLastD heaps 0)])) : HO)), (D_18, (.lst (List.map V.int ((List.map (fun i : Nat => (((List.getLastD heaps 0) + 1) + (i : Int))) (List.range (Int.toNat ((marks.length : Int) - ((List.getLastD heaps 0) + 1))))))) : HO)), (p_15, (.lst (List.map V.int (((placesI order)))) : HO))] := (fr.new nl_35).cast (lst_cat _ _ _)
        exact q _ _ ((([(List.getLastD heaps 0)]) ++ ((List.map (fun i : Nat => (((List.getLastD heaps 0) + 1) + (i : Int))) (List.range (Int.toNat ((marks.length : Int) - ((List.getLastD heaps 0) + 1)))))))) (by first | exact steps_none (by assumption) | exact steps_t (by assumption) (by assumption) | exact steps_f (by assumption) (by assumption)) fr.same fr.n0 fr.at0
      · intro h31
        refine iteF ?_
        refine ⟨_, rfl, ?_⟩
        exact q _ _ ((List.map (fun i : Nat => (((List.getLastD heaps 0) + 1) + (i : Int))) (List.range (Int.toNat ((marks.length : Int) - ((List.getLastD heaps 0) + 1)))))) (by first | exact steps_none (by assumption) | exact steps_t (by assumption) (by assumption) | exact steps_f (by assumption) (by assumption)) fr.same fr.n0 fr.at0
def sp_way (K : PySem.W.Frag) : Sp := fun vs H Q _ => ∃ (a_order : Addr) (order : List Int) (a_marks : Addr) (marks : List Bool) (number : Int), vs = [V.ref a_order, V.ref a_marks, V.int number] ∧ H a_order = some (.lst (List.map V.int order)) ∧ H a_marks = some (.lst (List.map V.bl marks)) ∧ (IsOrd order) ∧ (1 ≤ order.length ∧ order.length ≤ 60 ∧ 1 ≤ marks.length ∧ marks.length ≤ 1000) ∧ (0 ≤ number ∧ number < howI order marks) ∧ (∀ (H1 : Hp) (rA : Addr) (res : List Int), (res = wayI order marks number) → Same H H1 → H rA = none → H1 rA = some (.lst (List.map V.int res)) → Q (V.ref rA) H1)
theorem sc_way : FnScope ["order", "marks", "number", "rows", "heaps", "card", "heap"] ["order", "marks", "number"] (defScope s_way) := ⟨rfl, rfl, rfl, by decide +kernel, rfl, by decide +kernel, by decide +kernel⟩
theorem ok_way (T : Txt K mg base) : FnOk P w K mg base CX0 3 T.f_way T.fd_way ["order", "marks", "number"] (sp_way K) := by
  refine T.F_way.ok sc_way (fun vs H Q E h => ?_) (fun cdv A outer s H vs Q E hr h => ?_)
  · obtain ⟨a_order, order, a_marks, marks, number, rfl, _⟩ := h; rfl
  · obtain ⟨a_order, order, a_marks, marks, number, rfl, h_order, h_marks, pre0, pre1, pre2, q⟩ := h
    have fr := Fr.nil H
    refine ⟨_, (pss_cons (ps_set (i := 3) sc_way.nd rfl (Or.inl rfl) (pe_call (ok_goings_on T) (hr.mono (by decide)) (by rfl) T.g_goings_on T.F_goings_on.kp T.b_goings_on .nil pass0 (pa_cons (pv 0) (pa_cons (pv 1) pa_nil))))
          (pss_cons (ps_if (PW.pt (pw_or (pt_cmpR op_ltS (pv 2) pe_int (nomark _)) (pw_or1 (pt_cmpR op_geS (pv 2) (pe_callB (show CallR _ _ (rSum K) from cr_sum rfl) (by rfl) T.m_sum (by decide +kernel) (pa_cons (pe_ix (show IxR _ (rIxL K) from ix_list) (pv 3) pe_int (fun _ _ => rfl)) pa_nil)) (nomark _))))) pss_never pss_nil)
          (pss_cons (ps_set (i := 4) sc_way.nd rfl (Or.inr rfl) (pe_lst pa_nil))
          (pss_cons (ps_for PassesOwn.never rfl (pi_range1 (by rfl) T.m_range (pa_cons (pe_callB (show CallR _ _ (rLenL K) from call_lenL) (by rfl) T.m_len (by decide +kernel) (pa_cons (pv 0) pa_nil)) pa_nil)) (pg_name (i := 5) sc_way.nd rfl (Or.inl rfl)) (pss_one (ps_for PassesOwn.never rfl (pi_list (pe_call (ok_steps_on T) (hr.mono (by decide)) (by rfl) T.g_steps_on T.F_steps_on.kp T.b_steps_on .nil pass0 (pa_cons (pv 0) (pa_cons (pv 1) (pa_cons (pv 4) pa_nil))))) (pg_name (i := 6) sc_way.nd rfl (Or.inl rfl)) (pss_cons (ps_if (pt_cmpR op_ltS (pv 2) (pe_ix (show IxR _ (rIxL K) from ix_list) (pe_ix (show IxR _ (rIxL K) from ix_list) (pv 3) (pv 5) (fun _ _ => rfl)) (pv 6) (fun _ _ => rfl)) (nomark _)) (pss_cons (ps_expr (pe_bmK (K := K) (pe_bm PySem.F.plainAttrs_list PySem.F.slot_list_append PySem.F.type_list_append mt_append (pv 4) (pa_cons (pv 6) pa_nil))))
          (pss_one ps_break)) pss_nil)
          (pss_one (ps_aug (i := 2) sc_way.nd rfl (Or.inl rfl) (pe_ix (show IxR _ (rIxL K) from ix_list) (pe_ix (show IxR _ (rIxL K) from ix_list) (pv 3) (pv 5) (fun _ _ => rfl)) (pv 6) (fun _ _ => rfl)) ip_sub))))))
          (pss_one (ps_ret (pe_lc (own := [("card", 5)]) (g := gName 5) (tt := tYes) rfl sc_way.nd (pi_list (pv 0)) (blkOk_by (N := ["order", "marks", "number", "rows", "heaps", "card", "heap"]) (sc := (defScope s_way)) (by decide +kernel)) (fun _ _ _ _ _ => pg_name (i := 5) sc_way.nd rfl (Or.inl rfl)) (fun _ _ _ _ _ => pts_nil) (fun _ _ _ _ _ => (pe_ix (show IxR _ (rIxL K) from ix_list) (pv 4) (pv 5) (fun _ _ => rfl)))))))))), ?_⟩
    refine ⟨_, rfl, _, rfl, a_order, order, a_marks, marks, rfl, (fr.same _ _ h_order), (fr.same _ _ h_marks), ?_, ?_, fun H_1 p_5 goings_on_2 hp_4 sm_3 np_6 ep_7 hrr_8 hnd_9 => ?_⟩
    · exact pre0
    · omega
    have fr : Fr H _ ((p_5, (.lst (List.map rowRef goings_on_2) : HO)) :: rowsOwn goings_on_2) := Fr.crows (own := []) fr sm_3 np_6 ep_7 hrr_8 hnd_9
    have hgo := hp_4
    have hrl := rows_len hgo
    have hsm := rows_first (by omega) hgo
    refine ⟨_, rfl, _, _, rfl, rfl, ?_, ?_⟩
    · intro h10
      exfalso
      omega
    · intro h10
      refine ⟨_, rfl, ?_⟩
      refine iteF ?_
      have hlt_11 : (Int.toNat 0) < List.length goings_on_2 := by omega
      refine ⟨_, rfl, _, rfl, _, _, _, _, rfl, rfl, (SqL.of fr.at0), (atD (0, []) ?_ ?_), _, _, rfl, (SqL.of (Fr.rowat (pre := [(p_5, (.lst (List.map rowRef goings_on_2) : HO))]) fr (0, []) hlt_11)), _, _, rfl, rfl, ?_, ?_⟩
      · omega
      · omega
      · intro h12
        exfalso
        rw [show Int.toNat 0 = 0 from rfl, hsm] at h12; omega
      · intro h12
        refine ⟨_, rfl, ?_⟩
        refine iteF ?_
        refine ⟨(Evl.sz_of (show 0 ≤ 100000 by decide)), fun l_13 nl_14 => ?_⟩
        have fr : Fr H _ ((l_13, (.lst [] : HO)) :: (p_5, (.lst (List.map rowRef goings_on_2) : HO)) :: rowsOwn goings_on_2) := fr.new nl_14
        have fr : Fr H _ ((l_13, (.lst (List.map V.int ([])) : HO)) :: (p_5, (.lst (List.map rowRef goings_on_2) : HO)) :: rowsOwn goings_on_2) := fr
        refine ⟨_, rfl, _, _, _, rfl, (SqL.of (fr.same _ _ h_order)), (List.length_map _), _, rfl, ?_, ?_, ?_⟩
        · walk_at "side"
        · walk_at "side"
        refine for_it (walkR (n := order.length)) (fun (i : Nat) σ H1 => ∃ (number_15 : Int) (heaps_16 : List Int) (y_17 : Option V) (y_18 : Option V), σ = [some (V.ref a_order), some (V.ref a_marks), some (V.int number_15), some (V.ref p_5), some (V.ref l_13), y_17, y_18] ∧ Fr H H1 ((l_13, (.lst (List.map V.int heaps_16) : HO)) :: (p_5, (.lst (List.map rowRef goings_on_2) : HO)) :: rowsOwn goings_on_2) ∧ (Way order marks number i heaps_16 number_15)) ?_ ?_ ?_ ?_
        · refine ⟨number, [], _, _, rfl, fr, ?_⟩
          · exact Way.start pre2.1 pre2.2
        · rintro i σ H1 hi ⟨number_15, heaps_16, y_17, y_18, rfl, fr, hway⟩
          exact trivial
        · rintro i_19 x_21 s_24 H_22 H_23 hi_20 ⟨number_15, heaps_16, y_17, y_18, rfl, fr, hway⟩ ⟨rfl, rfl⟩
          have hgr := rows_at hgo hi_20
          have hwl := hway.len
          refine ⟨_, rfl, _, rfl, _, rfl, a_order, order, a_marks, marks, l_13, heaps_16, rfl, (fr.same _ _ h_order), (fr.same _ _ h_marks), fr.at0, ?_, ?_, ?_, fun H_25 p_29 steps_on_26 hp_28 sm_27 np_30 ep_31 => ?_⟩
          · exact pre0
          · have := hway.len; omega
          · exact hway.bd
          have fr : Fr H _ ((p_29, (.lst (List.map V.int steps_on_26) : HO)) :: (l_13, (.lst (List.map V.int heaps_16) : HO)) :: (p_5, (.lst (List.map rowRef goings_on_2) : HO)) :: rowsOwn goings_on_2) := fr.cnew sm_27 np_30 ep_31
          subst hp_28
          have hsl := stepsI_len (o := order) hway.bd
          refine ⟨_, rfl, ⟨_, (SqL.of fr.at0)⟩, ?_⟩
          refine for_it (walkL V.int (((stepsI order marks heaps_16)))) (fun (i : Nat) σ H1 => ∃ (number_32 : Int) (heaps_33 : List Int) (y_34 : Option V), σ = [some (V.ref a_order), some (V.ref a_marks), some (V.int number_32), some (V.ref p_5), some (V.ref l_13), some (V.int ((i_19 : Int))), y_34] ∧ Fr H H1 ((p_29, (.lst (List.map V.int (((stepsI order marks heaps_16)))) : HO)) :: (l_13, (.lst (List.map V.int heaps_33) : HO)) :: (p_5, (.lst (List.map rowRef goings_on_2) : HO)) :: rowsOwn goings_on_2) ∧ (Pick (goAt order marks i_19) (stepsI order marks heaps_16) number_15 i number_32) ∧ (heaps_33 = heaps_16)) ?_ ?_ ?_ ?_
          · refine ⟨number_15, heaps_16, _, rfl, fr, ?_, ?_⟩
            · exact hway.pick hi_20
            · rfl
          · rintro i σ H1 hi ⟨number_32, heaps_33, y_34, rfl, fr, hpick, heq⟩
            exact fr.at0
          · rintro i_35 x_37 s_40 H_38 H_39 hi_36 ⟨number_32, heaps_33, y_34, rfl, fr, hpick, heq⟩ ⟨rfl, y_41, hy_42, rfl⟩
            have hyb := stepsI_bd (o := order) hway.bd (List.mem_of_getElem? hy_42)
            have hhl : heaps_33.length = i_19 := by rw [heq]; exact hway.len
            have hgl : (List.getD goings_on_2 (Int.toNat (i_19 : Int)) (0, [])).2.length = marks.length := by rw [Int.toNat_natCast, hgr]; simp
            have hlt_43 : (Int.toNat ((i_19 : Int))) < List.length goings_on_2 := by omega
            refine ⟨_, rfl, _, rfl, _, rfl, _, _, _, _, rfl, rfl, (SqL.of fr.at2), (atD (0, []) ?_ ?_), _, rfl, _, _, _, _, rfl, rfl, (SqL.of (Fr.rowat (pre := [(p_29, (.lst (List.map V.int (((stepsI order marks heaps_16)))) : HO)), (l_13, (.lst (List.map V.int heaps_33) : HO)), (p_5, (.lst (List.map rowRef goings_on_2) : HO))]) fr (0, []) hlt_43)), (atD 0 ?_ ?_), _, _, rfl, rfl, ?_, ?_⟩
            · omega
            · omega
            · first | omega | (rw [hgl]; omega)
            · first | omega | (rw [hgl]; omega)
            · intro h44
              refine ⟨_, rfl, ?_⟩
              refine iteT ?_
              refine ⟨_, rfl, (.inl ⟨rfl, _, (SqL.of fr.at1)⟩), _, rfl, _, _, _, rfl, rfl, fr.at1, ?_, ?_⟩
              · walk_at "size"
              have fr : Fr H _ ((p_29, (.lst (List.map V.int (((stepsI order marks heaps_16)))) : HO)) :: (l_13, (.lst (List.map V.int ((heaps_33 ++ [y_41]))) : HO)) :: (p_5, (.lst (List.map rowRef goings_on_2) : HO)) :: rowsOwn goings_on_2) := Fr.wrk fr 1 rfl (lst_app V.int _ _)
              have fr : Fr H _ ((l_13, (.lst (List.map V.int ((heaps_33 ++ [y_41]))) : HO)) :: (p_5, (.lst (List.map rowRef goings_on_2) : HO)) :: rowsOwn goings_on_2) := Fr.dk fr 0
              refine ⟨number_32, (heaps_33 ++ [y_41]), _, _, rfl, fr, ?_⟩
              · first | exact (hpick.over).elim | (rw [heq]; exact hway.next hpick (by assumption) (by rw [← hgr]; assumption))
            · intro h44
              refine ⟨_, rfl, ?_⟩
              refine iteF ?_
              have hlt_45 : (Int.toNat ((i_19 : Int))) < List.length goings_on_2 := by omega
              refine ⟨_, rfl, _, rfl, _, rfl, _, _, _, _, rfl, rfl, (SqL.of fr.at2), (atD (0, []) ?_ ?_), _, rfl, _, _, _, _, rfl, rfl, (SqL.of (Fr.rowat (pre := [(p_29, (.lst (List.map V.int (((stepsI order marks heaps_16)))) : HO)), (l_13, (.lst (List.map V.int heaps_33) : HO)), (p_5, (.lst (List.map rowRef goings_on_2) : HO))]) fr (0, []) hlt_45)), (atD 0 ?_ ?_), _, _, rfl, rfl, ?_⟩
              · omega
              · omega
              · first | omega | (rw [hgl]; omega)
              · first | omega | (rw [hgl]; omega)
              refine ⟨(number_32 - (List.getD ((List.getD goings_on_2 (Int.toNat ((i_19 : Int))) (0, [])).2) (Int.toNat y_41) 0)), heaps_33, _, rfl, fr, ?_, ?_⟩
              · rw [Int.toNat_natCast, hgr]; exact hpick.next hy_42 (by rw [← hgr]; assumption)
              · walk_at "inv"
          rintro s_47 H_46 ⟨number_32, heaps_33, y_34, rfl, fr, hpick, heq⟩
          have fr : Fr H _ ((l_13, (.lst (List.map V.int heaps_33) : HO)) :: (p_5, (.lst (List.map rowRef goings_on_2) : HO)) :: rowsOwn goings_on_2) := Fr.dk fr 0
          refine ⟨number_32, heaps_33, _, _, rfl, fr, ?_⟩
          · first | exact (hpick.over).elim | (rw [heq]; exact hway.next hpick (by assumption) (by rw [← hgr]; assumption))
        rintro s_49 H_48 ⟨number_15, heaps_16, y_17, y_18, rfl, fr, hway⟩
        refine ⟨_, rfl, _, rfl, ⟨_, (SqL.of (fr.same _ _ h_order))⟩, ?_⟩
        intro D_50 nD_51
        refine lc_it (walkL V.int order) (fun (i : Nat) H1 => Fr H H1 ((D_50, (.lst (List.map V.int ((List.map (fun y : Int => (List.getD heaps_16 (Int.toNat y) 0)) (List.take i order)))) : HO)) :: (l_13, (.lst (List.map V.int heaps_16) : HO)) :: (p_5, (.lst (List.map rowRef goings_on_2) : HO)) :: rowsOwn goings_on_2)) (fr.new nD_51) (fun i H1 hi fr => (fr.same _ _ h_order)) ?_ ?_
        · rintro i_53 x_57 H_55 H_56 hi_54 fr ⟨rfl, y_58, hy_59, rfl⟩
          refine ⟨rfl, ?_⟩
          have hb := pre0.bd hy_59
          have hwl := hway.len
          refine ⟨_, rfl, _, rfl, _, _, _, _, rfl, rfl, (SqL.of fr.at1), (atD 0 ?_ ?_), _, (Fr.atk fr 0 rfl), ?_, ?_⟩
          · walk_at "side"
          · walk_at "side"
          · walk_at "csize"
          exact (Fr.wr fr).cast (lc_l hy_59)
        intro H_60 fr
        have fr : Fr H _ ((D_50, (.lst (List.map V.int ((List.map (fun y : Int => (List.getD heaps_16 (Int.toNat y) 0)) order))) : HO)) :: (l_13, (.lst (List.map V.int heaps_16) : HO)) :: (p_5, (.lst (List.map rowRef goings_on_2) : HO)) :: rowsOwn goings_on_2) := fr.cast (by rw [List.take_length])
        exact q _ _ ((List.map (fun y : Int => (List.getD heaps_16 (Int.toNat y) 0)) order)) (by unfold wayI; rw [hway.eq]) fr.same fr.n0 fr.at0
def sp_law {K : PySem.W.Frag} {mg : Str → Option Value} {base : Heap} (T : Txt K mg base) : Sp := fun vs H Q _ => ∃ (a_script : Addr) (script : List Int) (lam : LT) (Hm : Hp), vs = [V.ref a_script] ∧ Lent Hm H ([] ++ List.flatten [ctOwn T.P_lam q_lam lam]) ∧ SqL K Hm a_script (List.map V.int script) ∧ (script.length ≤ 63) ∧ (∀ (H1 : Hp) (lam' : LT) (res : Bool), (res = true) → Fr Hm H1 ([] ++ List.flatten [ctOwn T.P_lam q_lam lam']) → Q (V.bl res) H1)
theorem sc_law : FnScope ["_law_script", "_law_k", "_law_cell", "_law_marks_here", "_law_n", "_law_rest", "_law_order_here", "_law_due_here", "_law_j", "_law_card", "_law_number"] ["_law_script"] (defScope s_law) := ⟨rfl, rfl, rfl, by decide +kernel, rfl, by decide +kernel, by decide +kernel⟩
theorem ok_law (T : Txt K mg base) : FnOk P w K mg base CX0 6 T.f_law T.fd_law ["_law_script"] (sp_law T) := by
  refine T.F_law.ok sc_law (fun vs H Q E h => ?_) (fun cdv A outer s H vs Q E hr h => ?_)
  · obtain ⟨a_script, script, lam, Hm, rfl, _⟩ := h; rfl
  · obtain ⟨a_script, script, lam, Hm, rfl, hl, h_script, pre0, q⟩ := h
    have fr : Fr Hm _ ([] ++ List.flatten [ctOwn T.P_lam q_lam lam]) := hl.fr
    refine ⟨_, (pss_cons (ps_for PassesOwn.never rfl (pi_range3 (by rfl) T.m_range (pa_cons pe_int (pa_cons (pe_op op_add (pe_callB (call_minI rfl) (by rfl) T.m_min (by decide +kernel) (pa_cons pe_int (pa_cons (pe_callB (show CallR _ _ (rLenL K) from call_lenL) (by rfl) T.m_len (by decide +kernel) (pa_cons (pv 0) pa_nil)) pa_nil))) pe_int) (pa_cons pe_int pa_nil)))) (pg_name (i := 1) sc_law.nd rfl (Or.inl rfl)) (pss_cons (ps_set (i := 2) sc_law.nd rfl (Or.inr rfl) (pe_call (ok_law_deep T) (hr.mono (by decide)) (by rfl) T.g_law_deep T.F_law_deep.kp T.b_law_deep .nil pass0 (pa_cons (pv 0) (pa_cons (pv 1) pa_nil))))
          (pss_cons (ps_set (i := 3) sc_law.nd rfl (Or.inr rfl) (pe_lc (own := [("_law_j", 8)]) (g := gName 8) (tt := tYes) rfl sc_law.nd (pi_range1 (by rfl) T.m_range (pa_cons (pe_op op_add pe_int (pe_op op_mod (pv 2) pe_int)) pa_nil)) (blkOk_by (N := ["_law_script", "_law_k", "_law_cell", "_law_marks_here", "_law_n", "_law_rest", "_law_order_here", "_law_due_here", "_law_j", "_law_card", "_law_number"]) (sc := (defScope s_law)) (by decide +kernel)) (fun _ _ _ _ _ => pg_name (i := 8) sc_law.nd rfl (Or.inl rfl)) (fun _ _ _ _ _ => pts_nil) (fun _ _ _ _ _ => (pe_cmp (pc_eqI (pe_op op_mod (pe_op op_fdiv (pe_op op_fdiv (pv 2) pe_int) (pe_op op_shl pe_int (pv 8))) pe_int) pe_int)))))
          (pss_cons (ps_set (i := 4) sc_law.nd rfl (Or.inl rfl) (pe_op op_add pe_int (pe_op op_mod (pe_op op_fdiv (pv 2) pe_int) (pe_ix (show IxR _ (rIxL K) from ix_list) (pe_lst (pa_cons pe_int (pa_cons pe_int (pa_cons pe_int (pa_cons pe_int pa_nil))))) (pe_op op_sub (pe_callB (show CallR _ _ (rLenL K) from call_lenL) (by rfl) T.m_len (by decide +kernel) (pa_cons (pv 3) pa_nil)) pe_int) (fun _ _ => rfl)))))
          (pss_cons (ps_set (i := 5) sc_law.nd rfl (Or.inl rfl) (pe_call (ok_law_deep T) (hr.mono (by decide)) (by rfl) T.g_law_deep T.F_law_deep.kp T.b_law_deep .nil pass0 (pa_cons (pv 0) (pa_cons (pe_op op_add (pv 1) pe_int) pa_nil))))
          (pss_cons (ps_set (i := 6) sc_law.nd rfl (Or.inr rfl) (pe_call (ok_law_order T) (hr.mono (by decide)) (by rfl) T.g_law_order T.F_law_order.kp T.b_law_order .nil pass0 (pa_cons (pe_op op_fdiv (pv 5) pe_int) (pa_cons (pv 4) pa_nil))))
          (pss_cut (ps_if (pt_cmpR op_eqS (pe_op op_mod (pv 5) pe_int) pe_int (nomark _)) (pss_one (ps_set (i := 6) sc_law.nd rfl (Or.inr rfl) (pe_call (ok_law_riffled T) (hr.mono (by decide)) (by rfl) T.g_law_riffled T.F_law_riffled.kp T.b_law_riffled .nil pass0 (pa_cons (pe_lc (own := [("_law_card", 9)]) (g := gName 9) (tt := tYes) rfl sc_law.nd (pi_range1 (by rfl) T.m_range (pa_cons (pv 4) pa_nil)) (blkOk_by (N := ["_law_script", "_law_k", "_law_cell", "_law_marks_here", "_law_n", "_law_rest", "_law_order_here", "_law_due_here", "_law_j", "_law_card", "_law_number"]) (sc := (defScope s_law)) (by decide +kernel)) (fun _ _ _ _ _ => pg_name (i := 9) sc_law.nd rfl (Or.inl rfl)) (fun _ _ _ _ _ => pts_nil) (fun _ _ _ _ _ => (pv 9))) (pa_cons (pv 3) (pa_cons (pe_call (ok_law_word T) (hr.mono (by decide)) (by rfl) T.g_law_word T.F_law_word.kp T.b_law_word .nil pass0 (pa_cons (pe_op op_fdiv (pv 5) pe_int) (pa_cons (pe_callB (show CallR _ _ (rLenL K) from call_lenL) (by rfl) T.m_len (by decide +kernel) (pa_cons (pv 3) pa_nil)) (pa_cons (pv 4) pa_nil)))) pa_nil)))))) pss_nil)
          (pss_cons (ps_set (i := 7) sc_law.nd rfl (Or.inl rfl) (pe_call (ok_law_due T) (hr.mono (by decide)) (by rfl) T.g_law_due T.F_law_due.kp T.b_law_due .nil pass0 (pa_cons (pv 6) (pa_cons (pv 3) pa_nil))))
          (pss_cons (ps_if (pt_cmpR op_neS (pe_call (ok_how_many T) (hr.mono (by decide)) (by rfl) T.g_how_many T.F_how_many.kp T.b_how_many .nil pass0 (pa_cons (pv 6) (pa_cons (pv 3) pa_nil))) (pe_callB (show CallR _ _ (rLenL K) from call_lenL) (by rfl) T.m_len (by decide +kernel) (pa_cons (pv 7) pa_nil)) (nomark _)) (pss_one (ps_ret pe_bl)) pss_nil)
          (pss_one (ps_if (pt_cmpR (opS (show OpR _ _ (rNeX K) from op_neX (hu64 hr))) (pe_lc (own := [("_law_number", 10)]) (g := gName 10) (tt := tYes) rfl sc_law.nd (pi_range1 (by rfl) T.m_range (pa_cons (pe_callB (show CallR _ _ (rLenL K) from call_lenL) (by rfl) T.m_len (by decide +kernel) (pa_cons (pv 7) pa_nil)) pa_nil)) (blkOk_by (N := ["_law_script", "_law_k", "_law_cell", "_law_marks_here", "_law_n", "_law_rest", "_law_order_here", "_law_due_here", "_law_j", "_law_card", "_law_number"]) (sc := (defScope s_law)) (by decide +kernel)) (fun _ _ _ _ _ => pg_name (i := 10) sc_law.nd rfl (Or.inl rfl)) (fun _ _ _ _ _ => pts_nil) (fun _ _ _ _ _ => (pe_call (ok_way T) (hr.mono (by decide)) (by rfl) T.g_way T.F_way.kp T.b_way .nil pass0 (pa_cons (pv 6) (pa_cons (pv 3) (pa_cons (pv 10) pa_nil)))))) (pv 7) (nomark _)) (pss_one (ps_ret pe_bl)) pss_nil)))))))))))
          (pss_one (ps_ret pe_bl))), ?_⟩
    refine ⟨_, rfl, _, _, _, rfl, (fr.same.seq h_script), (List.length_map _), _, _, rfl, _, _, rfl, rfl, _, _, _, (Int.toNat ((((min 16 ((script.length : Int))) + 1) + 1) / 2)), rfl, (rgc2 ?_ ?_), ?_⟩
    · walk_at "side"
    · walk_at "side"
    refine for_it (walk_rangeC (lo := 0) (c := 2) (n := (Int.toNat ((((min 16 ((script.length : Int))) + 1) + 1) / 2)))) (fun (i : Nat) σ H1 => ∃ (k_1 : LT) (y_2 : Option V) (y_3 : Option V) (y_4 : Option V) (y_5 : Option V) (y_6 : Option V) (y_7 : Option V) (y_8 : Option V), σ = [some (V.ref a_script), y_2, y_3, y_4, y_5, y_6, y_7, y_8, none, none, none] ∧ Fr Hm H1 ([] ++ List.flatten [ctOwn T.P_lam q_lam k_1])) ?_ ?_ ?_ ?_
    · refine ⟨lam, _, _, _, _, _, _, _, rfl, fr⟩
    · rintro i σ H1 hi ⟨k_1, y_2, y_3, y_4, y_5, y_6, y_7, y_8, rfl, fr⟩
      exact trivial
    · rintro i_9 x_11 s_14 H_12 H_13 hi_10 ⟨k_1, y_2, y_3, y_4, y_5, y_6, y_7, y_8, rfl, fr⟩ ⟨rfl, rfl⟩
      refine ⟨_, rfl, _, rfl, a_script, script, ((0 + (i_9 : Int) * 2)), rfl, (fr.same.seq h_script), ?_, fun H_15 deep_16 hp_18 sm_17 => ?_⟩
      · omega
      have fr : Fr Hm _ ([] ++ List.flatten [ctOwn T.P_lam q_lam k_1]) := fr.call sm_17
      refine ⟨_, rfl, _, _, rfl, rfl, (show (0 : Int) < _ by decide), _, _, rfl, rfl, _, rfl, ?_, ?_, ?_⟩
      · walk_at "side"
      · walk_at "side"
      intro D_19 nD_20
      refine lc_it (walkR (n := (Int.toNat ((1 + (deep_16 % 4)))))) (fun (i : Nat) H1 => Fr Hm H1 ([(D_19, (.lst (List.map V.bl ((List.map (fun i : Nat => decide ((((deep_16 / 64) / (1 * 2 ^ ((i : Int)).toNat)) % 2) = 1)) (List.range i)))) : HO))] ++ List.flatten [ctOwn T.P_lam q_lam k_1])) (fr.new nD_20) (fun i H1 hi fr => trivial) ?_ ?_
      · rintro i_22 x_26 H_24 H_25 hi_23 fr ⟨rfl, rfl⟩
        refine ⟨rfl, ?_⟩
        have hp2 := two4 (k := i_22) (by omega)
        refine ⟨_, rfl, _, _, rfl, rfl, ⟨by decide, by decide⟩, _, rfl, _, _, rfl, rfl, ⟨by first | decide | omega, by first | decide | omega, by first | decide | omega⟩, _, _, rfl, rfl, ?_, _, _, rfl, rfl, (show (0 : Int) < _ by decide), _, _, rfl, rfl, _, (Fr.atk fr 0 rfl), ?_, ?_⟩
        · walk_at "div"
        · walk_at "csize"
        exact (Fr.wr fr).cast (lc_r _ _)
      intro H_27 fr
      have fr : Fr Hm _ ([(D_19, (.lst (List.map V.bl ((List.map (fun i : Nat => decide ((((deep_16 / 64) / (1 * 2 ^ ((i : Int)).toNat)) % 2) = 1)) (List.range (Int.toNat ((1 + (deep_16 % 4)))))))) : HO))] ++ List.flatten [ctOwn T.P_lam q_lam k_1]) := fr
      have hml : (((List.map (fun i : Nat => decide ((((deep_16 / 64) / (1 * 2 ^ ((i : Int)).toNat)) % 2) = 1)) (List.range (Int.toNat ((1 + (deep_16 % 4))))))).length : Int) = 1 + deep_16 % 4 := by rw [List.length_map, List.length_range]; omega
      have h5 := five4 (k := ((List.map (fun i : Nat => decide ((((deep_16 / 64) / (1 * 2 ^ ((i : Int)).toNat)) % 2) = 1)) (List.range (Int.toNat ((1 + (deep_16 % 4))))))).length) (by omega)
      refine ⟨_, rfl, _, _, rfl, rfl, ⟨by decide, by decide⟩, (Evl.sz_of (show 4 ≤ 100000 by decide)), fun l_28 nl_29 => ?_⟩
      have fr : Fr Hm _ ([(l_28, (.lst (List.map V.int ([5, 5, 5, 4])) : HO)), (D_19, (.lst (List.map V.bl ((List.map (fun i : Nat => decide ((((deep_16 / 64) / (1 * 2 ^ ((i : Int)).toNat)) % 2) = 1)) (List.range (Int.toNat ((1 + (deep_16 % 4)))))))) : HO))] ++ List.flatten [ctOwn T.P_lam q_lam k_1]) := fr.new nl_29
      refine ⟨_, rfl, _, _, _, rfl, (SqL.of fr.at1), (List.length_map _), _, _, rfl, rfl, _, _, _, _, rfl, rfl, (SqL.of fr.at0), (atD 0 ?_ ?_), _, _, rfl, rfl, ?_, _, _, rfl, rfl, ?_⟩
      · first | omega | (show _ < (4 : Int); omega)
      · first | omega | (show _ < (4 : Int); omega)
      · omega
      have hnn := one_mod' (b := ((1 + ((deep_16 / 4) % (List.getD ([5, 5, 5, 4]) (Int.toNat (((((List.map (fun i : Nat => decide ((((deep_16 / 64) / (1 * 2 ^ ((i : Int)).toNat)) % 2) = 1)) (List.range (Int.toNat ((1 + (deep_16 % 4))))))).length : Int) - 1))) 0))))) (L := ([5, 5, 5, 4] : List Int).getD (Int.toNat ((((List.map (fun i : Nat => decide ((((deep_16 / 64) / (1 * 2 ^ ((i : Int)).toNat)) % 2) = 1)) (List.range (Int.toNat ((1 + (deep_16 % 4))))))).length : Int) - 1)) 0) (by omega) rfl
      have fr : Fr Hm _ ([(D_19, (.lst (List.map V.bl ((List.map (fun i : Nat => decide ((((deep_16 / 64) / (1 * 2 ^ ((i : Int)).toNat)) % 2) = 1)) (List.range (Int.toNat ((1 + (deep_16 % 4)))))))) : HO))] ++ List.flatten [ctOwn T.P_lam q_lam k_1]) := Fr.dk fr 0
      refine ⟨_, rfl, _, rfl, _, _, rfl, rfl, a_script, script, (((0 + (i_9 : Int) * 2) + 1)), rfl, (fr.same.seq h_script), ?_, fun H_30 deep_31 hp_33 sm_32 => ?_⟩
      · omega
      have fr : Fr Hm _ ([(D_19, (.lst (List.map V.bl ((List.map (fun i : Nat => decide ((((deep_16 / 64) / (1 * 2 ^ ((i : Int)).toNat)) % 2) = 1)) (List.range (Int.toNat ((1 + (deep_16 % 4)))))))) : HO))] ++ List.flatten [ctOwn T.P_lam q_lam k_1]) := fr.call sm_32
      refine ⟨_, rfl, _, _, rfl, rfl, ⟨by decide, by decide⟩, _, rfl, ((deep_31 / 2)), ((1 + ((deep_16 / 4) % (List.getD ([5, 5, 5, 4]) (Int.toNat (((((List.map (fun i : Nat => decide ((((deep_16 / 64) / (1 * 2 ^ ((i : Int)).toNat)) % 2) = 1)) (List.range (Int.toNat ((1 + (deep_16 % 4))))))).length : Int) - 1))) 0)))), rfl, ?_, fun H_34 p_39 order_35 hp_37 hp_38 sm_36 np_40 ep_41 => ?_⟩
      · omega
      have fr : Fr Hm _ ([(p_39, (.lst (List.map V.int order_35) : HO)), (D_19, (.lst (List.map V.bl ((List.map (fun i : Nat => decide ((((deep_16 / 64) / (1 * 2 ^ ((i : Int)).toNat)) % 2) = 1)) (List.range (Int.toNat ((1 + (deep_16 % 4)))))))) : HO))] ++ List.flatten [ctOwn T.P_lam q_lam k_1]) := fr.cnew sm_36 np_40 ep_41
      have hio := hp_37
      have hil := hp_38
      refine ⟨fun σ H1 => ∃ (a_law_order_42 : Addr) (order_43 : List Int), σ = [some (V.ref a_script), some (V.int ((0 + (i_9 : Int) * 2))), some (V.int deep_16), some (V.ref D_19), some (V.int ((1 + ((deep_16 / 4) % (List.getD ([5, 5, 5, 4]) (Int.toNat (((((List.map (fun i : Nat => decide ((((deep_16 / 64) / (1 * 2 ^ ((i : Int)).toNat)) % 2) = 1)) (List.range (Int.toNat ((1 + (deep_16 % 4))))))).length : Int) - 1))) 0))))), some (V.int deep_31), some (V.ref a_law_order_42), y_8, none, none, none] ∧ Fr Hm H1 ([(a_law_order_42, (.lst (List.map V.int order_43) : HO)), (D_19, (.lst (List.map V.bl ((List.map (fun i : Nat => decide ((((deep_16 / 64) / (1 * 2 ^ ((i : Int)).toNat)) % 2) = 1)) (List.range (Int.toNat ((1 + (deep_16 % 4)))))))) : HO))] ++ List.flatten [ctOwn T.P_lam q_lam k_1]) ∧ (IsOrd order_43) ∧ ((order_43.length : Int) = ((1 + ((deep_16 / 4) % (List.getD ([5, 5, 5, 4]) (Int.toNat (((((List.map (fun i : Nat => decide ((((deep_16 / 64) / (1 * 2 ^ ((i : Int)).toNat)) % 2) = 1)) (List.range (Int.toNat ((1 + (deep_16 % 4))))))).length : Int) - 1))) 0))))), ?_, ?_⟩
      · refine ⟨_, rfl, _, _, rfl, rfl, (show (0 : Int) < _ by decide), _, _, rfl, rfl, ?_, ?_⟩
        · intro h44
          refine ⟨_, rfl, ?_⟩
          refine iteT ?_
          refine ⟨_, rfl, _, rfl, ?_, ?_, ?_⟩
          · walk_at "side"
          · walk_at "side"
          intro D_45 nD_46
          refine lc_it (walkR (n := (Int.toNat ((1 + ((deep_16 / 4) % (List.getD ([5, 5, 5, 4]) (Int.toNat (((((List.map (fun i : Nat => decide ((((deep_16 / 64) / (1 * 2 ^ ((i : Int)).toNat)) % 2) = 1)) (List.range (Int.toNat ((1 + (deep_16 % 4))))))).length : Int) - 1))) 0))))))) (fun (i : Nat) H1 => Fr Hm H1 ([(D_45, (.lst (List.map V.int ((List.map (fun i : Nat => (i : Int)) (List.range i)))) : HO)), (p_39, (.lst (List.map V.int order_35) : HO)), (D_19, (.lst (List.map V.bl ((List.map (fun i : Nat => decide ((((deep_16 / 64) / (1 * 2 ^ ((i : Int)).toNat)) % 2) = 1)) (List.range (Int.toNat ((1 + (deep_16 % 4)))))))) : HO))] ++ List.flatten [ctOwn T.P_lam q_lam k_1])) (fr.new nD_46) (fun i H1 hi fr => trivial) ?_ ?_
          · rintro i_48 x_52 H_50 H_51 hi_49 fr ⟨rfl, rfl⟩
            refine ⟨rfl, ?_⟩
            refine ⟨_, rfl, _, (Fr.atk fr 0 rfl), ?_, ?_⟩
            · walk_at "csize"
            exact (Fr.wr fr).cast (lc_r _ _)
          intro H_53 fr
          have fr : Fr Hm _ ([(D_45, (.lst (List.map V.int ((List.map (fun i : Nat => (i : Int)) (List.range (Int.toNat ((1 + ((deep_16 / 4) % (List.getD ([5, 5, 5, 4]) (Int.toNat (((((List.map (fun i : Nat => decide ((((deep_16 / 64) / (1 * 2 ^ ((i : Int)).toNat)) % 2) = 1)) (List.range (Int.toNat ((1 + (deep_16 % 4))))))).length : Int) - 1))) 0))))))))) : HO)), (p_39, (.lst (List.map V.int order_35) : HO)), (D_19, (.lst (List.map V.bl ((List.map (fun i : Nat => decide ((((deep_16 / 64) / (1 * 2 ^ ((i : Int)).toNat)) % 2) = 1)) (List.range (Int.toNat ((1 + (deep_16 % 4)))))))) : HO))] ++ List.flatten [ctOwn T.P_lam q_lam k_1]) := fr
          refine ⟨_, rfl, _, rfl, _, _, rfl, rfl, ⟨by decide, by decide⟩, _, rfl, _, _, _, rfl, (SqL.of fr.at2), (List.length_map _), _, rfl, ((deep_31 / 2)), ((((List.map (fun i : Nat => decide ((((deep_16 / 64) / (1 * 2 ^ ((i : Int)).toNat)) % 2) = 1)) (List.range (Int.toNat ((1 + (deep_16 % 4))))))).length : Int)), ((1 + ((deep_16 / 4) % (List.getD ([5, 5, 5, 4]) (Int.toNat (((((List.map (fun i : Nat => decide ((((deep_16 / 64) / (1 * 2 ^ ((i : Int)).toNat)) % 2) = 1)) (List.range (Int.toNat ((1 + (deep_16 % 4))))))).length : Int) - 1))) 0)))), rfl, ?_, ?_, fun H_54 p_59 word_55 hp_57 hp_58 sm_56 np_60 ep_61 => ?_⟩
          · omega
          · omega
          have fr : Fr Hm _ ([(p_59, (.lst (List.map V.int word_55) : HO)), (D_45, (.lst (List.map V.int ((List.map (fun i : Nat => (i : Int)) (List.range (Int.toNat ((1 + ((deep_16 / 4) % (List.getD ([5, 5, 5, 4]) (Int.toNat (((((List.map (fun i : Nat => decide ((((deep_16 / 64) / (1 * 2 ^ ((i : Int)).toNat)) % 2) = 1)) (List.range (Int.toNat ((1 + (deep_16 % 4))))))).length : Int) - 1))) 0))))))))) : HO)), (p_39, (.lst (List.map V.int order_35) : HO)), (D_19, (.lst (List.map V.bl ((List.map (fun i : Nat => decide ((((deep_16 / 64) / (1 * 2 ^ ((i : Int)).toNat)) % 2) = 1)) (List.range (Int.toNat ((1 + (deep_16 % 4)))))))) : HO))] ++ List.flatten [ctOwn T.P_lam q_lam k_1]) := fr.cnew sm_56 np_60 ep_61
          have hwl := hp_57
          have hww := hp_58
          rw [Int.toNat_natCast] at hww
          refine ⟨D_45, ((List.map (fun i : Nat => (i : Int)) (List.range (Int.toNat ((1 + ((deep_16 / 4) % (List.getD ([5, 5, 5, 4]) (Int.toNat (((((List.map (fun i : Nat => decide ((((deep_16 / 64) / (1 * 2 ^ ((i : Int)).toNat)) % 2) = 1)) (List.range (Int.toNat ((1 + (deep_16 % 4))))))).length : Int) - 1))) 0)))))))), D_19, ((List.map (fun i : Nat => decide ((((deep_16 / 64) / (1 * 2 ^ ((i : Int)).toNat)) % 2) = 1)) (List.range (Int.toNat ((1 + (deep_16 % 4))))))), p_59, word_55, rfl, fr.at1, fr.at3, fr.at0, ?_, ?_, fun H_62 p_66 riffled_63 hp_65 sm_64 np_67 ep_68 => ?_⟩
          · exact hww
          · rw [List.length_map, List.length_range]; omega
          have fr : Fr Hm _ ([(p_66, (.lst (List.map V.int riffled_63) : HO)), (p_59, (.lst (List.map V.int word_55) : HO)), (D_45, (.lst (List.map V.int ((List.map (fun i : Nat => (i : Int)) (List.range (Int.toNat ((1 + ((deep_16 / 4) % (List.getD ([5, 5, 5, 4]) (Int.toNat (((((List.map (fun i : Nat => decide ((((deep_16 / 64) / (1 * 2 ^ ((i : Int)).toNat)) % 2) = 1)) (List.range (Int.toNat ((1 + (deep_16 % 4))))))).length : Int) - 1))) 0))))))))) : HO)), (p_39, (.lst (List.map V.int order_35) : HO)), (D_19, (.lst (List.map V.bl ((List.map (fun i : Nat => decide ((((deep_16 / 64) / (1 * 2 ^ ((i : Int)).toNat)) % 2) = 1)) (List.range (Int.toNat ((1 + (deep_16 % 4)))))))) : HO))] ++ List.flatten [ctOwn T.P_lam q_lam k_1]) := fr.cnew sm_64 np_67 ep_68
          subst hp_65
          have fr : Fr Hm _ ([(p_66, (.lst (List.map V.int (((riffleI ((List.map (fun i : Nat => (i : Int)) (List.range (Int.toNat ((1 + ((deep_16 / 4) % (List.getD ([5, 5, 5, 4]) (Int.toNat (((((List.map (fun i : Nat => decide ((((deep_16 / 64) / (1 * 2 ^ ((i : Int)).toNat)) % 2) = 1)) (List.range (Int.toNat ((1 + (deep_16 % 4))))))).length : Int) - 1))) 0)))))))) ((List.map (fun i : Nat => decide ((((deep_16 / 64) / (1 * 2 ^ ((i : Int)).toNat)) % 2) = 1)) (List.range (Int.toNat ((1 + (deep_16 % 4))))))) word_55)))) : HO)), (D_45, (.lst (List.map V.int ((List.map (fun i : Nat => (i : Int)) (List.range (Int.toNat ((1 + ((deep_16 / 4) % (List.getD ([5, 5, 5, 4]) (Int.toNat (((((List.map (fun i : Nat => decide ((((deep_16 / 64) / (1 * 2 ^ ((i : Int)).toNat)) % 2) = 1)) (List.range (Int.toNat ((1 + (deep_16 % 4))))))).length : Int) - 1))) 0))))))))) : HO)), (p_39, (.lst (List.map V.int order_35) : HO)), (D_19, (.lst (List.map V.bl ((List.map (fun i : Nat => decide ((((deep_16 / 64) / (1 * 2 ^ ((i : Int)).toNat)) % 2) = 1)) (List.range (Int.toNat ((1 + (deep_16 % 4)))))))) : HO))] ++ List.flatten [ctOwn T.P_lam q_lam k_1]) := Fr.dk fr 1
          have fr : Fr Hm _ ([(p_66, (.lst (List.map V.int (((riffleI ((List.map (fun i : Nat => (i : Int)) (List.range (Int.toNat ((1 + ((deep_16 / 4) % (List.getD ([5, 5, 5, 4]) (Int.toNat (((((List.map (fun i : Nat => decide ((((deep_16 / 64) / (1 * 2 ^ ((i : Int)).toNat)) % 2) = 1)) (List.range (Int.toNat ((1 + (deep_16 % 4))))))).length : Int) - 1))) 0)))))))) ((List.map (fun i : Nat => decide ((((deep_16 / 64) / (1 * 2 ^ ((i : Int)).toNat)) % 2) = 1)) (List.range (Int.toNat ((1 + (deep_16 % 4))))))) word_55)))) : HO)), (p_39, (.lst (List.map V.int order_35) : HO)), (D_19, (.lst (List.map V.bl ((List.map (fun i : Nat => decide ((((deep_16 / 64) / (1 * 2 ^ ((i : Int)).toNat)) % 2) = 1)) (List.range (Int.toNat ((1 + (deep_16 % 4)))))))) : HO))] ++ List.flatten [ctOwn T.P_lam q_lam k_1]) := Fr.dk fr 1
          have fr : Fr Hm _ ([(p_66, (.lst (List.map V.int (((riffleI ((List.map (fun i : Nat => (i : Int)) (List.range (Int.toNat ((1 + ((deep_16 / 4) % (List.getD ([5, 5, 5, 4]) (Int.toNat (((((List.map (fun i : Nat => decide ((((deep_16 / 64) / (1 * 2 ^ ((i : Int)).toNat)) % 2) = 1)) (List.range (Int.toNat ((1 + (deep_16 % 4))))))).length : Int) - 1))) 0)))))))) ((List.map (fun i : Nat => decide ((((deep_16 / 64) / (1 * 2 ^ ((i : Int)).toNat)) % 2) = 1)) (List.range (Int.toNat ((1 + (deep_16 % 4))))))) word_55)))) : HO)), (D_19, (.lst (List.map V.bl ((List.map (fun i : Nat => decide ((((deep_16 / 64) / (1 * 2 ^ ((i : Int)).toNat)) % 2) = 1)) (List.range (Int.toNat ((1 + (deep_16 % 4)))))))) : HO))] ++ List.flatten [ctOwn T.P_lam q_lam k_1]) := Fr.dk fr 1
          refine ⟨p_66, ((riffleI ((List.map (fun i : Nat => (i : Int)) (List.range (Int.toNat ((1 + ((deep_16 / 4) % (List.getD ([5, 5, 5, 4]) (Int.toNat (((((List.map (fun i : Nat => decide ((((deep_16 / 64) / (1 * 2 ^ ((i : Int)).toNat)) % 2) = 1)) (List.range (Int.toNat ((1 + (deep_16 % 4))))))).length : Int) - 1))) 0)))))))) ((List.map (fun i : Nat => decide ((((deep_16 / 64) / (1 * 2 ^ ((i : Int)).toNat)) % 2) = 1)) (List.range (Int.toNat ((1 + (deep_16 % 4))))))) word_55)), rfl, fr, ?_, ?_⟩
          · first | exact hio | exact isOrd_up hww (by omega)
          · first | exact hil | (rw [riffleI_length]; exact hwl)
        · intro h44
          refine ⟨_, rfl, ?_⟩
          refine iteF ?_
          refine ⟨p_39, order_35, rfl, fr, ?_, ?_⟩
          · first | exact hio | exact isOrd_up hww (by omega)
          · first | exact hil | (rw [riffleI_length]; exact hwl)
      rintro s_70 H_69 ⟨a_law_order_42, order_43, rfl, fr, hio2, hil2⟩
      refine ⟨_, rfl, _, rfl, ?_⟩
      have frF_71 := Fr.split (bpre := []) (pre := [(a_law_order_42, (.lst (List.map V.int order_43) : HO)), (D_19, (.lst (List.map V.bl ((List.map (fun i : Nat => decide ((((deep_16 / 64) / (1 * 2 ^ ((i : Int)).toNat)) % 2) = 1)) (List.range (Int.toNat ((1 + (deep_16 % 4)))))))) : HO))]) (bts := [ctOwn T.P_lam q_lam k_1]) (ts := []) fr
      have fr : Fr Hm _ [(a_law_order_42, (.lst (List.map V.int order_43) : HO)), (D_19, (.lst (List.map V.bl ((List.map (fun i : Nat => decide ((((deep_16 / 64) / (1 * 2 ^ ((i : Int)).toNat)) % 2) = 1)) (List.range (Int.toNat ((1 + (deep_16 % 4)))))))) : HO))] := Fr.mn frF_71
      refine ⟨a_law_order_42, order_43, D_19, ((List.map (fun i : Nat => decide ((((deep_16 / 64) / (1 * 2 ^ ((i : Int)).toNat)) % 2) = 1)) (List.range (Int.toNat ((1 + (deep_16 % 4))))))), k_1, _, rfl, (Fr.lent frF_71), fr.at0, fr.at1, ?_, ?_, fun H_72 k_74 p_75 r_76 due_77 hp_79 hc_78 ff_73 => ?_⟩
      · exact hio2
      · omega
      have fr : Fr Hm _ ([(p_75, (.lst (List.map rref r_76) : HO)), (a_law_order_42, (.lst (List.map V.int order_43) : HO)), (D_19, (.lst (List.map V.bl ((List.map (fun i : Nat => decide ((((deep_16 / 64) / (1 * 2 ^ ((i : Int)).toNat)) % 2) = 1)) (List.range (Int.toNat ((1 + (deep_16 % 4)))))))) : HO))] ++ List.flatten [ctOwn T.P_lam q_lam k_74, rosOwn gI r_76]) := Fr.back2 (bpre := []) (pre := [(a_law_order_42, (.lst (List.map V.int order_43) : HO)), (D_19, (.lst (List.map V.bl ((List.map (fun i : Nat => decide ((((deep_16 / 64) / (1 * 2 ^ ((i : Int)).toNat)) % 2) = 1)) (List.range (Int.toNat ((1 + (deep_16 % 4)))))))) : HO))]) (bts := [ctOwn T.P_lam q_lam k_1]) (ts := []) (bpre' := [(p_75, (.lst (List.map rref r_76) : HO))]) (bts' := [ctOwn T.P_lam q_lam k_74, rosOwn gI r_76]) frF_71 ff_73
      subst hp_79
      have hwl2 := waysL_length (o := order_43) (ms := ((List.map (fun i : Nat => decide ((((deep_16 / 64) / (1 * 2 ^ ((i : Int)).toNat)) % 2) = 1)) (List.range (Int.toNat ((1 + (deep_16 % 4))))))))
      have hwle2 := how_le (o := order_43) (ms := ((List.map (fun i : Nat => decide ((((deep_16 / 64) / (1 * 2 ^ ((i : Int)).toNat)) % 2) = 1)) (List.range (Int.toNat ((1 + (deep_16 % 4)))))))) hio2 (by omega) (by omega)
      refine ⟨_, rfl, _, rfl, a_law_order_42, order_43, D_19, ((List.map (fun i : Nat => decide ((((deep_16 / 64) / (1 * 2 ^ ((i : Int)).toNat)) % 2) = 1)) (List.range (Int.toNat ((1 + (deep_16 % 4))))))), rfl, fr.at1, fr.at2, ?_, ?_, fun H_80 how_many_81 hp_83 sm_82 => ?_⟩
      · exact hio2
      · omega
      have fr : Fr Hm _ ([(p_75, (.lst (List.map rref r_76) : HO)), (a_law_order_42, (.lst (List.map V.int order_43) : HO)), (D_19, (.lst (List.map V.bl ((List.map (fun i : Nat => decide ((((deep_16 / 64) / (1 * 2 ^ ((i : Int)).toNat)) % 2) = 1)) (List.range (Int.toNat ((1 + (deep_16 % 4)))))))) : HO))] ++ List.flatten [ctOwn T.P_lam q_lam k_74, rosOwn gI r_76]) := fr.call sm_82
      subst hp_83
      refine ⟨_, rfl, _, _, _, rfl, (SqL.of fr.at0), (len_rows hc_78), _, _, rfl, rfl, ?_, ?_⟩
      · intro h84
        exfalso
        omega
      · intro h84
        refine ⟨_, rfl, ?_⟩
        refine iteF ?_
        refine ⟨_, rfl, _, _, _, rfl, (SqL.of fr.at0), (len_rows hc_78), _, rfl, ?_, ?_, ?_⟩
        · walk_at "side"
        · walk_at "side"
        intro D_85 nD_86
        refine lc_it (walkR (n := (((waysL order_43 ((List.map (fun i : Nat => decide ((((deep_16 / 64) / (1 * 2 ^ ((i : Int)).toNat)) % 2) = 1)) (List.range (Int.toNat ((1 + (deep_16 % 4)))))))))).length)) (fun (i : Nat) H1 => ∃ rw_ : List (RO (List Int)), Fr Hm H1 ([(D_85, (.lst (List.map rref rw_) : HO)), (p_75, (.lst (List.map rref r_76) : HO)), (a_law_order_42, (.lst (List.map V.int order_43) : HO)), (D_19, (.lst (List.map V.bl ((List.map (fun i : Nat => decide ((((deep_16 / 64) / (1 * 2 ^ ((i : Int)).toNat)) % 2) = 1)) (List.range (Int.toNat ((1 + (deep_16 % 4)))))))) : HO))] ++ List.flatten [rosOwn gI rw_, ctOwn T.P_lam q_lam k_74, rosOwn gI r_76]) ∧ rw_.map (·.2) = (List.map (fun i : Nat => (((wayI order_43 ((List.map (fun i : Nat => decide ((((deep_16 / 64) / (1 * 2 ^ ((i : Int)).toNat)) % 2) = 1)) (List.range (Int.toNat ((1 + (deep_16 % 4))))))) ((i : Int)))) : List Int)) (List.range i))) ⟨[], fr.new nD_86, rfl⟩ (fun i H1 hi ⟨rw_, fr, hrw_⟩ => trivial) ?_ ?_
        · rintro i_95 x_101 H_99 H_100 hi_96 ⟨rw_97, fr, hrw_98⟩ ⟨rfl, rfl⟩
          refine ⟨rfl, ?_⟩
          have hnb : (i_95 : Int) < howI order_43 ((List.map (fun i : Nat => decide ((((deep_16 / 64) / (1 * 2 ^ ((i : Int)).toNat)) % 2) = 1)) (List.range (Int.toNat ((1 + (deep_16 % 4))))))) := by omega
          refine ⟨_, rfl, _, rfl, _, rfl, a_law_order_42, order_43, D_19, ((List.map (fun i : Nat => decide ((((deep_16 / 64) / (1 * 2 ^ ((i : Int)).toNat)) % 2) = 1)) (List.range (Int.toNat ((1 + (deep_16 % 4))))))), ((i_95 : Int)), rfl, fr.at2, fr.at3, ?_, ?_, ?_, fun H_102 p_106 way_103 hp_105 sm_104 np_107 ep_108 => ?_⟩
          · exact hio2
          · omega
          · omega
          have fr : Fr Hm _ ([(p_106, (.lst (List.map V.int way_103) : HO)), (D_85, (.lst (List.map rref rw_97) : HO)), (p_75, (.lst (List.map rref r_76) : HO)), (a_law_order_42, (.lst (List.map V.int order_43) : HO)), (D_19, (.lst (List.map V.bl ((List.map (fun i : Nat => decide ((((deep_16 / 64) / (1 * 2 ^ ((i : Int)).toNat)) % 2) = 1)) (List.range (Int.toNat ((1 + (deep_16 % 4)))))))) : HO))] ++ List.flatten [rosOwn gI rw_97, ctOwn T.P_lam q_lam k_74, rosOwn gI r_76]) := fr.cnew sm_104 np_107 ep_108
          subst hp_105
          refine ⟨_, (Fr.atk fr 1 rfl), ?_, ?_⟩
          · rw [len_rows hrw_98]; refine Evl.sz_lt ?_; simp only [List.length_map, List.length_take, List.length_range]; omega
          have fr : Fr Hm _ ([(p_106, (.lst (List.map V.int (((wayI order_43 ((List.map (fun i : Nat => decide ((((deep_16 / 64) / (1 * 2 ^ ((i : Int)).toNat)) % 2) = 1)) (List.range (Int.toNat ((1 + (deep_16 % 4))))))) ((i_95 : Int)))))) : HO)), (D_85, (.lst (List.map rref ((rw_97 ++ [(p_106, ((wayI order_43 ((List.map (fun i : Nat => decide ((((deep_16 / 64) / (1 * 2 ^ ((i : Int)).toNat)) % 2) = 1)) (List.range (Int.toNat ((1 + (deep_16 % 4))))))) ((i_95 : Int)))))]))) : HO)), (p_75, (.lst (List.map rref r_76) : HO)), (a_law_order_42, (.lst (List.map V.int order_43) : HO)), (D_19, (.lst (List.map V.bl ((List.map (fun i : Nat => decide ((((deep_16 / 64) / (1 * 2 ^ ((i : Int)).toNat)) % 2) = 1)) (List.range (Int.toNat ((1 + (deep_16 % 4)))))))) : HO))] ++ List.flatten [rosOwn gI rw_97, ctOwn T.P_lam q_lam k_74, rosOwn gI r_76]) := Fr.wrk fr 1 rfl (lst_rref_app (rows := rw_97) (x := ((wayI order_43 ((List.map (fun i : Nat => decide ((((deep_16 / 64) / (1 * 2 ^ ((i : Int)).toNat)) % 2) = 1)) (List.range (Int.toNat ((1 + (deep_16 % 4))))))) ((i_95 : Int))))))
          have fr : Fr Hm _ ([(p_106, (.lst (List.map V.int (((wayI order_43 ((List.map (fun i : Nat => decide ((((deep_16 / 64) / (1 * 2 ^ ((i : Int)).toNat)) % 2) = 1)) (List.range (Int.toNat ((1 + (deep_16 % 4))))))) ((i_95 : Int)))))) : HO)), (D_85, (.lst (List.map rref ((rw_97 ++ [(p_106, ((wayI order_43 ((List.map (fun i : Nat => decide ((((deep_16 / 64) / (1 * 2 ^ ((i : Int)).toNat)) % 2) = 1)) (List.range (Int.toNat ((1 + (deep_16 % 4))))))) ((i_95 : Int)))))]))) : HO)), (p_75, (.lst (List.map rref r_76) : HO)), (a_law_order_42, (.lst (List.map V.int order_43) : HO)), (D_19, (.lst (List.map V.bl ((List.map (fun i : Nat => decide ((((deep_16 / 64) / (1 * 2 ^ ((i : Int)).toNat)) % 2) = 1)) (List.range (Int.toNat ((1 + (deep_16 % 4)))))))) : HO))] ++ List.flatten [rosOwn gI r_76, rosOwn gI rw_97, ctOwn T.P_lam q_lam k_74]) := Fr.tup (pre := [(p_106, (.lst (List.map V.int (((wayI order_43 ((List.map (fun i : Nat => decide ((((deep_16 / 64) / (1 * 2 ^ ((i : Int)).toNat)) % 2) = 1)) (List.range (Int.toNat ((1 + (deep_16 % 4))))))) ((i_95 : Int)))))) : HO)), (D_85, (.lst (List.map rref ((rw_97 ++ [(p_106, ((wayI order_43 ((List.map (fun i : Nat => decide ((((deep_16 / 64) / (1 * 2 ^ ((i : Int)).toNat)) % 2) = 1)) (List.range (Int.toNat ((1 + (deep_16 % 4))))))) ((i_95 : Int)))))]))) : HO)), (p_75, (.lst (List.map rref r_76) : HO)), (a_law_order_42, (.lst (List.map V.int order_43) : HO)), (D_19, (.lst (List.map V.bl ((List.map (fun i : Nat => decide ((((deep_16 / 64) / (1 * 2 ^ ((i : Int)).toNat)) % 2) = 1)) (List.range (Int.toNat ((1 + (deep_16 % 4)))))))) : HO))]) (ts := [rosOwn gI rw_97, ctOwn T.P_lam q_lam k_74, rosOwn gI r_76]) fr 2 rfl
          have fr : Fr Hm _ ([(p_106, (.lst (List.map V.int (((wayI order_43 ((List.map (fun i : Nat => decide ((((deep_16 / 64) / (1 * 2 ^ ((i : Int)).toNat)) % 2) = 1)) (List.range (Int.toNat ((1 + (deep_16 % 4))))))) ((i_95 : Int)))))) : HO)), (D_85, (.lst (List.map rref ((rw_97 ++ [(p_106, ((wayI order_43 ((List.map (fun i : Nat => decide ((((deep_16 / 64) / (1 * 2 ^ ((i : Int)).toNat)) % 2) = 1)) (List.range (Int.toNat ((1 + (deep_16 % 4))))))) ((i_95 : Int)))))]))) : HO)), (p_75, (.lst (List.map rref r_76) : HO)), (a_law_order_42, (.lst (List.map V.int order_43) : HO)), (D_19, (.lst (List.map V.bl ((List.map (fun i : Nat => decide ((((deep_16 / 64) / (1 * 2 ^ ((i : Int)).toNat)) % 2) = 1)) (List.range (Int.toNat ((1 + (deep_16 % 4)))))))) : HO))] ++ List.flatten [ctOwn T.P_lam q_lam k_74, rosOwn gI r_76, rosOwn gI rw_97]) := Fr.tup (pre := [(p_106, (.lst (List.map V.int (((wayI order_43 ((List.map (fun i : Nat => decide ((((deep_16 / 64) / (1 * 2 ^ ((i : Int)).toNat)) % 2) = 1)) (List.range (Int.toNat ((1 + (deep_16 % 4))))))) ((i_95 : Int)))))) : HO)), (D_85, (.lst (List.map rref ((rw_97 ++ [(p_106, ((wayI order_43 ((List.map (fun i : Nat => decide ((((deep_16 / 64) / (1 * 2 ^ ((i : Int)).toNat)) % 2) = 1)) (List.range (Int.toNat ((1 + (deep_16 % 4))))))) ((i_95 : Int)))))]))) : HO)), (p_75, (.lst (List.map rref r_76) : HO)), (a_law_order_42, (.lst (List.map V.int order_43) : HO)), (D_19, (.lst (List.map V.bl ((List.map (fun i : Nat => decide ((((deep_16 / 64) / (1 * 2 ^ ((i : Int)).toNat)) % 2) = 1)) (List.range (Int.toNat ((1 + (deep_16 % 4)))))))) : HO))]) (ts := [rosOwn gI r_76, rosOwn gI rw_97, ctOwn T.P_lam q_lam k_74]) fr 2 rfl
          have fr : Fr Hm _ ([(p_106, (.lst (List.map V.int (((wayI order_43 ((List.map (fun i : Nat => decide ((((deep_16 / 64) / (1 * 2 ^ ((i : Int)).toNat)) % 2) = 1)) (List.range (Int.toNat ((1 + (deep_16 % 4))))))) ((i_95 : Int)))))) : HO)), (D_85, (.lst (List.map rref ((rw_97 ++ [(p_106, ((wayI order_43 ((List.map (fun i : Nat => decide ((((deep_16 / 64) / (1 * 2 ^ ((i : Int)).toNat)) % 2) = 1)) (List.range (Int.toNat ((1 + (deep_16 % 4))))))) ((i_95 : Int)))))]))) : HO)), (p_75, (.lst (List.map rref r_76) : HO)), (a_law_order_42, (.lst (List.map V.int order_43) : HO)), (D_19, (.lst (List.map V.bl ((List.map (fun i : Nat => decide ((((deep_16 / 64) / (1 * 2 ^ ((i : Int)).toNat)) % 2) = 1)) (List.range (Int.toNat ((1 + (deep_16 % 4)))))))) : HO))] ++ List.flatten [rosOwn gI rw_97, ctOwn T.P_lam q_lam k_74, rosOwn gI r_76]) := Fr.tup (pre := [(p_106, (.lst (List.map V.int (((wayI order_43 ((List.map (fun i : Nat => decide ((((deep_16 / 64) / (1 * 2 ^ ((i : Int)).toNat)) % 2) = 1)) (List.range (Int.toNat ((1 + (deep_16 % 4))))))) ((i_95 : Int)))))) : HO)), (D_85, (.lst (List.map rref ((rw_97 ++ [(p_106, ((wayI order_43 ((List.map (fun i : Nat => decide ((((deep_16 / 64) / (1 * 2 ^ ((i : Int)).toNat)) % 2) = 1)) (List.range (Int.toNat ((1 + (deep_16 % 4))))))) ((i_95 : Int)))))]))) : HO)), (p_75, (.lst (List.map rref r_76) : HO)), (a_law_order_42, (.lst (List.map V.int order_43) : HO)), (D_19, (.lst (List.map V.bl ((List.map (fun i : Nat => decide ((((deep_16 / 64) / (1 * 2 ^ ((i : Int)).toNat)) % 2) = 1)) (List.range (Int.toNat ((1 + (deep_16 % 4)))))))) : HO))]) (ts := [ctOwn T.P_lam q_lam k_74, rosOwn gI r_76, rosOwn gI rw_97]) fr 2 rfl
          exact ⟨(rw_97 ++ [(p_106, ((wayI order_43 ((List.map (fun i : Nat => decide ((((deep_16 / 64) / (1 * 2 ^ ((i : Int)).toNat)) % 2) = 1)) (List.range (Int.toNat ((1 + (deep_16 % 4))))))) ((i_95 : Int)))))]), Fr.radd (g := gI) (pre := [(D_85, (.lst (List.map rref ((rw_97 ++ [(p_106, ((wayI order_43 ((List.map (fun i : Nat => decide ((((deep_16 / 64) / (1 * 2 ^ ((i : Int)).toNat)) % 2) = 1)) (List.range (Int.toNat ((1 + (deep_16 % 4))))))) ((i_95 : Int)))))]))) : HO)), (p_75, (.lst (List.map rref r_76) : HO)), (a_law_order_42, (.lst (List.map V.int order_43) : HO)), (D_19, (.lst (List.map V.bl ((List.map (fun i : Nat => decide ((((deep_16 / 64) / (1 * 2 ^ ((i : Int)).toNat)) % 2) = 1)) (List.range (Int.toNat ((1 + (deep_16 % 4)))))))) : HO))]) (ts := [ctOwn T.P_lam q_lam k_74, rosOwn gI r_76]) (rows := rw_97) (x := ((wayI order_43 ((List.map (fun i : Nat => decide ((((deep_16 / 64) / (1 * 2 ^ ((i : Int)).toNat)) % 2) = 1)) (List.range (Int.toNat ((1 + (deep_16 % 4))))))) ((i_95 : Int))))) fr, (snd_app hrw_98).trans (mrn (by rfl))⟩
        rintro H_109 ⟨rw_110, fr, hrw_111⟩
        refine ⟨_, rfl, _, _, decide ((List.map (fun i : Nat => (((wayI order_43 ((List.map (fun i : Nat => decide ((((deep_16 / 64) / (1 * 2 ^ ((i : Int)).toNat)) % 2) = 1)) (List.range (Int.toNat ((1 + (deep_16 % 4))))))) ((i : Int)))) : List Int)) (List.range (((waysL order_43 ((List.map (fun i : Nat => decide ((((deep_16 / 64) / (1 * 2 ^ ((i : Int)).toNat)) % 2) = 1)) (List.range (Int.toNat ((1 + (deep_16 % 4)))))))))).length)) = ((waysL order_43 ((List.map (fun i : Nat => decide ((((deep_16 / 64) / (1 * 2 ^ ((i : Int)).toNat)) % 2) = 1)) (List.range (Int.toNat ((1 + (deep_16 % 4)))))))))), (dp_tabI (tab_lit (rows := rw_110) (fun z hz => Fr.rmem (pre := [(D_85, (.lst (List.map rref rw_110) : HO)), (p_75, (.lst (List.map rref r_76) : HO)), (a_law_order_42, (.lst (List.map V.int order_43) : HO)), (D_19, (.lst (List.map V.bl ((List.map (fun i : Nat => decide ((((deep_16 / 64) / (1 * 2 ^ ((i : Int)).toNat)) % 2) = 1)) (List.range (Int.toNat ((1 + (deep_16 % 4)))))))) : HO))]) (ts := [rosOwn gI rw_110, ctOwn T.P_lam q_lam k_74, rosOwn gI r_76]) fr 0 rfl hz) fr.at0 hrw_111)), (dp_tabI (tab_lit (rows := r_76) (fun z hz => Fr.rmem (pre := [(D_85, (.lst (List.map rref rw_110) : HO)), (p_75, (.lst (List.map rref r_76) : HO)), (a_law_order_42, (.lst (List.map V.int order_43) : HO)), (D_19, (.lst (List.map V.bl ((List.map (fun i : Nat => decide ((((deep_16 / 64) / (1 * 2 ^ ((i : Int)).toNat)) % 2) = 1)) (List.range (Int.toNat ((1 + (deep_16 % 4)))))))) : HO))]) (ts := [rosOwn gI rw_110, ctOwn T.P_lam q_lam k_74, rosOwn gI r_76]) fr 2 rfl hz) fr.at1 hc_78)), (Okd.sh (okd_tabI _)), (Okd.sh (okd_tabI _)), (eqv_tabI _ _), _, rfl, ?_, ?_⟩
        · intro h112
          replace h112 := not_of_nd h112
          exfalso
          exact h112 (waysL_list _ _)
        · intro h112
          replace h112 := of_nd h112
          refine ⟨_, rfl, ?_⟩
          refine iteF ?_
          have fr : Fr Hm _ ([(D_85, (.lst (List.map rref rw_110) : HO)), (p_75, (.lst (List.map rref r_76) : HO)), (a_law_order_42, (.lst (List.map V.int order_43) : HO)), (D_19, (.lst (List.map V.bl ((List.map (fun i : Nat => decide ((((deep_16 / 64) / (1 * 2 ^ ((i : Int)).toNat)) % 2) = 1)) (List.range (Int.toNat ((1 + (deep_16 % 4)))))))) : HO))] ++ List.flatten [ctOwn T.P_lam q_lam k_74, rosOwn gI r_76]) := Fr.tdrop (pre := [(D_85, (.lst (List.map rref rw_110) : HO)), (p_75, (.lst (List.map rref r_76) : HO)), (a_law_order_42, (.lst (List.map V.int order_43) : HO)), (D_19, (.lst (List.map V.bl ((List.map (fun i : Nat => decide ((((deep_16 / 64) / (1 * 2 ^ ((i : Int)).toNat)) % 2) = 1)) (List.range (Int.toNat ((1 + (deep_16 % 4)))))))) : HO))]) (ts := [rosOwn gI rw_110, ctOwn T.P_lam q_lam k_74, rosOwn gI r_76]) fr 0 rfl
          have fr : Fr Hm _ ([(p_75, (.lst (List.map rref r_76) : HO)), (a_law_order_42, (.lst (List.map V.int order_43) : HO)), (D_19, (.lst (List.map V.bl ((List.map (fun i : Nat => decide ((((deep_16 / 64) / (1 * 2 ^ ((i : Int)).toNat)) % 2) = 1)) (List.range (Int.toNat ((1 + (deep_16 % 4)))))))) : HO))] ++ List.flatten [ctOwn T.P_lam q_lam k_74, rosOwn gI r_76]) := Fr.dk fr 0
          have fr : Fr Hm _ ([(p_75, (.lst (List.map rref r_76) : HO)), (a_law_order_42, (.lst (List.map V.int order_43) : HO)), (D_19, (.lst (List.map V.bl ((List.map (fun i : Nat => decide ((((deep_16 / 64) / (1 * 2 ^ ((i : Int)).toNat)) % 2) = 1)) (List.range (Int.toNat ((1 + (deep_16 % 4)))))))) : HO))] ++ List.flatten [ctOwn T.P_lam q_lam k_74]) := Fr.tdrop (pre := [(p_75, (.lst (List.map rref r_76) : HO)), (a_law_order_42, (.lst (List.map V.int order_43) : HO)), (D_19, (.lst (List.map V.bl ((List.map (fun i : Nat => decide ((((deep_16 / 64) / (1 * 2 ^ ((i : Int)).toNat)) % 2) = 1)) (List.range (Int.toNat ((1 + (deep_16 % 4)))))))) : HO))]) (ts := [ctOwn T.P_lam q_lam k_74, rosOwn gI r_76]) fr 1 rfl
          have fr : Fr Hm _ ([(a_law_order_42, (.lst (List.map V.int order_43) : HO)), (D_19, (.lst (List.map V.bl ((List.map (fun i : Nat => decide ((((deep_16 / 64) / (1 * 2 ^ ((i : Int)).toNat)) % 2) = 1)) (List.range (Int.toNat ((1 + (deep_16 % 4)))))))) : HO))] ++ List.flatten [ctOwn T.P_lam q_lam k_74]) := Fr.dk fr 0
          have fr : Fr Hm _ ([(D_19, (.lst (List.map V.bl ((List.map (fun i : Nat => decide ((((deep_16 / 64) / (1 * 2 ^ ((i : Int)).toNat)) % 2) = 1)) (List.range (Int.toNat ((1 + (deep_16 % 4)))))))) : HO))] ++ List.flatten [ctOwn T.P_lam q_lam k_74]) := Fr.dk fr 0
          have fr : Fr Hm _ ([] ++ List.flatten [ctOwn T.P_lam q_lam k_74]) := Fr.dk fr 0
          refine ⟨k_74, _, _, _, _, _, _, _, rfl, fr⟩
    rintro s_114 H_113 ⟨k_1, y_2, y_3, y_4, y_5, y_6, y_7, y_8, rfl, fr⟩
    exact q _ k_1 true (by rfl)  fr
end
theorem all_mk {l : PySem.W.OpenLaw} {w : World} {K : PySem.W.Frag} {h : Heap} {mg : Str → Option Value} {fa : Addr} {flaw_deep : Addr} {odlaw_deep anlaw_deep : Option Addr} {sllaw_deep : Array (Option Value)} {oclaw_deep kVlaw_deep dclaw_deep pmlaw_deep cdlaw_deep ctlaw_deep : Value} {flaw_order : Addr} {odlaw_order anlaw_order : Option Addr} {sllaw_order : Array (Option Value)} {oclaw_order kVlaw_order dclaw_order pmlaw_order cdlaw_order ctlaw_order : Value} {flaw_words : Addr} {odlaw_words anlaw_words : Option Addr} {sllaw_words : Array (Option Value)} {oclaw_words kVlaw_words dclaw_words pmlaw_words cdlaw_words ctlaw_words : Value} {flaw_riffled : Addr} {odlaw_riffled anlaw_riffled : Option Addr} {sllaw_riffled : Array (Option Value)} {oclaw_riffled kVlaw_riffled dclaw_riffled pmlaw_riffled cdlaw_riffled ctlaw_riffled : Value} {flaw_heaps : Addr} {odlaw_heaps anlaw_heaps : Option Addr} {sllaw_heaps : Array (Option Value)} {oclaw_heaps kVlaw_heaps dclaw_heaps pmlaw_heaps cdlaw_heaps ctlaw_heaps : Value} {flaw_due : Addr} {odlaw_due anlaw_due : Option Addr} {sllaw_due : Array (Option Value)} {oclaw_due kVlaw_due dclaw_due pmlaw_due cdlaw_due ctlaw_due : Value} {fplaces : Addr} {odplaces anplaces : Option Addr} {slplaces : Array (Option Value)} {ocplaces kVplaces dcplaces pmplaces cdplaces ctplaces : Value} {fmay_share : Addr} {odmay_share anmay_share : Option Addr} {slmay_share : Array (Option Value)} {ocmay_share kVmay_share dcmay_share pmmay_share cdmay_share ctmay_share : Value} {fgoings_on : Addr} {odgoings_on angoings_on : Option Addr} {slgoings_on : Array (Option Value)} {ocgoings_on kVgoings_on dcgoings_on pmgoings_on cdgoings_on ctgoings_on : Value} {fhow_many : Addr} {odhow_many anhow_many : Option Addr} {slhow_many : Array (Option Value)} {ochow_many kVhow_many dchow_many pmhow_many cdhow_many cthow_many : Value} {flaw_word : Addr} {odlaw_word anlaw_word : Option Addr} {sllaw_word : Array (Option Value)} {oclaw_word kVlaw_word dclaw_word pmlaw_word cdlaw_word ctlaw_word : Value} {fsteps_on : Addr} {odsteps_on ansteps_on : Option Addr} {slsteps_on : Array (Option Value)} {ocsteps_on kVsteps_on dcsteps_on pmsteps_on cdsteps_on ctsteps_on : Value} {fway : Addr} {odway anway : Option Addr} {slway : Array (Option Value)} {ocway kVway dcway pmway cdway ctway : Value} {flaw : Addr} {odlaw anlaw : Option Addr} {sllaw : Array (Option Value)} {oclaw kVlaw dclaw pmlaw cdlaw ctlaw : Value} {cL PL : Addr} {eC : Value} {eD : Option Addr} {eV : Array Value} {eS : Array (Option Value)} (X : K.In h) (G : h.Ns mainGlobals mg) (hfa : mg "law" = some (.ref fa)) (yT : ∀ c P, PySem.W.tabIn K "_law_due" = some (c, P) → PySem.W.CodeHd h c P ∧ h.get? P = some { cls := .none, data := .fields #[] })
    (alaw_deep : PySem.W.nsIn K mainGlobals "_law_deep" = some (some (.ref flaw_deep))) (llaw_deep : K.lookup flaw_deep = some ⟨oclaw_deep, odlaw_deep, .func (PySem.W.fnOf "_law_deep" "_law_deep" (defArgs s_law_deep) (defBody s_law_deep) (defScope s_law_deep) .none kVlaw_deep dclaw_deep pmlaw_deep anlaw_deep cdlaw_deep ctlaw_deep), sllaw_deep⟩) (claw_deep : PySem.W.codeIn K cdlaw_deep "_law_deep" = true) (klaw_deep : PySem.W.keepIn K (.ref flaw_deep) = true)
    (alaw_order : PySem.W.nsIn K mainGlobals "_law_order" = some (some (.ref flaw_order))) (llaw_order : K.lookup flaw_order = some ⟨oclaw_order, odlaw_order, .func (PySem.W.fnOf "_law_order" "_law_order" (defArgs s_law_order) (defBody s_law_order) (defScope s_law_order) .none kVlaw_order dclaw_order pmlaw_order anlaw_order cdlaw_order ctlaw_order), sllaw_order⟩) (claw_order : PySem.W.codeIn K cdlaw_order "_law_order" = true) (klaw_order : PySem.W.keepIn K (.ref flaw_order) = true)
    (alaw_words : PySem.W.nsIn K mainGlobals "_law_words" = some (some (.ref flaw_words))) (llaw_words : K.lookup flaw_words = some ⟨oclaw_words, odlaw_words, .func (PySem.W.fnOf "_law_words" "_law_words" (defArgs s_law_words) (defBody s_law_words) (defScope s_law_words) .none kVlaw_words dclaw_words pmlaw_words anlaw_words cdlaw_words ctlaw_words), sllaw_words⟩) (claw_words : PySem.W.codeIn K cdlaw_words "_law_words" = true) (klaw_words : PySem.W.keepIn K (.ref flaw_words) = true)
    (alaw_riffled : PySem.W.nsIn K mainGlobals "_law_riffled" = some (some (.ref flaw_riffled))) (llaw_riffled : K.lookup flaw_riffled = some ⟨oclaw_riffled, odlaw_riffled, .func (PySem.W.fnOf "_law_riffled" "_law_riffled" (defArgs s_law_riffled) (defBody s_law_riffled) (defScope s_law_riffled) .none kVlaw_riffled dclaw_riffled pmlaw_riffled anlaw_riffled cdlaw_riffled ctlaw_riffled), sllaw_riffled⟩) (claw_riffled : PySem.W.codeIn K cdlaw_riffled "_law_riffled" = true) (klaw_riffled : PySem.W.keepIn K (.ref flaw_riffled) = true)
    (alaw_heaps : PySem.W.nsIn K mainGlobals "_law_heaps" = some (some (.ref flaw_heaps))) (llaw_heaps : K.lookup flaw_heaps = some ⟨oclaw_heaps, odlaw_heaps, .func (PySem.W.fnOf "_law_heaps" "_law_heaps" (defArgs s_law_heaps) (defBody s_law_heaps) (defScope s_law_heaps) .none kVlaw_heaps dclaw_heaps pmlaw_heaps anlaw_heaps cdlaw_heaps ctlaw_heaps), sllaw_heaps⟩) (claw_heaps : PySem.W.codeIn K cdlaw_heaps "_law_heaps" = true) (klaw_heaps : PySem.W.keepIn K (.ref flaw_heaps) = true)
    (alaw_due : PySem.W.nsIn K mainGlobals "_law_due" = some (some (.ref flaw_due))) (llaw_due : K.lookup flaw_due = some ⟨oclaw_due, odlaw_due, .func (PySem.W.fnOf "_law_due" "_law_due" (defArgs s_law_due) (defBody s_law_due) (defScope s_law_due) .none kVlaw_due dclaw_due pmlaw_due anlaw_due cdlaw_due ctlaw_due), sllaw_due⟩) (claw_due : PySem.W.codeIn K cdlaw_due "_law_due" = true) (klaw_due : PySem.W.keepIn K (.ref flaw_due) = true)
    (aplaces : PySem.W.nsIn K mainGlobals "places" = some (some (.ref fplaces))) (lplaces : K.lookup fplaces = some ⟨ocplaces, odplaces, .func (PySem.W.fnOf "places" "places" (defArgs s_places) (defBody s_places) (defScope s_places) .none kVplaces dcplaces pmplaces anplaces cdplaces ctplaces), slplaces⟩) (cplaces : PySem.W.codeIn K cdplaces "places" = true) (kplaces : PySem.W.keepIn K (.ref fplaces) = true)
    (amay_share : PySem.W.nsIn K mainGlobals "may_share" = some (some (.ref fmay_share))) (lmay_share : K.lookup fmay_share = some ⟨ocmay_share, odmay_share, .func (PySem.W.fnOf "may_share" "may_share" (defArgs s_may_share) (defBody s_may_share) (defScope s_may_share) .none kVmay_share dcmay_share pmmay_share anmay_share cdmay_share ctmay_share), slmay_share⟩) (cmay_share : PySem.W.codeIn K cdmay_share "may_share" = true) (kmay_share : PySem.W.keepIn K (.ref fmay_share) = true)
    (agoings_on : PySem.W.nsIn K mainGlobals "goings_on" = some (some (.ref fgoings_on))) (lgoings_on : K.lookup fgoings_on = some ⟨ocgoings_on, odgoings_on, .func (PySem.W.fnOf "goings_on" "goings_on" (defArgs s_goings_on) (defBody s_goings_on) (defScope s_goings_on) .none kVgoings_on dcgoings_on pmgoings_on angoings_on cdgoings_on ctgoings_on), slgoings_on⟩) (cgoings_on : PySem.W.codeIn K cdgoings_on "goings_on" = true) (kgoings_on : PySem.W.keepIn K (.ref fgoings_on) = true)
    (ahow_many : PySem.W.nsIn K mainGlobals "how_many" = some (some (.ref fhow_many))) (lhow_many : K.lookup fhow_many = some ⟨ochow_many, odhow_many, .func (PySem.W.fnOf "how_many" "how_many" (defArgs s_how_many) (defBody s_how_many) (defScope s_how_many) .none kVhow_many dchow_many pmhow_many anhow_many cdhow_many cthow_many), slhow_many⟩) (chow_many : PySem.W.codeIn K cdhow_many "how_many" = true) (khow_many : PySem.W.keepIn K (.ref fhow_many) = true)
    (alaw_word : PySem.W.nsIn K mainGlobals "_law_word" = some (some (.ref flaw_word))) (llaw_word : K.lookup flaw_word = some ⟨oclaw_word, odlaw_word, .func (PySem.W.fnOf "_law_word" "_law_word" (defArgs s_law_word) (defBody s_law_word) (defScope s_law_word) .none kVlaw_word dclaw_word pmlaw_word anlaw_word cdlaw_word ctlaw_word), sllaw_word⟩) (claw_word : PySem.W.codeIn K cdlaw_word "_law_word" = true) (klaw_word : PySem.W.keepIn K (.ref flaw_word) = true)
    (asteps_on : PySem.W.nsIn K mainGlobals "steps_on" = some (some (.ref fsteps_on))) (lsteps_on : K.lookup fsteps_on = some ⟨ocsteps_on, odsteps_on, .func (PySem.W.fnOf "steps_on" "steps_on" (defArgs s_steps_on) (defBody s_steps_on) (defScope s_steps_on) .none kVsteps_on dcsteps_on pmsteps_on ansteps_on cdsteps_on ctsteps_on), slsteps_on⟩) (csteps_on : PySem.W.codeIn K cdsteps_on "steps_on" = true) (ksteps_on : PySem.W.keepIn K (.ref fsteps_on) = true)
    (away : PySem.W.nsIn K mainGlobals "way" = some (some (.ref fway))) (lway : K.lookup fway = some ⟨ocway, odway, .func (PySem.W.fnOf "way" "way" (defArgs s_way) (defBody s_way) (defScope s_way) .none kVway dcway pmway anway cdway ctway), slway⟩) (cway : PySem.W.codeIn K cdway "way" = true) (kway : PySem.W.keepIn K (.ref fway) = true)
    (alaw : PySem.W.nsIn K mainGlobals "law" = some (some (.ref flaw))) (llaw : K.lookup flaw = some ⟨oclaw, odlaw, .func (PySem.W.fnOf "law" "law" (defArgs s_law) (defBody s_law) (defScope s_law) .none kVlaw dclaw pmlaw anlaw cdlaw ctlaw), sllaw⟩) (claw : PySem.W.codeIn K cdlaw "law" = true) (klaw : PySem.W.keepIn K (.ref flaw) = true)
    (z_enumerate : PySem.W.nsIn K mainGlobals "enumerate" = some none)
    (z_len : PySem.W.nsIn K mainGlobals "len" = some none)
    (z_min : PySem.W.nsIn K mainGlobals "min" = some none)
    (z_range : PySem.W.nsIn K mainGlobals "range" = some none)
    (z_sorted : PySem.W.nsIn K mainGlobals "sorted" = some none)
    (z_sum : PySem.W.nsIn K mainGlobals "sum" = some none)
    (z_zip : PySem.W.nsIn K mainGlobals "zip" = some none)
    (yC : cdlaw_due = .ref cL) (yK : K.lookup cL = some ⟨eC, eD, .fields eV, eS⟩) (yV : eV[11]? = some (.ref PL)) (yN : K.lookup PL = none) :
    LamX.LawAtS l w K CX0 6 63 "_law_script" mg fa h := by
  have e := hfa.symm.trans (PySem.W.mg_of X G alaw)
  cases e
  refine lawAt_of (fd := PySem.W.fnOf "law" "law" (defArgs s_law) (defBody s_law) (defScope s_law) .none kVlaw dclaw pmlaw anlaw cdlaw ctlaw) (yT _ _ (tabIn_of alaw_due llaw_due yC yK yV)) yN (fun s v => .of_eq rfl) (fun base _ _ TB => ?_)
  exact ⟨_, ok_law (P := l.prog) (w := w) (base := base) (K := K) (mg := mg) { c_lam := cL, P_lam := PL, TB_lam := TB, FC_law_due := ⟨fun_mk (st := s_law_due) llaw_due claw_due klaw_due, yC⟩, f_law_deep := flaw_deep, fd_law_deep := _, F_law_deep := fun_mk (st := s_law_deep) llaw_deep claw_deep klaw_deep, g_law_deep := PySem.W.mg_of X G alaw_deep, b_law_deep := ((fun_mk (st := s_law_deep) llaw_deep claw_deep klaw_deep).binds (ps := ["_law_script", "_law_k"]) (fun _ _ _ _ _ _ us hl => match us, hl with | [_, _], _ => rfl)), f_law_order := flaw_order, fd_law_order := _, F_law_order := fun_mk (st := s_law_order) llaw_order claw_order klaw_order, g_law_order := PySem.W.mg_of X G alaw_order, b_law_order := ((fun_mk (st := s_law_order) llaw_order claw_order klaw_order).binds (ps := ["_law_cell", "_law_n"]) (fun _ _ _ _ _ _ us hl => match us, hl with | [_, _], _ => rfl)), f_law_words := flaw_words, fd_law_words := _, F_law_words := fun_mk (st := s_law_words) llaw_words claw_words klaw_words, g_law_words := PySem.W.mg_of X G alaw_words, b_law_words := ((fun_mk (st := s_law_words) llaw_words claw_words klaw_words).binds (ps := ["_law_heaps_here", "_law_n"]) (fun _ _ _ _ _ _ us hl => match us, hl with | [_, _], _ => rfl)), f_law_riffled := flaw_riffled, fd_law_riffled := _, F_law_riffled := fun_mk (st := s_law_riffled) llaw_riffled claw_riffled klaw_riffled, g_law_riffled := PySem.W.mg_of X G alaw_riffled, b_law_riffled := ((fun_mk (st := s_law_riffled) llaw_riffled claw_riffled klaw_riffled).binds (ps := ["_law_order_here", "_law_marks_here", "_law_word_here"]) (fun _ _ _ _ _ _ us hl => match us, hl with | [_, _, _], _ => rfl)), f_law_heaps := flaw_heaps, fd_law_heaps := _, F_law_heaps := fun_mk (st := s_law_heaps) llaw_heaps claw_heaps klaw_heaps, g_law_heaps := PySem.W.mg_of X G alaw_heaps, b_law_heaps := ((fun_mk (st := s_law_heaps) llaw_heaps claw_heaps klaw_heaps).binds (ps := ["_law_order_here", "_law_told"]) (fun _ _ _ _ _ _ us hl => match us, hl with | [_, _], _ => rfl)), f_law_due := flaw_due, fd_law_due := _, F_law_due := fun_mk (st := s_law_due) llaw_due claw_due klaw_due, g_law_due := PySem.W.mg_of X G alaw_due, b_law_due := ((fun_mk (st := s_law_due) llaw_due claw_due klaw_due).binds (ps := ["_law_order_here", "_law_marks_here"]) (fun _ _ _ _ _ _ us hl => match us, hl with | [_, _], _ => rfl)), f_places := fplaces, fd_places := _, F_places := fun_mk (st := s_places) lplaces cplaces kplaces, g_places := PySem.W.mg_of X G aplaces, b_places := ((fun_mk (st := s_places) lplaces cplaces kplaces).binds (ps := ["order"]) (fun _ _ _ _ _ _ us hl => match us, hl with | [_], _ => rfl)), f_may_share := fmay_share, fd_may_share := _, F_may_share := fun_mk (st := s_may_share) lmay_share cmay_share kmay_share, g_may_share := PySem.W.mg_of X G amay_share, b_may_share := ((fun_mk (st := s_may_share) lmay_share cmay_share kmay_share).binds (ps := ["marks", "heap", "upper", "lower"]) (fun _ _ _ _ _ _ us hl => match us, hl with | [_, _, _, _], _ => rfl)), f_goings_on := fgoings_on, fd_goings_on := _, F_goings_on := fun_mk (st := s_goings_on) lgoings_on cgoings_on kgoings_on, g_goings_on := PySem.W.mg_of X G agoings_on, b_goings_on := ((fun_mk (st := s_goings_on) lgoings_on cgoings_on kgoings_on).binds (ps := ["order", "marks"]) (fun _ _ _ _ _ _ us hl => match us, hl with | [_, _], _ => rfl)), f_how_many := fhow_many, fd_how_many := _, F_how_many := fun_mk (st := s_how_many) lhow_many chow_many khow_many, g_how_many := PySem.W.mg_of X G ahow_many, b_how_many := ((fun_mk (st := s_how_many) lhow_many chow_many khow_many).binds (ps := ["order", "marks"]) (fun _ _ _ _ _ _ us hl => match us, hl with | [_, _], _ => rfl)), f_law_word := flaw_word, fd_law_word := _, F_law_word := fun_mk (st := s_law_word) llaw_word claw_word klaw_word, g_law_word := PySem.W.mg_of X G alaw_word, b_law_word := ((fun_mk (st := s_law_word) llaw_word claw_word klaw_word).binds (ps := ["_law_cell", "_law_heaps_here", "_law_n"]) (fun _ _ _ _ _ _ us hl => match us, hl with | [_, _, _], _ => rfl)), f_steps_on := fsteps_on, fd_steps_on := _, F_steps_on := fun_mk (st := s_steps_on) lsteps_on csteps_on ksteps_on, g_steps_on := PySem.W.mg_of X G asteps_on, b_steps_on := ((fun_mk (st := s_steps_on) lsteps_on csteps_on ksteps_on).binds (ps := ["order", "marks", "heaps"]) (fun _ _ _ _ _ _ us hl => match us, hl with | [_, _, _], _ => rfl)), f_way := fway, fd_way := _, F_way := fun_mk (st := s_way) lway cway kway, g_way := PySem.W.mg_of X G away, b_way := ((fun_mk (st := s_way) lway cway kway).binds (ps := ["order", "marks", "number"]) (fun _ _ _ _ _ _ us hl => match us, hl with | [_, _, _], _ => rfl)), f_law := fa, fd_law := _, F_law := fun_mk (st := s_law) llaw claw klaw, g_law := PySem.W.mg_of X G alaw, b_law := ((fun_mk (st := s_law) llaw claw klaw).binds (ps := ["_law_script"]) (fun _ _ _ _ _ _ us hl => match us, hl with | [_], _ => rfl)), m_enumerate := PySem.W.mg_none_of X G z_enumerate, m_len := PySem.W.mg_none_of X G z_len, m_min := PySem.W.mg_none_of X G z_min, m_range := PySem.W.mg_none_of X G z_range, m_sorted := PySem.W.mg_none_of X G z_sorted, m_sum := PySem.W.mg_none_of X G z_sum, m_zip := PySem.W.mg_none_of X G z_zip }, fun H a ns Q E hl hP hS hq => ⟨a, ns, LT.nil, minus H [PL], rfl, lent_tbl (q := q_lam) hP, sqL_minus hS hP, hl, fun H1 k2 res e fr => by rw [e]; exact hq H1⟩⟩
end Rc
open PySem PySem.W PyProof.Rows
set_option maxHeartbeats 0 in
theorem PySem.Challenge.cw_riftcarry_k25_all_ways_holds : PySem.Challenge.rw_riftcarry_k25_all_ways.Holds := by
  w_on; o_law; k_head; (case hw => w_witness2)
  k_fill
  refine Rc.walk_ofLam (l := PySem.Challenge.rw_riftcarry_k25_all_ways) (n := 63) (k := 6) (x := "_law_script") (x0 := "_law_due") (CX := fun _ => L2.CX0) rfl (by decide) rfl ⟨rfl, by decide, by decide⟩ rfl (fun w h Y => by first | exact PySem.W.km_in_of Y | exact PySem.W.kIn_of Y) ?F (fun _ _ _ _ _ h => h)
  case F =>
    intro w mg fa h KX G hmg yT
    refine' Rc.all_mk KX G hmg yT ?alaw_deep ?llaw_deep ?claw_deep ?klaw_deep ?alaw_order ?llaw_order ?claw_order ?klaw_order ?alaw_words ?llaw_words ?claw_words ?klaw_words ?alaw_riffled ?llaw_riffled ?claw_riffled ?klaw_riffled ?alaw_heaps ?llaw_heaps ?claw_heaps ?klaw_heaps ?alaw_due ?llaw_due ?claw_due ?klaw_due ?aplaces ?lplaces ?cplaces ?kplaces ?amay_share ?lmay_share ?cmay_share ?kmay_share ?agoings_on ?lgoings_on ?cgoings_on ?kgoings_on ?ahow_many ?lhow_many ?chow_many ?khow_many ?alaw_word ?llaw_word ?claw_word ?klaw_word ?asteps_on ?lsteps_on ?csteps_on ?ksteps_on ?away ?lway ?cway ?kway ?alaw ?llaw ?claw ?klaw ?z_enumerate ?z_len ?z_min ?z_range ?z_sorted ?z_sum ?z_zip ?yC ?yK ?yV ?yN
    (case alaw_deep => k_is); (case llaw_deep => k_is); (case claw_deep => k_is); (case klaw_deep => k_is); (case alaw_order => k_is); (case llaw_order => k_is); (case claw_order => k_is); (case klaw_order => k_is); (case alaw_words => k_is); (case llaw_words => k_is); (case claw_words => k_is); (case klaw_words => k_is); (case alaw_riffled => k_is); (case llaw_riffled => k_is); (case claw_riffled => k_is); (case klaw_riffled => k_is); (case alaw_heaps => k_is); (case llaw_heaps => k_is); (case claw_heaps => k_is); (case klaw_heaps => k_is); (case alaw_due => k_is); (case llaw_due => k_is); (case claw_due => k_is); (case klaw_due => k_is); (case aplaces => k_is); (case lplaces => k_is); (case cplaces => k_is); (case kplaces => k_is); (case amay_share => k_is); (case lmay_share => k_is); (case cmay_share => k_is); (case kmay_share => k_is); (case agoings_on => k_is); (case lgoings_on => k_is); (case cgoings_on => k_is); (case kgoings_on => k_is); (case ahow_many => k_is); (case lhow_many => k_is); (case chow_many => k_is); (case khow_many => k_is); (case alaw_word => k_is); (case llaw_word => k_is); (case claw_word => k_is); (case klaw_word => k_is); (case asteps_on => k_is); (case lsteps_on => k_is); (case csteps_on => k_is); (case ksteps_on => k_is); (case away => k_is); (case lway => k_is); (case cway => k_is); (case kway => k_is); (case alaw => k_is); (case llaw => k_is); (case claw => k_is); (case klaw => k_is); (case z_enumerate => k_is); (case z_len => k_is); (case z_min => k_is); (case z_range => k_is); (case z_sorted => k_is); (case z_sum => k_is); (case z_zip => k_is); (case yC => rfl); (case yK => k_is); (case yV => rfl); (case yN => first | rfl | with_unfolding_all rfl)
