import PyProof.Rows.All
import Wide.All
import OpenK.AllK
import Wide.FinOn
import HandS.ForMost
import HandS.IsInst
import HandS.Conv
import HandS.Wide
import HandS.WideBits
import HandS.Evl
import HandS.Walk
import HandS.SortInts
import HandS.SetFor
import HandS.Style
import HandS.Rev
import HandS.RevTup
import HandS.ForExc
import HandS.ExcIs
import HandS.HotCalls
import PyProof.Rows.CountFlat
import KE.SortKeyHeap
import KE.SortLaws
import HandS.Lambda
import HandS.EndTab
import HandS.SortKw
import HandS.Conv
import PySem.Challenge.RW_riftcarry_k66_too_many_words
set_option Elab.async false
set_option linter.all false
set_option maxRecDepth 100000
set_option maxHeartbeats 4000000
namespace Rc
open PySem PySem.Spec PyProof.Rows L2

/-! frames: H grew out of H0; own lists the objects that are new since then -/
structure Fr (H0 H : Hp) (own : List (Addr × HO)) : Prop where
  same : Same H0 H
  frs : ∀ p ∈ own, H0 p.1 = none ∧ H p.1 = some p.2
  nd : (own.map (·.1)).Nodup

section
variable {H0 H H' : Hp} {own : List (Addr × HO)} {p q r t : Addr} {o o' u v x : HO}
theorem same_new (h : H p = none) : Same H (upd H p o) := fun b x e => by
  rw [upd_ne (ne_of_none e h)]; exact e
theorem Fr.nil (H : Hp) : Fr H H [] := ⟨Same.refl H, (fun _ h => nomatch h), List.nodup_nil⟩
theorem Fr.fresh (f : Fr H0 H own) (h : H p = none) : H0 p = none := f.same.free h
theorem Fr.notin (f : Fr H0 H own) (h : H p = none) : p ∉ own.map (·.1) := fun hm => by
  obtain ⟨z, hz, rfl⟩ := List.mem_map.mp hm
  rw [(f.frs z hz).2] at h; cases h
theorem Fr.call (f : Fr H0 H own) (s : Same H H') : Fr H0 H' own :=
  ⟨f.same.trans s, fun z hz => ⟨(f.frs z hz).1, s _ _ (f.frs z hz).2⟩, f.nd⟩
theorem Fr.cnew (f : Fr H0 H own) (s : Same H H') (h : H p = none) (e : H' p = some o) : Fr H0 H' ((p, o) :: own) :=
  ⟨f.same.trans s, fun z hz => by
    rcases List.mem_cons.mp hz with rfl | hz
    · exact ⟨f.fresh h, e⟩
    · exact ⟨(f.frs z hz).1, s _ _ (f.frs z hz).2⟩, List.nodup_cons.mpr ⟨f.notin h, f.nd⟩⟩
theorem Fr.new (f : Fr H0 H own) (h : H p = none) : Fr H0 (upd H p o) ((p, o) :: own) := f.cnew (same_new h) h upd_same
theorem Fr.tmp (f : Fr H0 H own) (h : H p = none) : Fr H0 (upd H p o) own := f.call (same_new h)
theorem Fr.sub {own' : List (Addr × HO)} (f : Fr H0 H own) (h : own'.Sublist own) : Fr H0 H own' :=
  ⟨f.same, fun z hz => f.frs z (h.subset hz), f.nd.sublist (h.map _)⟩
theorem Fr.perm {own' : List (Addr × HO)} (f : Fr H0 H own) (h : own.Perm own') : Fr H0 H own' :=
  ⟨f.same, fun z hz => f.frs z (h.mem_iff.mpr hz), (h.map _).nodup_iff.mp f.nd⟩
theorem Fr.mem (f : Fr H0 H own) (h : (p, o) ∈ own) : H p = some o := (f.frs _ h).2
theorem Fr.wr (f : Fr H0 H ((p, o) :: own)) : Fr H0 (upd H p o') ((p, o') :: own) := by
  have hn := List.nodup_cons.mp f.nd
  refine ⟨fun b z e => ?_, fun z hz => ?_, f.nd⟩
  · have : b ≠ p := fun h => by subst h; rw [(f.frs (b, o) List.mem_cons_self).1] at e; cases e
    rw [upd_ne this]; exact f.same _ _ e
  · rcases List.mem_cons.mp hz with rfl | hz
    · exact ⟨(f.frs (p, o) List.mem_cons_self).1, upd_same⟩
    · have : z.1 ≠ p := fun h => hn.1 (List.mem_map.mpr ⟨z, hz, h⟩)
      rw [upd_ne this]
      exact f.frs z (List.mem_cons_of_mem _ hz)
theorem Fr.cast (f : Fr H0 H ((p, o) :: own)) (e : o = o') : Fr H0 H ((p, o') :: own) := e ▸ f
/-- bring the k-th to the front, and back -/
theorem Fr.up1 {a b : Addr × HO} (f : Fr H0 H (a :: b :: own)) : Fr H0 H (b :: a :: own) := f.perm (List.Perm.swap _ _ _)
theorem Fr.up2 {a b c : Addr × HO} (f : Fr H0 H (a :: b :: c :: own)) : Fr H0 H (c :: a :: b :: own) :=
  f.perm ((List.Perm.swap c b own).cons a |>.trans (List.Perm.swap c a (b :: own)))
theorem Fr.up3 {a b c d : Addr × HO} (f : Fr H0 H (a :: b :: c :: d :: own)) : Fr H0 H (d :: a :: b :: c :: own) :=
  f.perm (((List.Perm.swap d c own).cons b |>.trans (List.Perm.swap d b (c :: own))).cons a |>.trans (List.Perm.swap d a (b :: c :: own)))
theorem Fr.dn1 {a b : Addr × HO} (f : Fr H0 H (b :: a :: own)) : Fr H0 H (a :: b :: own) := f.up1
theorem Fr.dn2 {a b c : Addr × HO} (f : Fr H0 H (c :: a :: b :: own)) : Fr H0 H (a :: b :: c :: own) := f.up1.perm ((List.Perm.swap _ _ _).cons _)
theorem Fr.dn3 {a b c d : Addr × HO} (f : Fr H0 H (d :: a :: b :: c :: own)) : Fr H0 H (a :: b :: c :: d :: own) :=
  f.up1.perm (((List.Perm.swap _ _ _).trans ((List.Perm.swap _ _ _).cons _)).cons _)
theorem Fr.at0 (f : Fr H0 H ((p, o) :: own)) : H p = some o := f.mem List.mem_cons_self
theorem Fr.at1 {a : Addr × HO} (f : Fr H0 H (a :: (p, o) :: own)) : H p = some o := f.up1.at0
theorem Fr.at2 {a b : Addr × HO} (f : Fr H0 H (a :: b :: (p, o) :: own)) : H p = some o := f.up2.at0
theorem Fr.at3 {a b c : Addr × HO} (f : Fr H0 H (a :: b :: c :: (p, o) :: own)) : H p = some o := f.up3.at0
theorem Fr.at4 {a b c d : Addr × HO} (f : Fr H0 H (a :: b :: c :: d :: (p, o) :: own)) : H p = some o := (f.sub (List.sublist_cons_self _ _)).at3
theorem Fr.at5 {a b c d e : Addr × HO} (f : Fr H0 H (a :: b :: c :: d :: e :: (p, o) :: own)) : H p = some o := (f.sub (List.sublist_cons_self _ _)).at4
theorem Fr.d0 {a : Addr × HO} (f : Fr H0 H (a :: own)) : Fr H0 H own := f.sub (List.sublist_cons_self _ _)
theorem Fr.d1 {a b : Addr × HO} (f : Fr H0 H (a :: b :: own)) : Fr H0 H (a :: own) := f.up1.d0
theorem Fr.d2 {a b c : Addr × HO} (f : Fr H0 H (a :: b :: c :: own)) : Fr H0 H (a :: b :: own) := f.up2.d0
theorem Fr.d3 {a b c d : Addr × HO} (f : Fr H0 H (a :: b :: c :: d :: own)) : Fr H0 H (a :: b :: c :: own) := f.up3.d0
theorem Fr.wr1 {a : Addr × HO} (f : Fr H0 H (a :: (p, o) :: own)) : Fr H0 (upd H p o') (a :: (p, o') :: own) := f.up1.wr.dn1
theorem Fr.wr2 {a b : Addr × HO} (f : Fr H0 H (a :: b :: (p, o) :: own)) : Fr H0 (upd H p o') (a :: b :: (p, o') :: own) := f.up2.wr.dn2
theorem Fr.wr3 {a b c : Addr × HO} (f : Fr H0 H (a :: b :: c :: (p, o) :: own)) : Fr H0 (upd H p o') (a :: b :: c :: (p, o') :: own) := f.up3.wr.dn3
theorem Fr.cs1 {a : Addr × HO} (f : Fr H0 H (a :: (p, o) :: own)) (e : o = o') : Fr H0 H (a :: (p, o') :: own) := e ▸ f
theorem Fr.cs2 {a b : Addr × HO} (f : Fr H0 H (a :: b :: (p, o) :: own)) (e : o = o') : Fr H0 H (a :: b :: (p, o') :: own) := e ▸ f
theorem Fr.cs3 {a b c : Addr × HO} (f : Fr H0 H (a :: b :: c :: (p, o) :: own)) (e : o = o') : Fr H0 H (a :: b :: c :: (p, o') :: own) := e ▸ f
end

/-! contents -/
theorem app_map {α β : Type} (f : α → β) (xs : List α) (y : α) : xs.map f ++ [f y] = (xs ++ [y]).map f := by simp
theorem set_map' {α β : Type} (f : α → β) (xs : List α) (j : Nat) (y : α) : (xs.map f).set j (f y) = (xs.set j y).map f := by rw [List.map_set]
theorem lst_app {α : Type} (f : α → V) (xs : List α) (y : α) : HO.lst (xs.map f ++ [f y]) = .lst ((xs ++ [y]).map f) := by rw [app_map]
theorem lst_set {α : Type} (f : α → V) (xs : List α) (j : Nat) (y : α) : HO.lst ((xs.map f).set j (f y)) = .lst ((xs.set j y).map f) := by rw [set_map']
theorem lst_rev {α : Type} (f : α → V) (xs : List α) : HO.lst ((xs.map f).reverse) = .lst (xs.reverse.map f) := by rw [List.map_reverse]
theorem lst_cat {α : Type} (f : α → V) (xs ys : List α) : HO.lst (xs.map f ++ ys.map f) = .lst ((xs ++ ys).map f) := by rw [List.map_append]
theorem lst_rep {α : Type} (f : α → V) (xs : List α) (k : Nat) : HO.lst (List.replicate k (xs.map f)).flatten = .lst ((List.replicate k xs).flatten.map f) := by
  rw [List.map_flatten, List.map_replicate]
theorem erase_map' {α β : Type} (f : α → β) : ∀ (xs : List α) (k : Nat), (xs.map f).eraseIdx k = (xs.eraseIdx k).map f
  | [], _ => rfl
  | _ :: _, 0 => rfl
  | x :: xs, k + 1 => by
    show f x :: (xs.map f).eraseIdx k = f x :: (xs.eraseIdx k).map f
    rw [erase_map' f xs k]
theorem lst_erase {α : Type} (f : α → V) (xs : List α) (k : Nat) : HO.lst ((xs.map f).eraseIdx k) = .lst ((xs.eraseIdx k).map f) := by rw [erase_map']
theorem lst_dl {α : Type} (f : α → V) (xs : List α) : HO.lst ((xs.map f).dropLast) = .lst (xs.dropLast.map f) := by rw [List.map_dropLast]
theorem lst_rep1 {α : Type} (f : α → V) (x : α) (k : Nat) : HO.lst (List.replicate k [f x]).flatten = .lst ((List.replicate k x).map f) := by
  rw [List.map_replicate]; congr 1
  induction k with
  | zero => rfl
  | succ k ih => rw [List.replicate_succ, List.flatten_cons, ih]; rfl
/-- a slice with step one -/
def cutL {α : Type} (xs : List α) (lo hi : Option Int) : List α :=
  (xs.drop (HT.sIx xs.length 0 lo)).take (HT.sIx xs.length xs.length hi - HT.sIx xs.length 0 lo)
theorem lst_cut {α : Type} (f : α → V) (xs : List α) (lo hi : Option Int) : HO.lst (cutV (xs.map f) lo hi) = .lst ((cutL xs lo hi).map f) := by
  unfold cutV cutL; rw [List.length_map, List.map_take, List.map_drop]
theorem cutL_length {α : Type} (xs : List α) (lo hi : Option Int) : (cutL xs lo hi).length = min (HT.sIx xs.length xs.length hi - HT.sIx xs.length 0 lo) (xs.length - HT.sIx xs.length 0 lo) := by
  unfold cutL; rw [List.length_take, List.length_drop]
theorem rgV_eq (a b : Int) : rgV a b = ((List.range (b - a).toNat).map fun i : Nat => a + (i : Int)).map V.int := by
  unfold rgV; rw [List.map_map]; rfl
def rangeI (n : Int) : List Int := (List.range n.toNat).map fun i : Nat => (i : Int)
theorem lst_rng (n : Int) : HO.lst (rgV 0 n) = .lst ((rangeI n).map V.int) := by
  rw [rgV_eq]; unfold rangeI; congr 2; simp
theorem atD {α : Type} {f : α → V} {xs : List α} {i : Int} (d : α) (h0 : 0 ≤ i) (h1 : i < (xs.length : Int)) : atI (xs.map f) i = some (f (xs.getD i.toNat d)) := by
  obtain ⟨n, rfl⟩ := Int.eq_ofNat_of_zero_le h0
  have hn : n < xs.length := by omega
  refine atI_nat ?_
  rw [List.getElem?_map, List.getElem?_eq_getElem hn]
  simp [List.getD, hn]
theorem ixD {n : Nat} {i : Int} (h0 : 0 ≤ i) (h1 : i < (n : Int)) : ixN n i = some i.toNat := by
  unfold ixN; rw [if_pos h0, if_pos h1]
theorem atLast {α : Type} {f : α → V} {xs : List α} (d : α) (h : 0 < xs.length) : atI (xs.map f) (-1) = some (f (xs.getLastD d)) := by
  have hne : xs ≠ [] := fun z => by subst z; cases h
  have e : xs.map f = xs.dropLast.map f ++ [f (xs.getLast hne)] := by
    rw [← List.map_singleton, ← List.map_append, List.dropLast_concat_getLast]
  rw [e, atI_last, List.getLastD_eq_getLast?, List.getLast?_eq_some_getLast hne]; rfl
theorem getD_mem {α : Type} {xs : List α} {i : Nat} {d : α} (h : i < xs.length) : xs.getD i d ∈ xs := by
  simp [List.getD, h]

/-! tests -/
theorem iteD {c : Prop} [Decidable c] {A B : Prop} (h1 : c → A) (h2 : ¬ c → B) : if decide c = true then A else B := by
  by_cases h : c
  · rw [if_pos (decide_eq_true h)]; exact h1 h
  · rw [if_neg (by rw [decide_eq_false h]; exact Bool.false_ne_true)]; exact h2 h
theorem iteN {c : Prop} [Decidable c] {A B : Prop} (h1 : ¬ c → A) (h2 : c → B) : if (!decide c) = true then A else B := by
  by_cases h : c
  · rw [if_neg (by rw [decide_eq_true h]; exact Bool.false_ne_true)]; exact h2 h
  · rw [if_pos (by rw [decide_eq_false h]; rfl)]; exact h1 h
theorem iteB {b : Bool} {A B : Prop} (h1 : b = true → A) (h2 : b = false → B) : if b = true then A else B := by
  cases b with
  | true => exact iteT (h1 rfl)
  | false => exact iteF (h2 rfl)
theorem iteBT {b : Bool} {A B : Prop} (h : b = true) (h1 : A) : if b = true then A else B := by subst h; exact iteT h1
theorem iteBF {b : Bool} {A B : Prop} (h : b = false) (h1 : B) : if b = true then A else B := by subst h; exact iteF h1

/-! operators by values, in handy forms -/
section
variable {X : Cx}
theorem op_eqB : OpR X (compareOp .Eq) (fun x y H Q => ∃ a b : Bool, x = .bl a ∧ y = .bl b ∧ Q (.bl (a == b)) H) := by
  intro pins s σ H x y v u Q I rx ry h
  obtain ⟨a, b, rfl, rfl, q⟩ := h
  refine op_eq pins s σ H _ _ v u Q I rx ry ⟨rfl, ?_⟩
  have : decide (V.bl a = V.bl b) = (a == b) := by cases a <;> cases b <;> rfl
  rw [this]; exact q
theorem op_neB : OpR X (compareOp .NotEq) (fun x y H Q => ∃ a b : Bool, x = .bl a ∧ y = .bl b ∧ Q (.bl (a != b)) H) := by
  intro pins s σ H x y v u Q I rx ry h
  obtain ⟨a, b, rfl, rfl, q⟩ := h
  refine op_ne pins s σ H _ _ v u Q I rx ry ⟨rfl, ?_⟩
  have : (!decide (V.bl a = V.bl b)) = (a != b) := by cases a <;> cases b <;> rfl
  rw [this]; exact q
def rLenL (K : PySem.W.Frag) : List V → Hp → VK → Prop := fun xs H Q => ∃ p n ys, xs = [.ref p] ∧ SqL K H p ys ∧ ys.length = n ∧ Q (.int (n : Nat)) H
theorem call_lenL : CallR X (.builtin "len") (rLenL X.K) := by
  intro pins s σ H xs us Q I r h
  obtain ⟨p, n, ys, rfl, hp, rfl, q⟩ := h
  exact call_len_seq pins s σ H _ us Q I r ⟨p, ys, rfl, .inl hp, q⟩
def rLenT (K : PySem.W.Frag) : List V → Hp → VK → Prop := fun xs H Q => ∃ p n ys, xs = [.ref p] ∧ SqT K H p ys ∧ ys.length = n ∧ Q (.int (n : Nat)) H
theorem call_lenT : CallR X (.builtin "len") (rLenT X.K) := by
  intro pins s σ H xs us Q I r h
  obtain ⟨p, n, ys, rfl, hp, rfl, q⟩ := h
  exact call_len_seq pins s σ H _ us Q I r ⟨p, ys, rfl, .inr hp, q⟩
def rListL (K : PySem.W.Frag) : List V → Hp → VK → Prop := fun xs H Q => ∃ p ys, xs = [.ref p] ∧ (SqL K H p ys ∨ SqT K H p ys) ∧ ∀ l, H l = none → Q (.ref l) (upd H l (.lst ys))
theorem call_listL : CallR X (.type "list") (rListL X.K) := call_list_of
theorem call_minI (hc : X.calm = true) : CallR X (.builtin "min") (fun xs H Q => ∃ i j : Int, xs = [.int i, .int j] ∧ Q (.int (min i j)) H) := by
  intro pins s σ H xs us Q I r h
  obtain ⟨i, j, rfl, q⟩ := h
  refine call_min2 hc pins s σ H _ us Q I r ⟨i, j, rfl, ?_⟩
  have : (if j < i then j else i) = min i j := by
    by_cases h : j < i
    · rw [if_pos h]; omega
    · rw [if_neg h]; omega
  rw [this]; exact q
theorem call_maxI (hc : X.calm = true) : CallR X (.builtin "max") (fun xs H Q => ∃ i j : Int, xs = [.int i, .int j] ∧ Q (.int (max i j)) H) := by
  intro pins s σ H xs us Q I r h
  obtain ⟨i, j, rfl, q⟩ := h
  refine call_max2 hc pins s σ H _ us Q I r ⟨i, j, rfl, ?_⟩
  have : (if j > i then j else i) = max i j := by
    by_cases h : j > i
    · rw [if_pos h]; omega
    · rw [if_neg h]; omega
  rw [this]; exact q
theorem call_absI : CallR X (.builtin "abs") (fun xs H Q => ∃ i : Int, xs = [.int i] ∧ Q (.int (i.natAbs : Nat)) H) := by
  intro pins s σ H xs us Q I r h
  obtain ⟨i, rfl, q⟩ := h
  refine call_abs pins s σ H _ us Q I r ⟨i, rfl, ?_⟩
  have : (if i < 0 then -i else i) = (i.natAbs : Int) := by
    by_cases h : i < 0
    · rw [if_pos h]; omega
    · rw [if_neg h]; omega
  rw [this]; exact q
theorem pe_bmK {K : PySem.W.Frag} {e : Expr} {T : String} {r : V → List V → Hp → VK → Prop} {to : TE} {t : TA} (h : PE X e (tBM X.K T r to t)) (hk : X.K = K := by rfl) : PE X e (tBM K T r to t) := by subst hk; exact h
/-- comparisons, told in two ways -/
theorem op_ltS : OpR X (compareOp .Lt) (fun x y H Q => ∃ i j : Int, x = .int i ∧ y = .int j ∧ (i < j → Q (.bl true) H) ∧ (¬ i < j → Q (.bl false) H)) := by
  intro pins s σ H x y v u Q I rx ry h
  obtain ⟨i, j, rfl, rfl, q1, q2⟩ := h
  refine op_lt pins s σ H _ _ v u Q I rx ry ⟨i, j, rfl, rfl, ?_⟩
  show Q (V.bl (decide (i < j))) H
  by_cases h : i < j
  · rw [decide_eq_true h]; exact q1 h
  · rw [decide_eq_false h]; exact q2 h
theorem op_leS : OpR X (compareOp .LtE) (fun x y H Q => ∃ i j : Int, x = .int i ∧ y = .int j ∧ (i ≤ j → Q (.bl true) H) ∧ (¬ i ≤ j → Q (.bl false) H)) := by
  intro pins s σ H x y v u Q I rx ry h
  obtain ⟨i, j, rfl, rfl, q1, q2⟩ := h
  refine op_le pins s σ H _ _ v u Q I rx ry ⟨i, j, rfl, rfl, ?_⟩
  show Q (V.bl (decide (i ≤ j))) H
  by_cases h : i ≤ j
  · rw [decide_eq_true h]; exact q1 h
  · rw [decide_eq_false h]; exact q2 h
theorem op_gtS : OpR X (compareOp .Gt) (fun x y H Q => ∃ i j : Int, x = .int i ∧ y = .int j ∧ (j < i → Q (.bl true) H) ∧ (¬ j < i → Q (.bl false) H)) := by
  intro pins s σ H x y v u Q I rx ry h
  obtain ⟨i, j, rfl, rfl, q1, q2⟩ := h
  refine op_gt pins s σ H _ _ v u Q I rx ry ⟨i, j, rfl, rfl, ?_⟩
  show Q (V.bl (decide (j < i))) H
  by_cases h : j < i
  · rw [decide_eq_true h]; exact q1 h
  · rw [decide_eq_false h]; exact q2 h
theorem op_geS : OpR X (compareOp .GtE) (fun x y H Q => ∃ i j : Int, x = .int i ∧ y = .int j ∧ (j ≤ i → Q (.bl true) H) ∧ (¬ j ≤ i → Q (.bl false) H)) := by
  intro pins s σ H x y v u Q I rx ry h
  obtain ⟨i, j, rfl, rfl, q1, q2⟩ := h
  refine op_ge pins s σ H _ _ v u Q I rx ry ⟨i, j, rfl, rfl, ?_⟩
  show Q (V.bl (decide (j ≤ i))) H
  by_cases h : j ≤ i
  · rw [decide_eq_true h]; exact q1 h
  · rw [decide_eq_false h]; exact q2 h
theorem int_dec {i j : Int} : decide (V.int i = V.int j) = decide (i = j) := by
  by_cases h : i = j
  · subst h; rw [decide_eq_true rfl, decide_eq_true rfl]
  · rw [decide_eq_false h, decide_eq_false fun z => h (V.int.inj z)]
theorem op_eqS : OpR X (compareOp .Eq) (fun x y H Q => ∃ i j : Int, x = .int i ∧ y = .int j ∧ (i = j → Q (.bl true) H) ∧ (¬ i = j → Q (.bl false) H)) := by
  intro pins s σ H x y v u Q I rx ry h
  obtain ⟨i, j, rfl, rfl, q1, q2⟩ := h
  refine op_eq pins s σ H _ _ v u Q I rx ry ⟨rfl, ?_⟩
  rw [int_dec]
  by_cases h : i = j
  · rw [decide_eq_true h]; exact q1 h
  · rw [decide_eq_false h]; exact q2 h
theorem op_neS : OpR X (compareOp .NotEq) (fun x y H Q => ∃ i j : Int, x = .int i ∧ y = .int j ∧ (¬ i = j → Q (.bl true) H) ∧ (i = j → Q (.bl false) H)) := by
  intro pins s σ H x y v u Q I rx ry h
  obtain ⟨i, j, rfl, rfl, q1, q2⟩ := h
  refine op_ne pins s σ H _ _ v u Q I rx ry ⟨rfl, ?_⟩
  rw [int_dec]
  by_cases h : i = j
  · rw [decide_eq_true h]; exact q2 h
  · rw [decide_eq_false h]; exact q1 h
/-- a truth, told in two ways: as a test, as a value -/
def tBS (t : TE) : TT := fun σ H Q => t σ H fun x H1 => ∃ b, x = .bl b ∧ (b = true → Q true H1) ∧ (b = false → Q false H1)
theorem pt_valS {e : Expr} {t : TE} (h : PE X e t) (he : ∀ whole, isTrue e X.env whole = (do let v ← whole; standAt e.pos; holding [v] (truthy v)) := by intro _; rfl) : PT X e (tBS t) := by
  refine ⟨fun pins s σ H Q I hw => ?_⟩
  refine isTrue_plain (thn (h.run pins s σ H _ I hw) fun v s1 ⟨x, H1, I1, r1, q1⟩ => ?_) (he _)
  obtain ⟨d, rfl, q1, q2⟩ := q1
  cases r1
  refine wpAny_truthy_bool ⟨H1, I1, ?_⟩
  cases d with
  | true => exact q1 rfl
  | false => exact q2 rfl
/-- an operator whose answer is a truth, told in two ways -/
theorem opS {f : Value → Value → Sem Value} {r : R2} (h : OpR X f r) : OpR X f (fun x y H Q => r x y H fun z H1 => ∃ b, z = .bl b ∧ (b = true → Q (.bl true) H1) ∧ (b = false → Q (.bl false) H1)) := by
  intro pins s σ H x y v u Q I rx ry q
  refine thn (h pins s σ H x y v u _ I rx ry q) fun w s1 ⟨z, H1, I1, r1, q1⟩ => ?_
  obtain ⟨d, rfl, q1, q2⟩ := q1
  refine ⟨.bl d, H1, I1, r1, ?_⟩
  cases d with
  | true => exact q1 rfl
  | false => exact q2 rfl
/-- and, or, not as values, of truths told in two ways -/
def tSplE (t : TE) : TE := fun σ H Q => t σ H fun x H1 => ∃ b, x = .bl b ∧ (b = true → Q (.bl true) H1) ∧ (b = false → Q (.bl false) H1)
theorem pe_splS {e : Expr} {t : TE} (h : PE X e t) : PE X e (tSplE t) := by
  refine ⟨fun pins s σ H Q I hw => thn (h.run pins s σ H _ I hw) fun v s1 ⟨x, H1, I1, r1, q1⟩ => ?_⟩
  obtain ⟨d, rfl, q1, q2⟩ := q1
  refine ⟨.bl d, H1, I1, r1, ?_⟩
  cases d with
  | true => exact q1 rfl
  | false => exact q2 rfl
/-- a power of written numbers, told as a number -/
theorem op_powL : OpR X (binaryOp .Pow) (fun x y H Q => ∃ i j k : Int, x = .int i ∧ y = .int j ∧ CPow i j ∧ i ^ j.toNat = k ∧ Q (.int k) H) := by
  intro pins s σ H x y v u Q I rx ry h
  obtain ⟨i, j, k, rfl, rfl, hc, rfl, q⟩ := h
  exact op_pow pins s σ H _ _ v u Q I rx ry ⟨i, j, rfl, rfl, hc, q⟩
/-- xs[i], read for an augmented store -/
theorem get_list : PGet X (rIxL X.K) := by
  intro pins s σ H o i ov iv Q I ro ri h
  obtain ⟨p, xs, k, z, rfl, rfl, hq, he, q⟩ := h
  cases ro
  obtain ⟨tk, rfl⟩ := ri
  obtain ⟨its, vr, pl, hz⟩ := I.list hq
  obtain ⟨j, h1, h2, h3, h4, h5⟩ := atI_get he
  obtain ⟨w, ew, rw'⟩ := vr.get h2
  have hl := vr.length
  have hn := line63
  have fin : EP X pins σ Q w s := ⟨z, H, I, rw', q⟩
  by_cases h0 : 0 ≤ k
  · have hj : k.toNat = j := by
      rw [seqIndex_of h0 h5] at h1; exact Option.some.inj h1
    exact wpAny_mono (wpAny_getItem_list (Q := fun r s' => r = w ∧ EP X pins σ Q r s') pl.isList h0 (by omega) (by rw [hj]; simpa using ew) ⟨rfl, fin⟩) (fun _ _ z => z.2) fun _ _ z => z
  · have hj : (k + (its.toArray.size : Int)).toNat = j := by
      rw [seqIndex_neg (by omega) h4] at h1
      rw [List.size_toArray, ← hl]; exact Option.some.inj h1
    exact wpAny_mono (wpAny_getItem_list_neg (Q := fun r s' => r = w ∧ EP X pins σ Q r s') pl.isList (by omega) (by rw [List.size_toArray] <;> omega) (by omega) (by rw [hj]; simpa using ew) ⟨rfl, fin⟩) (fun _ _ z => z.2) fun _ _ z => z
end
end Rc
namespace Rc
open PySem PySem.Spec PyProof.Rows L2

section
variable {H0 H H' : Hp} {own : List (Addr × HO)} {p : Addr} {o : HO}
theorem Fr.n0 (f : Fr H0 H ((p, o) :: own)) : H0 p = none := (f.frs _ List.mem_cons_self).1
theorem Fr.n1 {a : Addr × HO} (f : Fr H0 H (a :: (p, o) :: own)) : H0 p = none := f.up1.n0
theorem Fr.n2 {a b : Addr × HO} (f : Fr H0 H (a :: b :: (p, o) :: own)) : H0 p = none := f.up2.n0
end
/-- the k-th of what is own -/
theorem getElem?_perm {α : Type} : ∀ {l : List α} {k : Nat} {x : α}, l[k]? = some x → l.Perm (x :: l.eraseIdx k)
  | [], _, _, h => by simp at h
  | y :: l, 0, x, h => by cases (Option.some.inj h); exact List.Perm.refl _
  | y :: l, k + 1, x, h => ((getElem?_perm (l := l) (k := k) h).cons y).trans (List.Perm.swap _ _ _)
section
variable {H0 H H' : Hp} {own : List (Addr × HO)} {p : Addr} {o o' : HO}
theorem Fr.atk (f : Fr H0 H own) (k : Nat) (h : own[k]? = some (p, o)) : H p = some o := f.mem (List.mem_of_getElem? h)
theorem Fr.upk {x : Addr × HO} (f : Fr H0 H own) (k : Nat) (h : own[k]? = some x) : Fr H0 H (x :: own.eraseIdx k) := f.perm (getElem?_perm h)
theorem Fr.dk (f : Fr H0 H own) (k : Nat) : Fr H0 H (own.eraseIdx k) := f.sub (List.eraseIdx_sublist _ _)
theorem set_perm {α : Type} : ∀ {l : List α} {k : Nat} {x y : α}, l[k]? = some x → (y :: l.eraseIdx k).Perm (l.set k y)
  | [], _, _, _, h => by simp at h
  | z :: l, 0, x, y, h => List.Perm.refl _
  | z :: l, k + 1, x, y, h => (List.Perm.swap _ _ _).trans ((set_perm (l := l) (k := k) (y := y) h).cons z)
theorem Fr.wrk {o'' : HO} (f : Fr H0 H own) (k : Nat) (h : own[k]? = some (p, o)) (e : o' = o'') : Fr H0 (upd H p o') (own.set k (p, o'')) := by
  subst e
  exact ((f.upk k h).wr (o' := o')).perm (set_perm h)
end
theorem ndT {c : Prop} [Decidable c] (h : ¬ c) : (!decide c) = true := by rw [decide_eq_false h]; rfl
theorem ndF {c : Prop} [Decidable c] (h : c) : (!decide c) = false := by rw [decide_eq_true h]; rfl
theorem of_nd {c : Prop} [Decidable c] (h : (!decide c) = false) : c := by
  by_cases z : c
  · exact z
  · rw [decide_eq_false z] at h; cases h
theorem not_of_nd {c : Prop} [Decidable c] (h : (!decide c) = true) : ¬ c := fun z => by rw [decide_eq_true z] at h; cases h
theorem bnotT {b : Bool} (h : (!b) = true) : b = false := by cases b with | true => cases h | false => rfl
theorem bnotF {b : Bool} (h : (!b) = false) : b = true := by cases b with | true => rfl | false => cases h
theorem iteBN {b : Bool} {A B : Prop} (h1 : b = false → A) (h2 : b = true → B) : if (!b) = true then A else B := by
  cases b with
  | false => exact iteT (h1 rfl)
  | true => exact iteF (h2 rfl)
theorem hu64 {A : Around} {k : Nat} (hr : Room k A) : A.units + 64 < cLine := by have := hr.un; omega

/-! what is walked, with typed contents -/
section
variable {α β : Type} {K : PySem.W.Frag} {a b : Addr}
theorem walkR {n : Nat} : Walk (Itr 0 n) n (fun _ => True) (fun i H x H' => H' = H ∧ x = .int (i : Nat)) :=
  walk_range.mono (fun _ h => h) fun i H x H' _ _ y => ⟨y.1, by rw [y.2]; exact congrArg V.int (Int.zero_add _)⟩
theorem walkL (f : α → V) (ns : List α) : Walk (Itl K a) ns.length (fun H => H a = some (.lst (ns.map f))) (fun i H x H' => H' = H ∧ ∃ y, ns[i]? = some y ∧ x = f y) := by
  have w := walk_list (K := K) (a := a) (xs := ns.map f)
  rw [List.length_map] at w
  refine w.mono (fun H h => SqL.of h) fun i H x H' _ _ y => ⟨y.1, ?_⟩
  have e := y.2
  rw [List.getElem?_map] at e
  cases h : ns[i]? with
  | none => rw [h] at e; cases e
  | some z => rw [h] at e; exact ⟨z, rfl, (Option.some.inj e).symm⟩
theorem walkV (ns : List V) : Walk (Itl K a) ns.length (fun H => H a = some (.lst ns)) (fun i H x H' => H' = H ∧ ns[i]? = some x) :=
  walk_list.mono (fun H h => SqL.of h) fun i H x H' _ _ y => y
theorem walkRv (f : α → V) (ns : List α) : Walk (Itv K a (ns.map f).length) ns.length (fun H => H a = some (.lst (ns.map f))) (fun i H x H' => H' = H ∧ ∃ y, ns[ns.length - 1 - i]? = some y ∧ x = f y) := by
  have w := walk_rev (K := K) (a := a) (xs := ns.map f)
  rw [List.length_map] at w ⊢
  refine w.mono (fun H h => SqL.of h) fun i H x H' _ _ y => ⟨y.1, ?_⟩
  have e := y.2
  rw [List.getElem?_map] at e
  cases h : ns[ns.length - 1 - i]? with
  | none => rw [h] at e; cases e
  | some z => rw [h] at e; exact ⟨z, rfl, (Option.some.inj e).symm⟩
theorem walkE (f : α → V) (ns : List α) : Walk (Ite K a) ns.length (fun H => H a = some (.lst (ns.map f)))
    (fun i H x H' => ∃ T y, x = .ref T ∧ H T = none ∧ H' = upd H T (.tup [.int (i : Nat), f y]) ∧ ns[i]? = some y) := by
  have w := walk_enum (K := K) (a := a) (xs := ns.map f)
  rw [List.length_map] at w
  refine w.mono (fun H h => SqL.of h) fun i H x H' _ _ y => ?_
  obtain ⟨T, u, v, h1, h2, h3, h4, h5⟩ := y
  cases h4
  replace h5 : (ns.map f)[i]? = some v := h5
  rw [List.getElem?_map] at h5
  cases h : ns[i]? with
  | none => rw [h] at h5; cases h5
  | some z => rw [h] at h5; cases (Option.some.inj h5); exact ⟨T, z, h1, h2, h3, rfl⟩
theorem walkZ (f : α → V) (g : β → V) (ns : List α) (ms : List β) : Walk (Itz K a b) (min ns.length ms.length) (fun H => H a = some (.lst (ns.map f)) ∧ H b = some (.lst (ms.map g)))
    (fun i H x H' => ∃ T y z, x = .ref T ∧ H T = none ∧ H' = upd H T (.tup [f y, g z]) ∧ ns[i]? = some y ∧ ms[i]? = some z) := by
  have w := walk_zip (K := K) (a := a) (b := b) (xs := ns.map f) (ys := ms.map g) (n := min ns.length ms.length) (by rw [List.length_map, List.length_map])
  refine w.mono (fun H h => ⟨SqL.of h.1, SqL.of h.2⟩) fun i H x H' _ _ y => ?_
  obtain ⟨T, u, v, h1, h2, h3, h4, h5⟩ := y
  replace h4 : (ns.map f)[i]? = some u := h4
  replace h5 : (ms.map g)[i]? = some v := h5
  rw [List.getElem?_map] at h4 h5
  cases h : ns[i]? with
  | none => rw [h] at h4; cases h4
  | some z =>
    cases h' : ms[i]? with
    | none => rw [h'] at h5; cases h5
    | some z' =>
      rw [h] at h4; rw [h'] at h5
      cases (Option.some.inj h4); cases (Option.some.inj h5)
      exact ⟨T, z, z', h1, h2, h3, rfl, rfl⟩
end

theorem map_c {α : Type} (xs : List α) (c : Int) : xs.map (fun _ => c) = List.replicate xs.length c := by
  induction xs with
  | nil => rfl
  | cons x xs ih => rw [List.map_cons, ih]; rfl
/-! comprehensions: one turn -/
section
variable {α β : Type} {enc : β → V} {f : α → β} {ns : List α} {i : Nat} {y : α}
theorem take_next (h : ns[i]? = some y) : ns.take (i + 1) = ns.take i ++ [y] := by rw [List.take_add_one, h]; rfl
theorem lc_l (h : ns[i]? = some y) : HO.lst ((((ns.take i).map f).map enc) ++ [enc (f y)]) = .lst (((ns.take (i + 1)).map f).map enc) := by
  rw [take_next h, List.map_append, List.map_append]; rfl
theorem lc_l_t {p : α → Bool} (h : ns[i]? = some y) (hp : p y = true) : HO.lst (((((ns.take i).filter p).map f).map enc) ++ [enc (f y)]) = .lst ((((ns.take (i + 1)).filter p).map f).map enc) := by
  rw [take_next h, List.filter_append, List.map_append, List.map_append, List.filter_cons_of_pos hp]; rfl
theorem lc_l_f {p : α → Bool} (h : ns[i]? = some y) (hp : p y = false) : HO.lst ((((ns.take i).filter p).map f).map enc) = .lst ((((ns.take (i + 1)).filter p).map f).map enc) := by
  rw [take_next h, List.filter_append, List.filter_cons_of_neg (by rw [hp]; exact Bool.false_ne_true)]; simp
theorem lc_r (f : Nat → β) (i : Nat) : HO.lst ((((List.range i).map f).map enc) ++ [enc (f i)]) = .lst (((List.range (i + 1)).map f).map enc) := by
  rw [List.range_succ, List.map_append, List.map_append]; rfl
theorem lc_r_t {f : Nat → β} {p : Nat → Bool} (hp : p i = true) : HO.lst (((((List.range i).filter p).map f).map enc) ++ [enc (f i)]) = .lst ((((List.range (i + 1)).filter p).map f).map enc) := by
  rw [List.range_succ, List.filter_append, List.map_append, List.map_append, List.filter_cons_of_pos hp]; rfl
theorem lc_r_f {f : Nat → β} {p : Nat → Bool} (hp : p i = false) : HO.lst ((((List.range i).filter p).map f).map enc) = .lst ((((List.range (i + 1)).filter p).map f).map enc) := by
  rw [List.range_succ, List.filter_append, List.filter_cons_of_neg (by rw [hp]; exact Bool.false_ne_true)]; simp
end

/-! whiles by a measure -/
theorem while_m {c : TT} {tb : TS} {D : Ends} {σ : L2.St} {H : Hp} (W : Nat → L2.St → Hp → Prop) (h0 : ∃ m, W m σ H)
    (hs : ∀ m σ H, W m σ H → c σ H fun b H1 => if b = true then ∃ N : L2.St → Hp → Prop, (∀ σ' H', N σ' H' → ∃ m', m' < m ∧ W m' σ' H') ∧ tb { D with nx := N, ct := N, bk := D.nx } σ H1 else D.nx σ H1) : tWhile c tb D σ H := ⟨W, h0, hs⟩

/-! pop(i) -/
theorem popix {n : Nat} {i : Int} (h0 : 0 ≤ i) (h1 : i < (n : Int)) {α β : Type} {f : α → β} {xs : List α} (hn : n = xs.length := by rfl) : seqIndex? i (xs.map f).length = some i.toNat := by
  subst hn; rw [List.length_map]; exact seqIndex_of h0 h1
theorem popat {α : Type} {f : α → V} {xs : List α} {k : Nat} (d : α) (h : k < xs.length) : (xs.map f)[k]? = some (f (xs.getD k d)) := by
  rw [List.getElem?_map, List.getElem?_eq_getElem h]; simp [List.getD, h]
theorem ixDm {α β : Type} {f : α → β} {xs : List α} {i : Int} (h0 : 0 ≤ i) (h1 : i < (xs.length : Int)) : ixN (xs.map f).length i = some i.toNat := by
  rw [List.length_map]; exact ixD h0 h1
theorem atV {xs : List V} {i : Int} (d : V) (h0 : 0 ≤ i) (h1 : i < (xs.length : Int)) : atI xs i = some (xs.getD i.toNat d) := by
  have := atD (f := fun v : V => v) d h0 h1
  rwa [List.map_id'] at this

/-! deep data -/
def dI (xs : List Int) : PyData := .list (xs.map PyData.int)
def dB (xs : List Bool) : PyData := .list (xs.map PyData.bool)
section
variable {K : PySem.W.Frag} {H : Hp} {a : Addr}
theorem dpAll {α : Type} {f : α → V} {g : α → PyData} (h : ∀ x, Dp K H (f x) (g x)) : ∀ xs : List α, DpAll K H (xs.map f) (xs.map g)
  | [] => .nil
  | x :: xs => .cons (h x) (dpAll h xs)
/-- a list, its depth by its items -/
theorem dp_ints {xs : List Int} (h : H a = some (.lst (xs.map V.int))) : Dp K H (.ref a) (dI xs) := .lst (SqL.of h) (dpAll (fun _ => .int _) xs)
theorem dp_bls {xs : List Bool} (h : H a = some (.lst (xs.map V.bl))) : Dp K H (.ref a) (dB xs) := .lst (SqL.of h) (dpAll (fun _ => .bl _) xs)
end
theorem canAll {α : Type} {g : α → PyData} (h : ∀ x, (g x).canLay0 = true) : ∀ xs : List α, PyData.canLayAll0 (xs.map g) = true
  | [] => rfl
  | x :: xs => by
    show ((g x).canLay0 && PyData.canLayAll0 (xs.map g)) = true
    rw [h x, canAll h xs]; rfl
theorem depthAll {α : Type} {g : α → PyData} {n : Nat} (h : ∀ x, (g x).depth ≤ n) : ∀ xs : List α, PyData.depthAll (xs.map g) ≤ n
  | [] => Nat.zero_le _
  | x :: xs => by
    show max (g x).depth (PyData.depthAll (xs.map g)) ≤ n
    have h1 := h x
    have h2 := depthAll h xs
    omega
/-- data of a depth of at most n, without texts -/
structure Okd (n : Nat) (d : PyData) : Prop where
  can : d.canLay0 = true
  dep : d.depth ≤ n
theorem Okd.sh {d : PyData} (h : Okd 9 d) : SeqAt.shaped d = true := by
  unfold SeqAt.shaped; rw [h.can, decide_eq_true (by have := h.dep; omega)]; rfl
theorem Okd.cn {d : PyData} (h : Okd 9 d) : d.canLay0 = true := h.can
section
variable {n : Nat}
theorem okd_ints (xs : List Int) : Okd (n + 1) (dI xs) := ⟨canAll (fun _ => rfl) xs, Nat.succ_le_succ (Nat.le_trans (depthAll (n := 0) (fun _ => Nat.le_refl _) xs) (Nat.zero_le _))⟩
theorem okd_bls (xs : List Bool) : Okd (n + 1) (dB xs) := ⟨canAll (fun _ => rfl) xs, Nat.succ_le_succ (Nat.le_trans (depthAll (n := 0) (fun _ => Nat.le_refl _) xs) (Nat.zero_le _))⟩
theorem okd_int {i : Int} : Okd n (.int i) := ⟨rfl, Nat.zero_le _⟩
theorem okd_bl {b : Bool} : Okd n (.bool b) := ⟨rfl, Nat.zero_le _⟩
theorem okd_non : Okd n .none := ⟨rfl, Nat.zero_le _⟩
theorem okl_nil : Okd (n + 1) (.list []) := ⟨rfl, Nat.succ_le_succ (Nat.zero_le _)⟩
theorem okl_cons {d : PyData} {ds : List PyData} (h : Okd n d) (h' : Okd (n + 1) (.list ds)) : Okd (n + 1) (.list (d :: ds)) := by
  obtain ⟨c, p⟩ := h; obtain ⟨c', p'⟩ := h'
  have e1 : PyData.canLayAll0 ds = true := c'
  have e2 : PyData.depthAll ds + 1 ≤ n + 1 := p'
  refine ⟨?_, ?_⟩
  · show (d.canLay0 && PyData.canLayAll0 ds) = true
    rw [c, e1]; rfl
  · show max d.depth (PyData.depthAll ds) + 1 ≤ n + 1
    omega
theorem okt_nil : Okd (n + 1) (.tuple []) := ⟨rfl, Nat.succ_le_succ (Nat.zero_le _)⟩
theorem okt_cons {d : PyData} {ds : List PyData} (h : Okd n d) (h' : Okd (n + 1) (.tuple ds)) : Okd (n + 1) (.tuple (d :: ds)) := by
  have q := okl_cons h (show Okd (n + 1) (.list ds) from ⟨h'.can, h'.dep⟩)
  exact ⟨q.can, q.dep⟩
end
section
variable {X : Cx}
/-- == of deep data, the answer told -/
def rEqX (K : PySem.W.Frag) : R2 := fun x y H Q => ∃ (d e : PyData) (b : Bool), Dp K H x d ∧ Dp K H y e ∧ SeqAt.shaped d = true ∧ SeqAt.shaped e = true ∧ PyData.eqv d e = b ∧ Q (.bl b) H
def rNeX (K : PySem.W.Frag) : R2 := fun x y H Q => ∃ (d e : PyData) (b : Bool), Dp K H x d ∧ Dp K H y e ∧ SeqAt.shaped d = true ∧ SeqAt.shaped e = true ∧ PyData.eqv d e = b ∧ Q (.bl (!b)) H
theorem op_eqX (hu : X.A.units + 64 < cLine) : OpR X (compareOp .Eq) (rEqX X.K) := by
  intro pins s σ H x y v u Q I rx ry h
  obtain ⟨d, e, b, h1, h2, h3, h4, rfl, q⟩ := h
  exact op_eqD hu pins s σ H x y v u Q I rx ry ⟨d, e, h1, h2, h3, h4, q⟩
theorem op_neX (hu : X.A.units + 64 < cLine) : OpR X (compareOp .NotEq) (rNeX X.K) := by
  intro pins s σ H x y v u Q I rx ry h
  obtain ⟨d, e, b, h1, h2, h3, h4, rfl, q⟩ := h
  exact op_neD hu pins s σ H x y v u Q I rx ry ⟨d, e, h1, h2, h3, h4, q⟩
end
/-- range(0, m, c), c from 1 on -/
theorem rgc_up {m c : Int} {n : Nat} (h0 : -(2 ^ 40) ≤ m) (h1 : m < 2 ^ 40) (hc : 0 < c) (hc' : c < 100000000) (hn : (n : Int) = if 0 < m then (m - 1) / c + 1 else 0) : RgC 0 m c n := by
  have hs : Builtin.Range.rangeSize 0 m c = n := by
    unfold Builtin.Range.rangeSize
    rw [if_pos (by omega), hn, Int.sub_zero]
  refine ⟨by omega, by omega, ?_, hs⟩
  have e2 : 0 < m → 0 ≤ (m - 1) / c := fun h => Int.ediv_nonneg (by omega) (by omega)
  have e3 : 0 < m → (m - 1) / c ≤ m - 1 := fun h => Int.ediv_le_self _ (by omega)
  unfold Builtin.Range.small
  rw [hs, hn]
  generalize (m - 1) / c = q at *
  simp only [Builtin.Range.rangeFitsLong, Bool.and_eq_true, Bool.or_eq_true, decide_eq_true_eq, beq_iff_eq]
  split
  · rename_i hm
    have := e2 hm
    have := e3 hm
    refine ⟨by omega, .inr ?_⟩
    rw [Bool.and_eq_true, decide_eq_true_eq, decide_eq_true_eq]
    omega
  · refine ⟨by omega, .inl rfl⟩
/-- .. with a step of two -/
theorem rgc2 {m : Int} (h0 : 0 ≤ m) (h1 : m < 2 ^ 40) : RgC 0 m 2 (Int.toNat ((m + 1) / 2)) := by
  refine rgc_up (by omega) h1 (by decide) (by decide) ?_
  split <;> omega
theorem rgc3 {m : Int} (h0 : 0 ≤ m) (h1 : m < 2 ^ 40) : RgC 0 m 3 (Int.toNat ((m + 2) / 3)) := by
  refine rgc_up (by omega) h1 (by decide) (by decide) ?_
  split <;> omega
theorem rgc4 {m : Int} (h0 : 0 ≤ m) (h1 : m < 2 ^ 40) : RgC 0 m 4 (Int.toNat ((m + 3) / 4)) := by
  refine rgc_up (by omega) h1 (by decide) (by decide) ?_
  split <;> omega
theorem rgc5 {m : Int} (h0 : 0 ≤ m) (h1 : m < 2 ^ 40) : RgC 0 m 5 (Int.toNat ((m + 4) / 5)) := by
  refine rgc_up (by omega) h1 (by decide) (by decide) ?_
  split <;> omega
theorem eqvAll_map {α : Type} [DecidableEq α] {g : α → PyData} (h : ∀ x y, PyData.eqv (g x) (g y) = decide (x = y)) : ∀ xs ys : List α, PyData.eqvAll (xs.map g) (ys.map g) = decide (xs = ys)
  | [], [] => rfl
  | [], _ :: _ => rfl
  | _ :: _, [] => rfl
  | x :: xs, y :: ys => by
    show (PyData.eqv (g x) (g y) && PyData.eqvAll (xs.map g) (ys.map g)) = _
    rw [h, eqvAll_map h xs ys]
    by_cases e : x = y
    · subst e
      by_cases e' : xs = ys
      · subst e'; simp
      · simp [e']
    · simp [e]
theorem eqv_ints (xs ys : List Int) : PyData.eqv (dI xs) (dI ys) = decide (xs = ys) :=
  eqvAll_map (fun x y => by show (x == y) = _; exact Bool.beq_eq_decide_eq x y) xs ys
theorem eqv_bls (xs ys : List Bool) : PyData.eqv (dB xs) (dB ys) = decide (xs = ys) :=
  eqvAll_map (fun x y => by show (x == y) = _; cases x <;> cases y <;> rfl) xs ys

/-! list.index of an int that is there -/
theorem flat_ints : ∀ xs : List Int, (xs.map V.int).all flatV = true
  | [] => rfl
  | _ :: xs => flat_ints xs
theorem ix_get {xs : List Int} {y : Int} (h : y ∈ xs) : (xs.map V.int)[xs.idxOf y]? = some (V.int y) := by
  rw [List.getElem?_map, List.getElem?_eq_getElem (List.idxOf_lt_length_of_mem h), List.getElem_idxOf]; rfl
theorem ix_eqv {y : Int} : eqV (V.int y) (V.int y) = true := by show (y == y) = true; exact beq_self_eq_true y
theorem ix_first (xs : List Int) (y : Int) : ∀ (m : Nat) (z : V), m < xs.idxOf y → (xs.map V.int)[m]? = some z → eqV z (V.int y) = false := fun m z hm e => by
  rw [List.getElem?_map] at e
  cases h : xs[m]? with
  | none => rw [h] at e; cases e
  | some w =>
    rw [h] at e; cases (Option.some.inj e)
    show (w == y) = false
    have hl := (List.getElem?_eq_some_iff.mp h)
    obtain ⟨hl, rfl⟩ := hl
    have := List.not_of_lt_findIdx (p := (· == y)) (xs := xs) (i := m) hm
    simpa using this

/-! isinstance of any scalar -/
def is_int : V → Bool
  | .int _ => true
  | .bl _ => true
  | _ => false
def is_bool : V → Bool
  | .bl _ => true
  | _ => false
/-- the scalars -/
def sca : V → Bool
  | .non => true
  | .bl _ => true
  | .int _ => true
  | .str z => PyData.strOk z
  | _ => false
def tyName : V → String
  | .non => "NoneType"
  | .bl _ => "bool"
  | .int _ => "int"
  | _ => "str"
theorem tyx_val {K : PySem.W.Frag} {H : Hp} {x : V} (h : sca x = true) : TyX K H x (.type (tyName x)) := by
  cases x with
  | non => exact .base .non
  | bl b => exact .base (.bl b)
  | int i => exact .base (.int i)
  | str z => exact .base (.str z)
  | byt _ => cases h
  | flt _ => cases h
  | ref _ => cases h
  | ty _ => cases h
theorem kit_int {K : PySem.W.Frag} {x : V} (h : sca x = true) : PySem.W.kitOne K (.type (tyName x)) (.type "int") = some (is_int x) := by
  cases x with
  | non => exact kit_ty (show kitB "NoneType" "int" = some false by decide +kernel)
  | bl b => exact kit_ty (show kitB "bool" "int" = some true by decide +kernel)
  | int i => exact kit_ty (show kitB "int" "int" = some true by decide +kernel)
  | str z => exact kit_ty (show kitB "str" "int" = some false by decide +kernel)
  | byt _ => cases h
  | flt _ => cases h
  | ref _ => cases h
  | ty _ => cases h
theorem kit_bool {K : PySem.W.Frag} {x : V} (h : sca x = true) : PySem.W.kitOne K (.type (tyName x)) (.type "bool") = some (is_bool x) := by
  cases x with
  | non => exact kit_ty (show kitB "NoneType" "bool" = some false by decide +kernel)
  | bl b => exact kit_ty (show kitB "bool" "bool" = some true by decide +kernel)
  | int i => exact kit_ty (show kitB "int" "bool" = some false by decide +kernel)
  | str z => exact kit_ty (show kitB "str" "bool" = some false by decide +kernel)
  | byt _ => cases h
  | flt _ => cases h
  | ref _ => cases h
  | ty _ => cases h
/-! lists of scalars -/
def toD : V → PyData
  | .bl b => .bool b
  | .int i => .int i
  | .str z => .str z
  | _ => .none
def dV (xs : List V) : PyData := .list (xs.map toD)
def Sca (xs : List V) : Prop := ∀ v ∈ xs, sca v = true
theorem Sca.nil : Sca [] := fun _ h => nomatch h
theorem Sca.cons {x : V} {xs : List V} (h : sca x = true) (hs : Sca xs) : Sca (x :: xs) := fun v hv => by
  rcases List.mem_cons.mp hv with rfl | hv
  · exact h
  · exact hs v hv
theorem Sca.app {xs ys : List V} (h : Sca xs) (h' : Sca ys) : Sca (xs ++ ys) := fun v hv => by
  rcases List.mem_append.mp hv with hv | hv
  · exact h v hv
  · exact h' v hv
theorem Sca.ints (xs : List Int) : Sca (xs.map V.int) := fun v hv => by
  obtain ⟨x, _, rfl⟩ := List.mem_map.mp hv; rfl
theorem Sca.bls (xs : List Bool) : Sca (xs.map V.bl) := fun v hv => by
  obtain ⟨x, _, rfl⟩ := List.mem_map.mp hv; rfl
theorem Sca.getD {xs : List V} (h : Sca xs) {i : Nat} {d : V} (hi : i < xs.length) : sca (xs.getD i d) = true := h _ (getD_mem hi)
theorem dp_val {K : PySem.W.Frag} {H : Hp} {v : V} (h : sca v = true) : Dp K H v (toD v) := by
  cases v with
  | non => exact .non
  | bl b => exact .bl b
  | int i => exact .int i
  | str z => exact .str z
  | byt _ => cases h
  | flt _ => cases h
  | ref _ => cases h
  | ty _ => cases h
theorem dp_valAll {K : PySem.W.Frag} {H : Hp} : ∀ {xs : List V}, Sca xs → DpAll K H xs (xs.map toD)
  | [], _ => .nil
  | x :: xs, h => .cons (dp_val (h x List.mem_cons_self)) (dp_valAll fun v hv => h v (List.mem_cons_of_mem _ hv))
theorem dp_vals {K : PySem.W.Frag} {H : Hp} {a : Addr} {xs : List V} (h : H a = some (.lst xs)) (hs : Sca xs) : Dp K H (.ref a) (dV xs) := .lst (SqL.of h) (dp_valAll hs)
theorem can_val {v : V} (h : sca v = true) : (toD v).canLay0 = true := by
  cases v with
  | str z => exact h
  | _ => rfl
theorem okd_val {n : Nat} {v : V} (h : sca v = true) : Okd n (toD v) := ⟨can_val h, by cases v <;> exact Nat.zero_le _⟩
theorem okd_vals {n : Nat} {xs : List V} (hs : Sca xs) : Okd (n + 1) (dV xs) := by
  refine ⟨?_, ?_⟩
  · show PyData.canLayAll0 (xs.map toD) = true
    induction xs with
    | nil => rfl
    | cons x xs ih =>
      show ((toD x).canLay0 && PyData.canLayAll0 (xs.map toD)) = true
      rw [can_val (hs x List.mem_cons_self), ih fun v hv => hs v (List.mem_cons_of_mem _ hv)]; rfl
  · exact Nat.succ_le_succ (Nat.le_trans (depthAll (n := 0) (fun v => by cases v <;> exact Nat.zero_le _) xs) (Nat.zero_le _))
end Rc
namespace Rc
open PySem PySem.Spec PyProof.Rows L2 RT
section
variable {prog : Program} {w : World} {A : Around} {E : Value → Shared → Prop} {s : Shared}
abbrev nilO (c : Nat) : Obj := { cls := .type "list", data := .seq #[] c }
/-- list.extend with a list's reversed iterator, into a new list at S -/
theorem rev_extend {it l S : Addr} {items : Array Value} {R : Result → Shared → Prop} {res : Value} {c0 : Nat} (hh : A.handled = none) (hit : s.heap.IsRevIter it l ((items.size : Int) - 1)) (hl : s.heap.IsList l items) (hne : l ≠ it)
    (hSi : S ≠ it) (hSl : S ≠ l) (hS : s.heap.get? S = some (nilO c0)) (hn : items.size ≤ sizeLine)
    (hR : ∀ h' tk acc c', (∀ b o, b ≠ S → b ≠ it → s.heap.get? b = some o → h'.get? b = some o) → h'.get? S = some { cls := .type "list", dict := none, data := .seq acc c', slots := #[] } →
      ItemsOf (fun i v => items[items.size - 1 - i]? = some v) acc items.size → R (.ok (.ret res)) { s with heap := h', toks := tk }) :
    wpAny (model prog w) A.in1 (Builtin.List.listExtendWith (.ref S) (.ref it) res)
      (fun fin z => match fin with | .done f => R (.ok f) z | .again c => c.quiet = true ∧ codeAny (model prog w) A c R z) (fun e z => R (.error e) z) s := by
  have W := (Walks.listRev (prog := prog) (w := w) (A := A.in1) hh it l hne items).toS
  have hf : S ∉ [it, l] := fun z => by
    rcases List.mem_cons.mp z with z | z
    · exact hSi z
    · exact hSl (List.mem_singleton.mp z)
  have ty : s.TypeIs (.ref it) "list_reverseiterator" := hit.typeIs
  have h1 : Builtin.List.listSameRef (.ref S) (.ref it) = false := by simp [Builtin.List.listSameRef, hSi]
  have h2 : (Value.type "list_reverseiterator" == Value.type "list") = false := by decide
  have h3 : (Value.type "list_reverseiterator" == Value.type "tuple") = false := by decide
  unfold Builtin.List.listExtendWith
  refine wpAny_bind (wpAny_typeOf ty ?_)
  simp only [h1, h2, h3, Bool.or_false, Bool.false_eq_true, if_false]
  refine wpAny_bind (wpAny_pyIter_revIter hit ?_)
  refine wpAny_bind (wpAny_holding ?_); unfold Builtin.List.listLengthHint
  refine wpAny_bind (wpAny_specialOf ty nolen_lri ?_)
  show wpAny _ A.in1 (specialOf (Value.ref it) (Str.ofString "__length_hint__") >>= _) _ _ _
  refine wpAny_bind (wpAny_specialOf ty hint_lri ?_)
  generalize hid : ("list_reverseiterator.__length_hint__" : String) = id0
  wp_delta
  rw [show splitId id0 = some ("list_reverseiterator", "__length_hint__") from by subst hid; decide +kernel]
  subst hid
  refine wpAny_bind (wpAny_isInstance (b := true) ty (by rw [isSubtype_type]; kernel_rfl) ?_)
  refine wpAny_pure ?_; rw [if_neg (by decide)]
  have e0 : ((items.size : Nat) : Int) - 1 - ((0 : Nat) : Int) = (items.size : Int) - 1 := by omega
  refine wpAny_pure ⟨plainId_quiet F.plain_extend_loop _, codeAny_extend_loopS W hn _ hf _ items.size 0 _ _ _ rfl (Nat.zero_le _) ⟨Nat.zero_le _, by rw [e0]; exact hit, hl⟩ hS (ItemsOf.nil _) fun z acc c' hm hz hacc => ?_⟩
  rw [Moved.eq_with hm]
  refine hR z.heap z.toks acc c' (fun b o h1 h2 e => hm.heap b o (fun hmem => ?_) e) hz hacc
  rcases List.mem_cons.mp hmem with q | q
  · exact h1 q
  · exact h2 (List.mem_singleton.mp q)
theorem call_list_rev {it l : Addr} {items : Array Value} {Q : Value → Shared → Prop} (hh : A.handled = none) (hit : s.heap.IsRevIter it l ((items.size : Int) - 1)) (hl : s.heap.IsList l items) (hne : l ≠ it) (hn : items.size ≤ sizeLine)
    (hQ : ∀ h' tk acc c', (∀ b o, b ≠ it → s.heap.get? b = some o → h'.get? b = some o) → h'.get? s.heap.objs.size = some { cls := .type "list", dict := none, data := .seq acc c', slots := #[] } →
      ItemsOf (fun i v => items[items.size - 1 - i]? = some v) acc items.size → Q (.ref s.heap.objs.size) { s with heap := h', toks := tk }) :
    wpAny (model prog w) A (call (.type "list") [.ref it]) Q E s := by
  refine callType_codes (Q₁ := fun obj z => obj = .ref s.heap.objs.size ∧ z = { s with heap := s.heap.push (nilO 0) }) F.called_list (F.typeCall_list_1 _) F.entry_list_init
    (code_list_new _ ⟨rfl, rfl⟩) fun obj z hz => ?_
  obtain ⟨rfl, rfl⟩ := hz
  obtain ⟨oi, hoi, _⟩ := id hit
  obtain ⟨ol, hol, _⟩ := id hl
  have hS : (s.heap.push (nilO 0)).get? s.heap.objs.size = some (nilO 0) := Heap.get?_push_size _ rfl
  have ni : s.heap.objs.size ≠ it := Nat.ne_of_gt (Heap.lt_size hoi)
  have nl : s.heap.objs.size ≠ l := Nat.ne_of_gt (Heap.lt_size hol)
  refine ⟨⟨_, hS, rfl⟩, F.args_list_init_2 _ _, ?_⟩
  show wpAny _ A.in1.in1 (do let old ← Builtin.List.listItems (.ref s.heap.objs.size); Builtin.List.listUpdate (.ref s.heap.objs.size) (fun _ => #[]); letGo old.toList.reverse; Builtin.List.listExtendWith (.ref s.heap.objs.size) (.ref it) .none) _ _ _
  refine wpAny_bind ?_; unfold Builtin.List.listItems
  refine wpAny_bind (wpAny_seqItems hS rfl (wpAny_pure ?_))
  show wpAny _ _ (updateSeq s.heap.objs.size (fun _ => #[]) >>= fun _ => letGo (#[] : Array Value).toList.reverse >>= fun _ => Builtin.List.listExtendWith (.ref s.heap.objs.size) (.ref it) .none) _ _ _
  refine wpAny_bind (wpAny_updateSeq hS rfl ?_)
  have hS2 := Heap.get?_update_self (Obj.mapSeq (fun _ => (#[] : Array Value))) hS rfl
  have oth : ∀ b o, b ≠ s.heap.objs.size → s.heap.get? b = some o → ((s.heap.push (nilO 0)).update s.heap.objs.size (Obj.mapSeq (fun _ => (#[] : Array Value)))).get? b = some o :=
    fun b o hb e => (Heap.get?_update_other _ _ (Ne.symm hb)).trans (Heap.get?_push_of_some _ e)
  refine wpAny_bind (wpAny_letGo ?_)
  refine rev_extend (A := A.in1) (s := { s with heap := _ }) hh (hit.at fun o e => oth _ _ ni.symm e) (hl.at fun o e => oth _ _ nl.symm e) hne ni nl hS2 hn fun h' tk acc c' hk hz hacc => ⟨rfl, ?_⟩
  exact hQ h' tk acc c' (fun b o hb e => hk b o (Nat.ne_of_lt (Heap.lt_size e)) hb (oth b o (Nat.ne_of_lt (Heap.lt_size e)) e)) hz hacc
end
section
variable {X : Cx}
/-- list(reversed(x)), x a list: a new list -/
def tListRev (K : PySem.W.Frag) (te : TE) : TE := fun σ H Q => te σ H fun v H1 => ∃ (a : Addr) (xs : List V), v = .ref a ∧ SqL K H1 a xs ∧ ∀ q, H1 q = none → Q (.ref q) (upd H1 q (.lst xs.reverse))
theorem pe_listRev {e : Expr} {te : TE} {p p2 pos pos2 : Pos} (hc : X.calm = true) (hg : Gl X "list") (hm : X.mg "list" = none) (hg2 : Gl X "reversed") (hm2 : X.mg "reversed" = none) (he : PE X e te)
    (hs : starEach [e] X.env = (false, eval e X.env) :: starEach [] X.env := by rfl)
    (hs2 : starEach [.Call (.Name "reversed" p2) [e] [] pos2] X.env = (false, eval (.Call (.Name "reversed" p2) [e] [] pos2) X.env) :: starEach [] X.env := by rfl) :
    PE X (.Call (.Name "list" p) [.Call (.Name "reversed" p2) [e] [] pos2] [] pos) (tListRev X.K te) := by
  refine ⟨fun pins s σ H Q I h => Call_ (ld_blt I hg hm (show bootBuiltins ("list" : Str) = some (.type "list") by decide +kernel) (PyProof.Rows.callWith_type1 (args_cons (Call_ (ld_blt I hg2 hm2 PyProof.Rows.boot_reversed (PyProof.Rows.callWith_type1 (args_cons (thn (he.run pins s σ H _ I h) fun u s1 ⟨v, H1, I1, r1, q1⟩ => args_nil ?_) hs) hs rfl))) hs2) hs2 rfl))⟩
  obtain ⟨a, xs, ev, hq, q⟩ := q1
  subst ev; obtain rfl : u = Value.ref a := r1
  obtain ⟨its, rv, pl, hz⟩ := I1.list hq
  refine call_reversed_list pl.isList (args_nil ?_)
  have k0 : ∀ b o, s1.heap.get? b = some o → (s1.heap.push (revObj a ((its.toArray.size : Int) - 1))).get? b = some o := fun b o z => Heap.get?_push_of_some _ z
  have I2 : Inv X pins σ H1 { s1 with heap := s1.heap.push (revObj a ((its.toArray.size : Int) - 1)) } := I1.kept (t' := s1.toks) k0
  have hl := pl.isList
  obtain ⟨ol, hol, _⟩ := id hl
  have hne : a ≠ s1.heap.objs.size := Nat.ne_of_lt (Heap.lt_size hol)
  have hn : its.toArray.size ≤ sizeLine := by rw [List.size_toArray, ← rv.length]; exact hz
  have hf := I1.hok.fresh (Nat.le_refl s1.heap.objs.size)
  refine call_list_rev (s := { s1 with heap := s1.heap.push (revObj a ((its.toArray.size : Int) - 1)) }) (I1.ok.hd hc) ⟨_, Heap.get?_push_size _ rfl, rfl, rfl⟩ (hl.push _) hne hn fun h' tk acc c' hk hS hi => ?_
  have hsz : s1.heap.objs.size ≤ (s1.heap.push (revObj a ((its.toArray.size : Int) - 1))).objs.size := by rw [Heap.size_push]; omega
  have kk : ∀ b o, s1.heap.get? b = some o → h'.get? b = some o := fun b o z => hk b o (Nat.ne_of_lt (Heap.lt_size z)) (k0 b o z)
  refine ⟨.ref (s1.heap.push (revObj a ((its.toArray.size : Int) - 1))).objs.size, upd H1 (s1.heap.push (revObj a ((its.toArray.size : Int) - 1))).objs.size (.lst xs.reverse),
    I1.laid kk hsz (show ObjOk X.prog X.w _ _ _ (.lst xs.reverse) from ⟨by rw [List.length_reverse]; exact hz, acc.toList, c', vals_rev rv hi, ?_⟩), rfl, q _ (I1.hok.fresh hsz)⟩
  rw [Array.toArray_toList]
  exact hS
end
end Rc
namespace Rc
open PySem PySem.Spec PyProof.Rows L2

/-! rows: the lists of a list of lists, at the end of what is own -/
abbrev RI := Addr × List Int
def rowHO (r : RI) : Addr × HO := (r.1, .lst (r.2.map V.int))
def rowsOwn (rows : List RI) : List (Addr × HO) := rows.map rowHO
def rowRef (r : RI) : V := V.ref r.1
section
variable {H0 H H' : Hp} {own pre : List (Addr × HO)} {p : Addr} {o : HO} {rows : List RI}
theorem Fr.rowmem (f : Fr H0 H (pre ++ rowsOwn rows)) {r : RI} (h : r ∈ rows) : H r.1 = some (.lst (r.2.map V.int)) :=
  f.mem (List.mem_append_right _ (List.mem_map.mpr ⟨r, h, rfl⟩))
theorem Fr.rowat (f : Fr H0 H (pre ++ rowsOwn rows)) {i : Nat} (d : RI) (h : i < rows.length) : H (rows.getD i d).1 = some (.lst ((rows.getD i d).2.map V.int)) :=
  f.rowmem (getD_mem h)
/-- the front list becomes a row -/
theorem Fr.rowin {x : List Int} (f : Fr H0 H ((p, .lst (x.map V.int)) :: (pre ++ rowsOwn rows))) : Fr H0 H (pre ++ rowsOwn (rows ++ [(p, x)])) := by
  refine f.perm ?_
  have e : pre ++ rowsOwn (rows ++ [(p, x)]) = (pre ++ rowsOwn rows) ++ [(p, HO.lst (x.map V.int))] := by
    unfold rowsOwn; rw [List.map_append, List.append_assoc]; rfl
  rw [e]
  exact (List.perm_append_singleton _ _).symm
theorem set_sub {α : Type} : ∀ {l : List α} {i : Nat} {z : α}, i < l.length → ∃ l', (l.set i z).Perm (z :: l') ∧ l'.Sublist l
  | [], _, _, h => by simp at h
  | x :: l, 0, z, _ => ⟨l, List.Perm.refl _, List.sublist_cons_self _ _⟩
  | x :: l, i + 1, z, h => by
    obtain ⟨l', h1, h2⟩ := set_sub (l := l) (i := i) (z := z) (by simpa using h)
    exact ⟨x :: l', (h1.cons x).trans (List.Perm.swap _ _ _), h2.cons_cons x⟩
/-- the front list becomes the i-th row -/
theorem Fr.rowset {x : List Int} {i : Nat} (f : Fr H0 H ((p, .lst (x.map V.int)) :: (pre ++ rowsOwn rows))) (h : i < rows.length) : Fr H0 H (pre ++ rowsOwn (rows.set i (p, x))) := by
  obtain ⟨l', h1, h2⟩ := set_sub (z := ((p, x) : RI)) h
  have e1 : (rowsOwn (rows.set i (p, x))).Perm (rowHO (p, x) :: rowsOwn l') := h1.map rowHO
  have g : Fr H0 H ((p, .lst (x.map V.int)) :: (pre ++ rowsOwn l')) := f.sub (List.Sublist.cons_cons _ (List.Sublist.append (List.Sublist.refl _) (h2.map _)))
  refine g.perm ?_
  have e2 : ((p, HO.lst (x.map V.int)) :: (pre ++ rowsOwn l')).Perm (pre ++ ((p, HO.lst (x.map V.int)) :: rowsOwn l')) := List.perm_middle.symm
  exact e2.trans (List.Perm.append_left _ e1.symm)
theorem nodup_split {α β : Type} {f : α → β} {l : List α} {i : Nat} (hn : (l.map f).Nodup) (h : i < l.length) {j : Nat} (hj : j < l.length) (hne : j ≠ i) : f l[j] ≠ f l[i] := by
  intro e
  have h1 : (l.map f)[j]'(by simpa using hj) = (l.map f)[i]'(by simpa using h) := by simpa using e
  exact hne ((List.getElem_inj (h₀ := by simpa using hj) (h₁ := by simpa using h) hn).mp h1)
/-- a row is written -/
theorem Fr.rowwr {i : Nat} {y : List Int} (f : Fr H0 H (pre ++ rowsOwn rows)) (h : i < rows.length) : Fr H0 (upd H rows[i].1 (.lst (y.map V.int))) (pre ++ rowsOwn (rows.set i (rows[i].1, y))) := by
  obtain ⟨l', h1, h2⟩ := set_sub (z := ((rows[i].1, y) : RI)) h
  obtain ⟨l2, h3, h4⟩ := set_sub (z := rows[i]) h
  rw [List.set_getElem_self] at h3
  have hlen : l'.Perm l2 := by
    have a1 : (rows.set i (rows[i].1, y)).Perm ((rows[i].1, y) :: rows.eraseIdx i) := set_er h
    have a2 : rows.Perm (rows[i] :: rows.eraseIdx i) := by
      have := set_er (l := rows) (z := rows[i]) h
      rwa [List.set_getElem_self] at this
    exact ((List.perm_cons _).mp (h1.symm.trans a1)).trans ((List.perm_cons _).mp (h3.symm.trans a2)).symm
  have e0 : (pre ++ rowsOwn rows).Perm (rowHO rows[i] :: (pre ++ rowsOwn l')) :=
    (List.Perm.append_left _ ((h3.trans (hlen.symm.cons _)).map rowHO)).trans List.perm_middle
  have g := (f.perm e0 : Fr H0 H ((rows[i].1, .lst (rows[i].2.map V.int)) :: (pre ++ rowsOwn l')))
  refine (Fr.wr (o' := .lst (y.map V.int)) g).perm ?_
  have e1 : (rowsOwn (rows.set i (rows[i].1, y))).Perm (rowHO (rows[i].1, y) :: rowsOwn l') := h1.map rowHO
  exact List.perm_middle.symm.trans (List.Perm.append_left _ e1.symm)
where
  set_er {α : Type} : ∀ {l : List α} {i : Nat} {z : α}, i < l.length → (l.set i z).Perm (z :: l.eraseIdx i)
  | [], _, _, h => by simp at h
  | x :: l, 0, z, _ => List.Perm.refl _
  | x :: l, i + 1, z, h => by
    have := set_er (l := l) (i := i) (z := z) (by simpa using h)
    exact (this.cons x).trans (List.Perm.swap _ _ _)
theorem Fr.rowsrev (f : Fr H0 H (pre ++ rowsOwn rows)) : Fr H0 H (pre ++ rowsOwn rows.reverse) := by
  refine f.perm (List.Perm.append_left _ ?_)
  unfold rowsOwn; rw [List.map_reverse]
  exact (List.reverse_perm _).symm
theorem atLastD {α : Type} {f : α → V} {xs : List α} (d : α) (h : 0 < xs.length) : atI (xs.map f) (-1) = some (f (xs.getD (xs.length - 1) d)) := by
  have e : xs.getLastD d = xs.getD (xs.length - 1) d := by
    rw [List.getLastD_eq_getLast?, List.getLast?_eq_getElem?, List.getD_eq_getElem?_getD]
  rw [← e]; exact atLast d h
theorem Fr.rowwrD {i : Nat} {y : List Int} {o' : HO} (d : RI) (f : Fr H0 H (pre ++ rowsOwn rows)) (h : i < rows.length) (eo : o' = .lst (y.map V.int)) : Fr H0 (upd H (rows.getD i d).1 o') (pre ++ rowsOwn (rows.set i ((rows.getD i d).1, y))) := by
  subst eo
  have e : rows.getD i d = rows[i] := by rw [List.getD_eq_getElem?_getD, List.getElem?_eq_getElem h]; rfl
  rw [e]; exact f.rowwr h
theorem rowRef_set (rows : List RI) (i : Nat) (d : RI) (y : List Int) : List.map rowRef rows = List.map rowRef (rows.set i ((rows.getD i d).1, y)) := by
  apply List.ext_getElem?
  intro j
  by_cases hj : i = j
  · subst hj
    by_cases hl : i < rows.length
    · simp [hl, rowRef, List.getD_eq_getElem?_getD]
    · simp [hl]
  · simp [hj]
/-- a new list of new lists, from a call -/
theorem Fr.crows (f : Fr H0 H own) (s : Same H H') (h : H p = none) (e : H' p = some o) (hr : ∀ z ∈ rows, H z.1 = none ∧ H' z.1 = some (.lst (z.2.map V.int))) (hn : (p :: rows.map (·.1)).Nodup) :
    Fr H0 H' ((p, o) :: (own ++ rowsOwn rows)) := by
  have g := f.cnew s h e
  refine ⟨g.same, fun z hz => ?_, ?_⟩
  · rcases List.mem_cons.mp hz with rfl | hz
    · exact g.frs _ List.mem_cons_self
    · rcases List.mem_append.mp hz with hz | hz
      · exact g.frs z (List.mem_cons_of_mem _ hz)
      · obtain ⟨r, hr', rfl⟩ := List.mem_map.mp hz
        exact ⟨f.fresh (hr r hr').1, (hr r hr').2⟩
  · rw [List.map_cons, List.map_append]
    have e1 : (rowsOwn rows).map (·.1) = rows.map (·.1) := by unfold rowsOwn; rw [List.map_map]; rfl
    rw [e1]
    have hn' := List.nodup_cons.mp hn
    have gn := List.nodup_cons.mp g.nd
    refine List.nodup_cons.mpr ⟨fun hm => ?_, List.nodup_append.mpr ⟨gn.2, hn'.2, fun a ha b hb hab => ?_⟩⟩
    · rcases List.mem_append.mp hm with hm | hm
      · exact gn.1 hm
      · exact hn'.1 hm
    · subst hab
      obtain ⟨z, hz, rfl⟩ := List.mem_map.mp ha
      obtain ⟨r, hr', e2⟩ := List.mem_map.mp hb
      have := (hr r hr').1
      rw [e2, (f.frs z hz).2] at this
      cases this
/-- what is handed back: outer list and rows -/
theorem Fr.rowsback (f : Fr H0 H ((p, o) :: rowsOwn rows)) : (∀ z ∈ rows, H0 z.1 = none ∧ H z.1 = some (.lst (z.2.map V.int))) ∧ (p :: rows.map (·.1)).Nodup := by
  refine ⟨fun z hz => f.frs (rowHO z) (List.mem_cons_of_mem _ (List.mem_map.mpr ⟨z, hz, rfl⟩)), ?_⟩
  have := f.nd
  rw [List.map_cons] at this
  have e1 : (rowsOwn rows).map (·.1) = rows.map (·.1) := by unfold rowsOwn; rw [List.map_map]; rfl
  rwa [e1] at this
end
/-- rows from outside -/
def Rows (H : Hp) (rows : List RI) : Prop := ∀ r ∈ rows, H r.1 = some (.lst (r.2.map V.int))
theorem Rows.same {H H' : Hp} {rows : List RI} (h : Rows H rows) (s : Same H H') : Rows H' rows := fun r hr => s _ _ (h r hr)
theorem Rows.at {H : Hp} {rows : List RI} (h : Rows H rows) {i : Nat} (d : RI) (hi : i < rows.length) : H (rows.getD i d).1 = some (.lst ((rows.getD i d).2.map V.int)) := h _ (getD_mem hi)
theorem rows_nil {H : Hp} : Rows H [] := fun _ h => nomatch h
theorem rows_cons {H : Hp} {a : Addr} {x : List Int} {rows : List RI} (h : H a = some (.lst (x.map V.int))) (hr : Rows H rows) : Rows H ((a, x) :: rows) := fun r h' => by
  rcases List.mem_cons.mp h' with rfl | h'
  · exact h
  · exact hr r h'

/-! whole numbers among scalars -/
def wholeV (v : V) : Bool := is_int v && !is_bool v
theorem wholeV_int {v : V} (h : wholeV v = true) : ∃ z, v = V.int z := by
  cases v with
  | int z => exact ⟨z, rfl⟩
  | bl b => cases h
  | _ => cases h
theorem wholeV_of (z : Int) : wholeV (V.int z) = true := rfl
/-- a part of a word for m heaps -/
def wordPart (m : Nat) : V → Bool
  | .int x => decide (0 ≤ x) && decide (x < (m : Int))
  | _ => false
theorem wordPart_no {m : Nat} {v : V} (h : wholeV v = false) : wordPart m v = false := by
  cases v with
  | int z => cases h
  | _ => rfl
theorem wp_no {m : Nat} {v : V} (h : wholeV v = false) : V.bl false = V.bl (wordPart m v) := by rw [wordPart_no h]
theorem wp_f1 {m : Nat} {z : Int} (h : ¬ 0 ≤ z) : V.bl false = V.bl (wordPart m (V.int z)) := by show V.bl false = V.bl (decide (0 ≤ z) && decide (z < (m : Int))); rw [decide_eq_false h]; rfl
theorem wp_f2 {m : Nat} {z : Int} (h : ¬ z < (m : Int)) : V.bl false = V.bl (wordPart m (V.int z)) := by show V.bl false = V.bl (decide (0 ≤ z) && decide (z < (m : Int))); rw [decide_eq_false h, Bool.and_false]
theorem wp_t {m : Nat} {z : Int} (h : 0 ≤ z) (h' : z < (m : Int)) : V.bl true = V.bl (wordPart m (V.int z)) := by show V.bl true = V.bl (decide (0 ≤ z) && decide (z < (m : Int))); rw [decide_eq_true h, decide_eq_true h']; rfl
def isWordV (m : Nat) (word : List V) (n : Int) : Bool := decide ((word.length : Int) = n) && word.all (wordPart m)
theorem isWordV_ints {m : Nat} {w : List Int} {n : Int} (h : ∀ x ∈ w, 0 ≤ x ∧ x < m) (hn : (w.length : Int) = n) : isWordV m (w.map V.int) n = true := by
  unfold isWordV
  rw [List.length_map, decide_eq_true hn, Bool.true_and, List.all_eq_true]
  intro v hv
  obtain ⟨x, hx, rfl⟩ := List.mem_map.mp hv
  show (decide (0 ≤ x) && decide (x < (m : Int))) = true
  rw [decide_eq_true (h x hx).1, decide_eq_true (h x hx).2]; rfl
/-- the two parts of a list beside a place -/
theorem cut_lo {α : Type} {xs : List α} {i : Int} (h0 : 0 ≤ i) (h1 : i ≤ xs.length) : cutL xs none (some i) = xs.take i.toNat := by
  obtain ⟨k, rfl⟩ := Int.eq_ofNat_of_zero_le h0
  unfold cutL
  rw [HT.sIx_none, HT.sIx_nat, Int.toNat_natCast, List.drop_zero, Nat.sub_zero, Nat.min_eq_left (by omega)]
theorem cut_hi {α : Type} {xs : List α} {i : Int} (h0 : 0 ≤ i) (h1 : i ≤ xs.length) : cutL xs (some i) none = xs.drop i.toNat := by
  obtain ⟨k, rfl⟩ := Int.eq_ofNat_of_zero_le h0
  unfold cutL
  rw [HT.sIx_none, HT.sIx_nat, Int.toNat_natCast, Nat.min_eq_left (by omega)]
  exact List.take_of_length_le (by rw [List.length_drop]; omega)
theorem cut_mid {α : Type} {xs : List α} {i j : Int} (h0 : 0 ≤ i) (hij : i ≤ j) (h1 : j ≤ xs.length) : cutL xs (some i) (some j) = (xs.drop i.toNat).take (j - i).toNat := by
  obtain ⟨k, rfl⟩ := Int.eq_ofNat_of_zero_le h0
  obtain ⟨l, rfl⟩ := Int.eq_ofNat_of_zero_le (show 0 ≤ j by omega)
  unfold cutL
  rw [HT.sIx_nat, HT.sIx_nat, Int.toNat_natCast, Nat.min_eq_left (by omega), Nat.min_eq_left (by omega)]
  congr 1; omega
theorem cut_erase {α : Type} {xs : List α} {i : Int} (h0 : 0 ≤ i) (h1 : i < xs.length) : cutL xs none (some i) ++ cutL xs (some (i + 1)) none = xs.eraseIdx i.toNat := by
  rw [cut_lo h0 (by omega), cut_hi (by omega) (by omega), show (i + 1).toNat = i.toNat + 1 by omega]
  exact (List.eraseIdx_eq_take_drop_succ _ _).symm
theorem lc_lx {α β : Type} {enc : β → V} {f : α → β} {ns : List α} {i : Nat} {y : α} {v : V} (h : ns[i]? = some y) (e : v = enc (f y)) : HO.lst ((((ns.take i).map f).map enc) ++ [v]) = .lst (((ns.take (i + 1)).map f).map enc) := by
  rw [e]; exact lc_l h
theorem lc_rx {β : Type} {enc : β → V} (f : Nat → β) (i : Nat) {v : V} (e : v = enc (f i)) : HO.lst ((((List.range i).map f).map enc) ++ [v]) = .lst (((List.range (i + 1)).map f).map enc) := by
  rw [e]; exact lc_r f i
theorem cut_one {α : Type} {xs : List α} (h : 0 < xs.length) : cutL xs (some 1) none = xs.drop 1 := cut_hi (by decide) (by omega)
theorem lc_app {β : Type} {enc : β → V} {xs ys : List β} {x : β} (e : xs ++ [x] = ys) : HO.lst (xs.map enc ++ [enc x]) = .lst (ys.map enc) := by
  rw [← e, List.map_append]; rfl
theorem count_filter (w : List Int) (a : Int) : (List.map (fun y : Int => y) (List.filter (fun y : Int => decide (y = a)) w)).length = w.count a := by
  rw [List.length_map, List.count_eq_length_filter]
  congr 1
end Rc
namespace Rc
open PySem PySem.Spec PyProof.Rows L2

/-! list.count of a truth -/
section
variable {X : Cx}
theorem bools_of_vals : ∀ {bs : List Bool} {us : List Value}, Vals (bs.map V.bl) us → us = bs.map Value.bool
  | [], _, h => by cases h; rfl
  | b :: bs, _, h => by
    cases h with
    | cons r rr =>
      cases r
      rw [bools_of_vals rr]; rfl
theorem countP_bools (k : Bool) : ∀ bs : List Bool, (bs.map Value.bool).countP (isBoolOf k) = bs.count k
  | [] => rfl
  | b :: bs => by
    rw [List.map_cons, List.countP_cons, List.count_cons, countP_bools k bs] <;> rfl
def rCntB (K : PySem.W.Frag) : V → List V → Hp → VK → Prop := fun x xs H Q => ∃ (p : Addr) (bs : List Bool) (k : Bool), x = .ref p ∧ xs = [.bl k] ∧ SqL K H p (bs.map V.bl) ∧ Q (.int (bs.count k : Nat)) H
theorem mt_lcountB : MtR X "list.count" (rCntB X.K) := by
  intro pins s σ H x xs v us Q I rx rxs h
  obtain ⟨p, bs, k, rfl, rfl, hs, q⟩ := h
  cases rx
  obtain ⟨u, rfl, ru⟩ := rxs.one
  cases ru
  obtain ⟨its, rv, ⟨⟨cls, dd, data, sl⟩, n, ho, hc, hdn, hd⟩, hlen⟩ := I.list hs
  simp only at hc hd
  subst hc hd
  have ei := bools_of_vals rv
  subst ei
  refine call_meets PySem.F.slot_list_count ⟨_, ho, rfl⟩ PySem.F.entry_list_count (PySem.F.args_list_count_2 _ _)
    (SeqAt.list_countAt p (bs.map Value.bool).toArray n dd sl (.bool k) (isBoolOf k)) ⟨ho, fun y hy => ?_, ?_⟩
  · have hy' : y ∈ bs.map Value.bool := by simpa using hy
    obtain ⟨b, _, rfl⟩ := List.mem_map.mp hy'
    exact SeqAt.EqAt.bool_bool b k
  · refine ⟨.int (bs.count k : Nat), H, I.tok _, ⟨s.toks, ?_⟩, q⟩
    show Value.int (((bs.map Value.bool).toArray.toList.countP (isBoolOf k) : Nat) : Int) s.toks = Value.int ((bs.count k : Nat) : Int) s.toks
    rw [show (bs.map Value.bool).toArray.toList = bs.map Value.bool from rfl, countP_bools]
end

/-! the exception that a suite holds -/
section
variable {X : Cx} {a : Addr} {oe : Obj} {cls : Value} {d : Option Addr}
/-- isinstance(e, c), e the exception that the suite holds: of the class D -/
def rIsP (K : PySem.W.Frag) (a : Addr) (cls : Value) (d : Option Addr) : List V → Hp → VK → Prop := fun xs H Q =>
  ∃ (D : Addr) (c : V) (cv : Value) (b : Bool), cls = .ref D ∧ d = none ∧ ExcC K D ∧ xs = [.ref a, c] ∧ (∀ u, RelV c u → u = cv) ∧ PySem.W.kitOne K (.ref D) cv = some b ∧ Q (.bl b) H
theorem call_isP (hz : Zc cls d oe) (hf : ∃ vs, oe.data = .fields vs) (hp : (a, oe) ∈ X.pn) : CallR X (.builtin "isinstance") (rIsP X.K a cls d) := by
  intro pins s σ H xs us Q I r h
  obtain ⟨D, c, cv, b, rfl, rfl, C, rfl, hcv, e, q⟩ := h
  cases r with
  | cons rx rr =>
    cases rr with
    | cons rt rr =>
      cases rr
      cases rx
      have ec := hcv _ rt
      subst ec
      obtain ⟨hget, _⟩ := I.pin (a, oe) (List.mem_append.mpr (.inl hp))
      obtain ⟨vs, hv⟩ := hf
      have J : PySem.W.InstAt s.heap a oe D none := by
        obtain ⟨oc, od, oda, osl⟩ := oe
        obtain ⟨h1, h2⟩ := hz
        dsimp only at h1 h2 hv
        subst h1 h2 hv
        exact ⟨hget, rfl, rfl, trivial⟩
      exact PySem.W.kia_one (PySem.W.handS_kitx_exc C.hg C.hk C.hs C.hd C.ha C.hn C.ht C.hm) I.kIn J e (fun z => nomatch z) fun tk => ⟨.bl b, H, I.kept (t' := tk) fun _ _ z => z, rfl, q⟩
theorem rel_ref {C : Addr} : ∀ u, RelV (.ref C) u → u = .ref C := fun u h => h
theorem rel_ty {t : String} : ∀ u, RelV (.ty t) u → u = .type t := fun u h => h
end

/-! defs that are called within a suite, with the exception -/
open L2H (RoomH PinOk cxH inv_startH)
/-- p's object is the exception that is handled, of the class D -/
structure HotZ (A : Around) (D : Addr) (p : Addr × Obj) : Prop where
  hd : A.handled = some (.ref p.1)
  cl : Zc (.ref D) none p.2
  dt : ∃ vs, p.2.data = .fields vs
structure FnE (P : Program) (w : World) (K : PySem.W.Frag) (mg : Str → Option Value) (base : Heap) (k : Nat) (f : Addr) (fd : FuncData) (ps : List Str) (sp : Addr → Addr → Sp) : Prop where
  len : ∀ a D vs H Q E, sp a D vs H Q E → vs.length = ps.length
  run : ∀ (A : Around) (outer : List Env) (s : Shared) (H : Hp) (args : Args) (us : List Value) (vs : List V) (Q : VK) (E : XK) (p : Addr × Obj) (D : Addr), RoomH k A → HotZ A D p → PinOk outer H s p → Env0 P w K mg base A outer s H → BindsTo s fd args (ps.zip us) → Vals vs us → sp p.1 D vs H Q E →
    codeAny (model P w) A (.call (.ref f) args) (CR CX0 outer P w H s Q E) s
theorem fn_ofE {P : Program} {w : World} {K : PySem.W.Frag} {mg : Str → Option Value} {base : Heap} {k : Nat} {f : Addr} {name qual : Str} {params : Arguments} {body : List Stmt} {scope : Scope} {dV kV doc pm cdv ct oc : Value} {an od : Option Addr}
    {osl : Array (Option Value)} {N ps : List Str} {sp : Addr → Addr → Sp} (lk : K.lookup f = some ⟨oc, od, .func (PySem.W.fnOf name qual params body scope dV kV doc pm an cdv ct), osl⟩) (hcd : PySem.W.codeIn K cdv qual = true) (S : FnScope N ps scope)
    (len : ∀ a D vs H Q E, sp a D vs H Q E → vs.length = ps.length)
    (hbody : ∀ (A : Around) (outer : List Env) (s : Shared) (H : Hp) (vs : List V) (Q : VK) (E : XK) (p : Addr × Obj) (D : Addr), HotZ A D p → RoomH k (A.deeper (envOfC qual scope s.heap.objs.size f cdv)) → sp p.1 D vs H Q E →
      ∃ t, PSs (cxH CX0 P w K mg base N qual scope f cdv A outer s H E p) body t ∧ t { nx := fun _ H' => Q .non H', rt := Q } (L2.start N vs) H) :
    FnE P w K mg base (k + 1) f (PySem.W.fnOf name qual params body scope dV kV doc pm an cdv ct) ps sp := by
  refine ⟨len, fun A outer s H args us vs Q E p D hr hot hpin e0 hb r hsp => ?_⟩
  have hl := len _ _ _ _ _ _ hsp
  have KX : K.In s.heap := e0.mod.kin.keeps fun b o e => (e0.bs b o e).1
  have lim : s.heap.NoLimit := e0.mod.nolimit.keeps fun b o e => (e0.bs b o e).1
  have hkind : ∀ y ∈ ps.zip us, scope.names.lookup y.1 = some .local ∨ (scope.names.lookup y.1 = some .cell ∧ ((cellsFrom (s.heap.objs.size + 1) scope.names []).lookup y.1).isSome = true) := fun ⟨n, v⟩ hy => by
    rcases S.par n (List.of_mem_zip hy).1 with q | q
    · exact .inl q
    · exact .inr ⟨q, PySem.W.cellsFrom_some _ _ _ (.inl q)⟩
  refine codeAny_call_function hr.depth (KX _ _ lk) rfl S.co S.gen rfl (PySem.W.codeRec_of KX hcd) (hb _ _ _ _ ?_)
  refine wpAny_newFunctionEnv_cells S.kind hkind fun env he s1 x => ?_
  subst he
  refine ⟨lim.keeps x.toInCall.keep, codeAny_func ?_⟩
  obtain ⟨t, ht, hq⟩ := hbody A outer s H vs Q E p D hot (hr.deeper _) hsp
  have I : Inv (cxH CX0 P w K mg base N qual scope f cdv A outer s H E p) [] (L2.start N vs) H s1 := inv_startH S hpin e0 hl r x
  refine wpAny_mono (ht.run [] s1 (L2.start N vs) H _ I hq) (fun fl s' hs => ?_) fun e s' hs => hs
  have fin : ∀ {σ' : L2.St} {H' : Hp} {v : V} {u : Value}, Inv (cxH CX0 P w K mg base N qual scope f cdv A outer s H E p) [] σ' H' s' → RelV v u → Q v H' → CE outer P w H s Q u s' :=
    fun {σ' H' v u} J rv q => ⟨v, H', J.os, J.bare, J.base, J.hok, rv, q⟩
  cases fl with
  | ret u =>
    obtain ⟨v, σ', H', J, rv, q⟩ := hs
    exact fin J rv q
  | next =>
    obtain ⟨σ', H', J, q⟩ := hs
    exact fin (v := V.non) (u := Value.none) J rfl q
  | brk =>
    obtain ⟨_, _, _, q⟩ := hs
    exact False.elim q
  | cont =>
    obtain ⟨_, _, _, q⟩ := hs
    exact False.elim q
section
variable {P : Program} {w : World} {K : PySem.W.Frag} {mg : Str → Option Value} {base : Heap}
/-- as Fun.ok, for a def that a suite calls -/
theorem Fun.okE {x qual : Str} {st : Stmt} {f : Addr} {fd : FuncData} {N ps : List Str} {k : Nat} {sp : Addr → Addr → Sp} (F : Fun K x qual st f fd) (S : FnScope N ps (defScope st)) (len : ∀ a D vs H Q E, sp a D vs H Q E → vs.length = ps.length)
    (hbody : ∀ (cdv : Value) (A : Around) (outer : List Env) (s : Shared) (H : Hp) (vs : List V) (Q : VK) (E : XK) (p : Addr × Obj) (D : Addr), HotZ A D p → RoomH k (A.deeper (envOfC qual (defScope st) s.heap.objs.size f cdv)) → sp p.1 D vs H Q E →
      ∃ t, PSs (cxH CX0 P w K mg base N qual (defScope st) f cdv A outer s H E p) (defBody st) t ∧ t { nx := fun _ H' => Q .non H', rt := Q } (start N vs) H) : FnE P w K mg base (k + 1) f fd ps sp := by
  obtain ⟨oc, od, kV, doc, pm, an, cdv, ct, osl, rfl, lk, hcd⟩ := F.ex
  exact fn_ofE lk hcd S len fun A outer s H vs Q E p D hz hr hsp => hbody cdv A outer s H vs Q E p D hz hr hsp
end
theorem roomS {X : Cx} {k : Nat} {a : Addr} {pn : List (Addr × Obj)} (hr : Room k X.A) : RoomH k (X.suite a pn).A := ⟨hr.dp, hr.un⟩
section
variable {X : Cx} {k : Nat} {f : Addr} {fd : FuncData} {ps : List Str} {sp : Addr → Addr → Sp} {x : Str} {q pos : Pos} {e : Expr} {es : List Expr} {t : TA} {a : Addr} {oe : Obj} {cls : Value} {d : Option Addr} {pn : List (Addr × Obj)}
/-- f(e, ..) within a suite, f asks about the exception -/
def tCallE (a : Addr) (cls : Value) (d : Option Addr) (sp : Addr → Addr → Sp) (t : TA) : TE := fun σ H Q => ∃ D, cls = .ref D ∧ d = none ∧ t σ H fun vs H1 => sp a D vs H1 Q E0
theorem pe_callE (hz : Zc cls d oe) (hf : ∃ vs, oe.data = .fields vs) (F : FnE X.prog X.w X.K X.mg X.base k f fd ps sp) (hr : RoomH k (X.suite a ((a, oe) :: pn)).A) (hg : Gl X x) (hm : X.mg x = some (.ref f)) (hk : PySem.W.keepIn X.K (.ref f) = true) (hb : Binds X.K fd ps [])
    (ha : PA (X.suite a ((a, oe) :: pn)) (e :: es) t) (hdb : (x == ("__debug__" : Str)) = false := by decide) (he : starEach (e :: es) X.env = (false, eval e X.env) :: starEach es X.env := by rfl) (hpl : (backTo pos (starEach es X.env)).any (·.1) = false := by rfl) :
    PE (X.suite a ((a, oe) :: pn)) (.Call (.Name x q) (e :: es) [] pos) (tCallE a cls d sp t) := by
  refine ⟨fun pins s σ H Q I h => ?_⟩
  obtain ⟨D, rfl, rfl, h⟩ := h
  have hg' : Gl (X.suite a ((a, oe) :: pn)) x := hg
  refine wpAny_Call_Name_kw (ld_glob I hg' hm ?_ hdb)
  refine PySem.W.callWith_K (h₀ := X.base) I.ok.mod.kin hk (thn (ha.run pos pins s σ H _ I h) fun us s1 ⟨vs, H1, I1, r, q⟩ => ⟨I1.kIn, ?_⟩) he hpl
  have hl : us.length = ps.length := by rw [← r.length]; exact F.len _ _ _ _ _ _ q
  have b := hb s1 us I1.kIn (by rw [List.append_nil]; exact hl)
  rw [List.append_nil] at b
  have P1 := I1.pin (a, oe) (List.mem_append_left _ List.mem_cons_self)
  have hpin : PinOk X.stack H1 s1 (a, oe) := ⟨P1.1, P1.2.1, fun hm => (List.mem_cons.mp (I1.stkSub a hm)).elim P1.2.2.1 P1.2.2.2.1, P1.2.2.2.2⟩
  refine wpAny_call (codeAny_mono (F.run (X.suite a ((a, oe) :: pn)).A X.stack s1 H1 ⟨us, []⟩ us vs Q E0 (a, oe) D hr ⟨rfl, hz, hf⟩ hpin I1.env0 b r q) fun r s' hq => ?_)
  cases r with
  | error e => exact False.elim hq
  | ok fl =>
    cases fl with
    | ret u => exact I1.after hq
    | next => exact False.elim hq
    | brk => exact False.elim hq
    | cont => exact False.elim hq
end

/-! facts of the top's exception classes -/
/-- an exception class of the program, over ValueError -/
structure ExcT (K : PySem.W.Frag) (mg : Str → Option Value) (n : Str) (C : Addr) : Prop where
  g : mg n = some (.ref C)
  kp : PySem.W.keepIn K (.ref C) = true
  ex : PySem.W.excIn K C [.type "ValueError", .type "Exception", .type "BaseException", .type "object"] "ValueError.__new__" = true
  c : ExcC K C
  ty : PySem.W.typeIn K (.ref C) = some (.type "type")
  ve : PySem.W.subIn K (.ref C) (.type "ValueError") = some true
theorem any_isSome {α : Type} {o : Option α} {p : α → Bool} (h : o.any p = true) : o.isSome = true := by
  cases o with
  | none => cases h
  | some _ => rfl
section
variable {K : PySem.W.Frag} {mg : Str → Option Value} {n : Str} {C D : Addr} {b : Bool}
theorem ExcT.kit (T : ExcT K mg n C) (h : PySem.W.subIn K (.ref D) (.ref C) = some b) (hne : b = false → D ≠ C) : PySem.W.kitOne K (.ref D) (.ref C) = some b := by
  unfold PySem.W.kitOne
  by_cases e : D = C
  · subst e
    rw [if_pos (by simp)]
    cases b with
    | true => rfl
    | false => exact absurd rfl (hne rfl)
  · have e1 : ((Value.ref D) == (Value.ref C)) = false := by
      rw [beq_eq_false_iff_ne]; exact fun z => e (Value.ref.inj z)
    rw [e1, if_neg Bool.false_ne_true]
    unfold PySem.W.kitCls
    have e2 : (PySem.W.clsIn K C).isSome = true := any_isSome T.c.hd
    dsimp only
    rw [e2, T.ty]
    exact h
theorem ExcT.exm (T : ExcT K mg n C) (h : PySem.W.subIn K (.ref D) (.ref C) = some b) : PySem.W.exmOne K (.ref D) (.ref C) = some b := PySem.W.exm_ref T.c.hs T.c.hd T.ty h
theorem ExcT.kve (T : ExcT K mg n C) : PySem.W.kitOne K (.ref C) (.type "ValueError") = some true := by
  unfold PySem.W.kitOne
  rw [show ((Value.ref C) == (Value.type "ValueError")) = false from rfl, if_neg Bool.false_ne_true]
  exact T.ve
end
end Rc
namespace Rc
open PySem PySem.Spec PyProof.Rows L2

/-! tables: lists of objects; an object's content is told by g -/
abbrev RO (β : Type) := Addr × β
def rref {β : Type} (r : RO β) : V := V.ref r.1
def rosOwn {β : Type} (g : β → HO) (rows : List (RO β)) : List (Addr × HO) := rows.map fun r => (r.1, g r.2)
abbrev gI : List Int → HO := fun xs => .lst (xs.map V.int)
abbrev gB : List Bool → HO := fun xs => .lst (xs.map V.bl)
abbrev gV : List V → HO := fun xs => .lst xs
abbrev gVB : V × Bool → HO := fun p => .tup [p.1, V.bl p.2]
abbrev gII : Int × Int → HO := fun p => .tup [V.int p.1, V.int p.2]
section
variable {β : Type} {g : β → HO} {H0 H H' : Hp} {own pre : List (Addr × HO)} {ts : List (List (Addr × HO))} {T : List (Addr × HO)} {p : Addr} {o : HO} {rows : List (RO β)} {C : List β}
theorem flat_pull {α : Type} : ∀ {ts : List (List α)} {k : Nat} {T : List α}, ts[k]? = some T → ts.flatten.Perm (T ++ (ts.eraseIdx k).flatten)
  | [], _, _, h => by simp at h
  | t :: ts, 0, T, h => by cases (Option.some.inj h); exact List.Perm.refl _
  | t :: ts, k + 1, T, h => by
    have ih := flat_pull (ts := ts) (k := k) (T := T) h
    show (t ++ ts.flatten).Perm (T ++ (t ++ (ts.eraseIdx k).flatten))
    refine (List.Perm.append_left t ih).trans ?_
    rw [← List.append_assoc, ← List.append_assoc]
    exact List.Perm.append_right _ List.perm_append_comm
/-- a tail to the front of the tails -/
theorem Fr.tup (f : Fr H0 H (pre ++ ts.flatten)) (k : Nat) (h : ts[k]? = some T) : Fr H0 H (pre ++ (T :: ts.eraseIdx k).flatten) :=
  f.perm (List.Perm.append_left _ (flat_pull h))
/-- a tail is no longer told of -/
theorem Fr.tdrop (f : Fr H0 H (pre ++ ts.flatten)) (k : Nat) (h : ts[k]? = some T) : Fr H0 H (pre ++ (ts.eraseIdx k).flatten) :=
  (f.tup k h).sub (List.Sublist.append (List.Sublist.refl _) (List.sublist_append_right _ _))
theorem Fr.rmem (f : Fr H0 H (pre ++ ts.flatten)) (k : Nat) (h : ts[k]? = some (rosOwn g rows)) {r : RO β} (hr : r ∈ rows) : H r.1 = some (g r.2) := by
  refine f.mem (List.mem_append_right _ (List.mem_flatten.mpr ⟨_, List.mem_of_getElem? h, ?_⟩))
  exact List.mem_map.mpr ⟨r, hr, rfl⟩
/-- an own object becomes a row of a new tail -/
theorem Fr.rnew {x : β} (f : Fr H0 H ((p, g x) :: (pre ++ ts.flatten))) : Fr H0 H (pre ++ (rosOwn g [(p, x)] :: ts).flatten) :=
  f.perm List.perm_middle.symm
/-- an own object becomes the last row of the first tail -/
theorem Fr.radd {x : β} (f : Fr H0 H ((p, g x) :: (pre ++ (rosOwn g rows :: ts).flatten))) : Fr H0 H (pre ++ (rosOwn g (rows ++ [(p, x)]) :: ts).flatten) := by
  refine f.perm ?_
  have e : rosOwn g (rows ++ [(p, x)]) = rosOwn g rows ++ [(p, g x)] := by unfold rosOwn; rw [List.map_append]; rfl
  show ((p, g x) :: (pre ++ (rosOwn g rows ++ ts.flatten))).Perm (pre ++ (rosOwn g (rows ++ [(p, x)]) ++ ts.flatten))
  rw [e]
  refine List.perm_middle.symm.trans (List.Perm.append_left _ ?_)
  rw [List.append_assoc]
  exact List.perm_middle.symm
theorem Fr.rset {x : β} {i : Nat} (f : Fr H0 H ((p, g x) :: (pre ++ (rosOwn g rows :: ts).flatten))) (h : i < rows.length) : Fr H0 H (pre ++ (rosOwn g (rows.set i (p, x)) :: ts).flatten) := by
  obtain ⟨l', h1, h2⟩ := set_sub (z := ((p, x) : RO β)) h
  have e1 : (rosOwn g (rows.set i (p, x))).Perm ((p, g x) :: rosOwn g l') := h1.map _
  have s : List.Sublist ((p, g x) :: (pre ++ (rosOwn g l' ++ ts.flatten))) ((p, g x) :: (pre ++ (rosOwn g rows ++ ts.flatten))) :=
    List.Sublist.cons_cons _ (List.Sublist.append (List.Sublist.refl _) (List.Sublist.append (h2.map _) (List.Sublist.refl _)))
  refine (f.sub s).perm ?_
  refine List.perm_middle.symm.trans (List.Perm.append_left _ ?_)
  exact List.Perm.append_right _ e1.symm
/-- a row is written: own o at p becomes o' -/
theorem Fr.rwr {i : Nat} {y : β} {q : Addr} (f : Fr H0 H (pre ++ (rosOwn g rows :: ts).flatten)) (h : i < rows.length) (hq : q = (rows[i]).1) : Fr H0 (upd H q (g y)) (pre ++ (rosOwn g (rows.set i (q, y)) :: ts).flatten) := by
  subst hq
  obtain ⟨l', h1, h2⟩ := set_sub (z := (((rows[i]).1, y) : RO β)) h
  have p1 : rows.Perm (rows[i] :: rows.eraseIdx i) := by
    have := set_er' (l := rows) (z := rows[i]) h
    rwa [List.set_getElem_self] at this
  have p2 : (rows.set i ((rows[i]).1, y)).Perm (((rows[i]).1, y) :: rows.eraseIdx i) := set_er' h
  have e0 : (pre ++ (rosOwn g rows ++ ts.flatten)).Perm (((rows[i]).1, g (rows[i]).2) :: (pre ++ (rosOwn g (rows.eraseIdx i) ++ ts.flatten))) :=
    (List.Perm.append_left _ (List.Perm.append_right _ (p1.map _))).trans List.perm_middle
  have gg := f.perm e0
  refine (Fr.wr (o' := g y) gg).perm ?_
  have p3 : (rosOwn g (rows.set i ((rows[i]).1, y))).Perm (((rows[i]).1, g y) :: rosOwn g (rows.eraseIdx i)) := p2.map (fun r : RO β => (r.1, g r.2))
  refine List.perm_middle.symm.trans (List.Perm.append_left _ ?_)
  show ((((rows[i]).1, g y) :: rosOwn g (rows.eraseIdx i)) ++ ts.flatten).Perm (rosOwn g (rows.set i ((rows[i]).1, y)) ++ ts.flatten)
  exact List.Perm.append_right _ p3.symm
where
  set_er' {α : Type} : ∀ {l : List α} {i : Nat} {z : α}, i < l.length → (l.set i z).Perm (z :: l.eraseIdx i)
  | [], _, _, h => by simp at h
  | x :: l, 0, z, _ => List.Perm.refl _
  | x :: l, i + 1, z, h => by
    have := set_er' (l := l) (i := i) (z := z) (by simpa using h)
    exact (this.cons x).trans (List.Perm.swap _ _ _)
theorem Fr.rcat {rows' : List (RO β)} (f : Fr H0 H (pre ++ (rosOwn g rows :: rosOwn g rows' :: ts).flatten)) : Fr H0 H (pre ++ (rosOwn g (rows ++ rows') :: ts).flatten) := by
  have e : (rosOwn g rows :: rosOwn g rows' :: ts).flatten = (rosOwn g (rows ++ rows') :: ts).flatten := by
    show rosOwn g rows ++ (rosOwn g rows' ++ ts.flatten) = rosOwn g (rows ++ rows') ++ ts.flatten
    unfold rosOwn; rw [List.map_append, List.append_assoc]
  rw [← e]; exact f
theorem Fr.rrev (f : Fr H0 H (pre ++ (rosOwn g rows :: ts).flatten)) : Fr H0 H (pre ++ (rosOwn g rows.reverse :: ts).flatten) := by
  refine f.perm (List.Perm.append_left _ (List.Perm.append_right _ ?_))
  unfold rosOwn; rw [List.map_reverse]
  exact (List.reverse_perm _).symm

/-! addresses of rows and their contents -/
theorem snd_len (h : rows.map (·.2) = C) : rows.length = C.length := by rw [← h, List.length_map]
theorem snd_at (h : rows.map (·.2) = C) (d : β) (a : Addr) (i : Nat) (hi : i < C.length) : (rows.getD i (a, d)).2 = C.getD i d := by
  subst h
  rw [List.length_map] at hi
  simp [List.getD, hi]
theorem snd_get {i : Nat} {r : RO β} (h : rows.map (·.2) = C) (hr : rows[i]? = some r) : C[i]? = some r.2 := by subst h; rw [List.getElem?_map, hr]; rfl
theorem snd_app {x : β} (h : rows.map (·.2) = C) : (rows ++ [(p, x)]).map (·.2) = C ++ [x] := by rw [List.map_append, h]; rfl
theorem snd_set {x : β} {i : Nat} (h : rows.map (·.2) = C) : (rows.set i (p, x)).map (·.2) = C.set i x := by rw [List.map_set, h]
theorem snd_rev (h : rows.map (·.2) = C) : rows.reverse.map (·.2) = C.reverse := by rw [List.map_reverse, h]
theorem snd_cat {rows' : List (RO β)} {C' : List β} (h : rows.map (·.2) = C) (h' : rows'.map (·.2) = C') : (rows ++ rows').map (·.2) = C ++ C' := by rw [List.map_append, h, h']
theorem rref_set (i : Nat) (d : RO β) (y : β) (hi : i < rows.length) : rows.map rref = (rows.set i ((rows.getD i d).1, y)).map rref := by
  rw [List.map_set]
  show rows.map rref = (rows.map rref).set i (rref (rows.getD i d))
  rw [List.getD_eq_getElem?_getD, List.getElem?_eq_getElem hi]
  apply List.ext_getElem?
  intro j
  by_cases hj : i = j
  · subst hj; simp [hi]
  · simp [hj]
theorem lst_rref_app {x : β} : HO.lst (rows.map rref ++ [V.ref p]) = .lst ((rows ++ [(p, x)]).map rref) := by rw [List.map_append]; rfl
theorem lst_rref_cat {rows' : List (RO β)} : HO.lst (rows.map rref ++ rows'.map rref) = .lst ((rows ++ rows').map rref) := by rw [List.map_append]
theorem lst_rref_set {x : β} {i : Nat} : HO.lst ((rows.map rref).set i (V.ref p)) = .lst ((rows.set i (p, x)).map rref) := by rw [List.map_set]; rfl

/-! a table that stands -/
structure Tab (H : Hp) (g : β → HO) (a : Addr) (C : List β) : Prop where
  ex : ∃ r : List (RO β), r.map (·.2) = C ∧ H a = some (.lst (r.map rref)) ∧ ∀ z ∈ r, H z.1 = some (g z.2)
theorem Tab.same {a : Addr} (t : Tab H g a C) (s : Same H H') : Tab H' g a C := by
  obtain ⟨r, h1, h2, h3⟩ := t.ex
  exact ⟨r, h1, s _ _ h2, fun z hz => s _ _ (h3 z hz)⟩
/-- a new table, from a call -/
structure TabN (H H' : Hp) (g : β → HO) (a : Addr) (r : List (RO β)) (C : List β) : Prop where
  n : H a = none
  e : H' a = some (.lst (r.map rref))
  c : r.map (·.2) = C
  rw : ∀ z ∈ r, H z.1 = none ∧ H' z.1 = some (g z.2)
  nd : (a :: r.map (·.1)).Nodup
theorem Fr.ctab {r : List (RO β)} (f : Fr H0 H (pre ++ ts.flatten)) (s : Same H H') (t : TabN H H' g p r C) : Fr H0 H' (((p, .lst (r.map rref)) :: pre) ++ (rosOwn g r :: ts).flatten) := by
  have gg := f.cnew s t.n t.e
  have h1 : Fr H0 H' ((((p, HO.lst (r.map rref)) :: pre) ++ ts.flatten) ++ rosOwn g r) := by
    refine ⟨gg.same, fun z hz => ?_, ?_⟩
    · rcases List.mem_append.mp hz with hz | hz
      · exact gg.frs z hz
      · obtain ⟨r', hr', rfl⟩ := List.mem_map.mp hz
        exact ⟨f.fresh (t.rw r' hr').1, (t.rw r' hr').2⟩
    · rw [List.map_append]
      have e1 : (rosOwn g r).map (·.1) = r.map (·.1) := by unfold rosOwn; rw [List.map_map]; rfl
      rw [e1]
      have hn' := List.nodup_cons.mp t.nd
      refine List.nodup_append.mpr ⟨gg.nd, hn'.2, fun a ha b hb hab => ?_⟩
      subst hab
      rcases List.mem_cons.mp ha with rfl | ha
      · exact hn'.1 hb
      · obtain ⟨z, hz, rfl⟩ := List.mem_map.mp ha
        obtain ⟨r', hr', e2⟩ := List.mem_map.mp hb
        have := (t.rw r' hr').1
        rw [e2, (f.frs z hz).2] at this
        cases this
  refine h1.perm ?_
  show ((((p, HO.lst (r.map rref)) :: pre) ++ ts.flatten) ++ rosOwn g r).Perm (((p, HO.lst (r.map rref)) :: pre) ++ (rosOwn g r ++ ts.flatten))
  rw [List.append_assoc]
  exact List.Perm.append_left _ List.perm_append_comm
/-- new objects, from a call -/
theorem Fr.comp {new : List (Addr × HO)} (f : Fr H0 H own) (n : Fr H H' new) : Fr H0 H' (new ++ own) := by
  refine ⟨f.same.trans n.same, fun z hz => ?_, ?_⟩
  · rcases List.mem_append.mp hz with hz | hz
    · exact ⟨f.fresh (n.frs z hz).1, (n.frs z hz).2⟩
    · exact ⟨(f.frs z hz).1, n.same _ _ (f.frs z hz).2⟩
  · rw [List.map_append]
    refine List.nodup_append.mpr ⟨n.nd, f.nd, fun a ha b hb hab => ?_⟩
    subst hab
    obtain ⟨z, hz, rfl⟩ := List.mem_map.mp ha
    obtain ⟨y, hy, e⟩ := List.mem_map.mp hb
    have h1 := (n.frs z hz).1
    rw [← e, (f.frs y hy).2] at h1
    cases h1
/-- what is handed back -/
theorem Fr.tabback (f : Fr H0 H ((p, .lst (rows.map rref)) :: (pre ++ (rosOwn g rows :: ts).flatten))) (h : rows.map (·.2) = C) : TabN H0 H g p rows C := by
  have f1 : Fr H0 H ((p, .lst (rows.map rref)) :: rosOwn g rows) :=
    f.sub (List.Sublist.cons_cons _ ((List.sublist_append_left _ _).trans (List.sublist_append_right _ _)))
  refine ⟨f1.n0, f1.at0, h, fun z hz => f1.frs (z.1, g z.2) (List.mem_cons_of_mem _ (List.mem_map.mpr ⟨z, hz, rfl⟩)), ?_⟩
  have := f1.nd
  rw [List.map_cons] at this
  have e1 : (rosOwn g rows).map (·.1) = rows.map (·.1) := by unfold rosOwn; rw [List.map_map]; rfl
  rwa [e1] at this
theorem Fr.tabback0 (f : Fr H0 H ((p, .lst (([] : List (RO β)).map rref)) :: own)) : TabN H0 H g p [] ([] : List β) :=
  ⟨f.n0, f.at0, rfl, (fun _ h => nomatch h), List.nodup_cons.mpr ⟨(fun h => nomatch h), List.nodup_nil⟩⟩
/-- a table by own facts -/
theorem Fr.tab (f : Fr H0 H (pre ++ ts.flatten)) (k j : Nat) (ho : (pre ++ ts.flatten)[k]? = some (p, .lst (rows.map rref))) (h : ts[j]? = some (rosOwn g rows)) (hc : rows.map (·.2) = C) : Tab H g p C :=
  ⟨⟨rows, hc, f.mem (List.mem_of_getElem? ho), fun z hz => f.rmem j h hz⟩⟩
/-- a table by its parts -/
theorem tab_lit {a : Addr} (hr : ∀ z ∈ rows, H z.1 = some (g z.2)) (ha : H a = some (.lst (rows.map rref))) (hc : rows.map (·.2) = C) : Tab H g a C := ⟨⟨rows, hc, ha, hr⟩⟩
theorem ros_nil : ∀ z ∈ ([] : List (RO β)), H z.1 = some (g z.2) := fun _ h => nomatch h
theorem ros_cons {a : Addr} {x : β} (h : H a = some (g x)) (hr : ∀ z ∈ rows, H z.1 = some (g z.2)) : ∀ z ∈ (a, x) :: rows, H z.1 = some (g z.2) := fun z hz => by
  rcases List.mem_cons.mp hz with rfl | hz
  · exact h
  · exact hr z hz
end
/-! rows at a place, casts, unrolled loops -/
section
variable {β : Type} {g : β → HO} {H0 H H' : Hp} {own pre : List (Addr × HO)} {ts : List (List (Addr × HO))} {p : Addr} {o o' : HO} {rows : List (RO β)} {C : List β}
theorem Fr.castk (f : Fr H0 H own) (k : Nat) (h : own[k]? = some (p, o)) (e : o = o') : Fr H0 H (own.set k (p, o')) := by
  subst e
  refine f.perm ?_
  have : own.set k (p, o) = own := by
    apply List.ext_getElem?
    intro j
    by_cases hj : k = j
    · subst hj
      obtain ⟨hl, he⟩ := List.getElem?_eq_some_iff.mp h
      rw [h]; simp [hl]
    · simp [hj]
  rw [this]
theorem ros_at (hr : ∀ z ∈ rows, H z.1 = some (g z.2)) (hc : rows.map (·.2) = C) (d : β) (i : Nat) (hi : i < C.length) : H (rows.getD i (0, d)).1 = some (g (C.getD i d)) := by
  have hl : i < rows.length := by rw [snd_len hc]; exact hi
  have := hr _ (getD_mem (d := ((0, d) : RO β)) hl)
  rwa [snd_at hc d 0 i hi] at this
theorem Fr.rat (f : Fr H0 H (pre ++ ts.flatten)) (k : Nat) (h : ts[k]? = some (rosOwn g rows)) (hc : rows.map (·.2) = C) (d : β) (i : Nat) (hi : i < C.length) : H (rows.getD i (0, d)).1 = some (g (C.getD i d)) :=
  ros_at (fun z hz => f.rmem k h hz) hc d i hi
theorem Fr.rwrD {i : Nat} {y : β} (f : Fr H0 H (pre ++ (rosOwn g rows :: ts).flatten)) (hc : rows.map (·.2) = C) (d : β) (hi : i < C.length) (e : o' = g y) :
    Fr H0 (upd H (rows.getD i (0, d)).1 o') (pre ++ (rosOwn g (rows.set i ((rows.getD i (0, d)).1, y)) :: ts).flatten) := by
  subst e
  have hl : i < rows.length := by rw [snd_len hc]; exact hi
  refine f.rwr hl ?_
  rw [List.getD_eq_getElem?_getD, List.getElem?_eq_getElem hl]; rfl
theorem len_rows (h : rows.map (·.2) = C) : (rows.map rref).length = C.length := by rw [List.length_map]; exact snd_len h
theorem rref_setD (i : Nat) (d y : β) (hc : rows.map (·.2) = C) (hi : i < C.length) : HO.lst (rows.map rref) = .lst ((rows.set i ((rows.getD i (0, d)).1, y)).map rref) :=
  congrArg HO.lst (rref_set i (0, d) y (by rw [snd_len hc]; exact hi))
theorem atRow (hc : rows.map (·.2) = C) (d : β) {i : Int} (h0 : 0 ≤ i) (h1 : i < (C.length : Int)) : atI (rows.map rref) i = some (V.ref (rows.getD i.toNat (0, d)).1) :=
  atD (f := rref) ((0, d) : RO β) h0 (by rw [snd_len hc]; exact h1)
theorem atRowLast (hc : rows.map (·.2) = C) (d : β) (h : 0 < C.length) : atI (rows.map rref) (-1) = some (V.ref (rows.getD (C.length - 1) (0, d)).1) := by
  have := atLastD (f := rref) ((0, d) : RO β) (xs := rows) (by rw [snd_len hc]; exact h)
  rw [snd_len hc] at this
  exact this
theorem ixRow (hc : rows.map (·.2) = C) {i : Int} (h0 : 0 ≤ i) (h1 : i < (C.length : Int)) : ixN (rows.map rref).length i = some i.toNat := ixDm h0 (by rw [snd_len hc]; exact h1)
theorem walkT {K : PySem.W.Frag} {a : Addr} (hc : rows.map (·.2) = C) : Walk (Itl K a) C.length (fun H => H a = some (.lst (rows.map rref))) (fun i H x H' => H' = H ∧ ∃ y : RO β, rows[i]? = some y ∧ C[i]? = some y.2 ∧ x = V.ref y.1) := by
  have w := walkL (K := K) (a := a) rref rows
  rw [snd_len hc] at w
  refine w.mono (fun _ h => h) fun i H x H' _ _ y => ?_
  obtain ⟨e, z, hz, hx⟩ := y
  exact ⟨e, z, hz, snd_get hc hz, hx⟩
theorem mtn {α : Type} {f : α → β} {ns : List α} {i : Nat} {y : α} {x : β} (h : ns[i]? = some y) (e : x = f y) : (ns.take i).map f ++ [x] = (ns.take (i + 1)).map f := by
  rw [take_next h, List.map_append, e]; rfl
theorem mrn {f : Nat → β} {i : Nat} {x : β} (e : x = f i) : (List.range i).map f ++ [x] = (List.range (i + 1)).map f := by
  rw [List.range_succ, List.map_append, e]; rfl
/-- a loop over a list, item by item -/
def unr (K : PySem.W.Frag) (a : Addr) (all : List V) (g : TG) (tb : TS) (D : Ends) : List V → L2.St → Hp → Prop
  | [], σ, H => SqL K H a all ∧ D.nx σ H
  | x :: xs, σ, H => SqL K H a all ∧ g x σ H fun σ2 H2 => tb { D with nx := unr K a all g tb D xs, ct := unr K a all g tb D xs, bk := D.nx } σ2 H2
theorem for_unr {K : PySem.W.Frag} {a : Addr} {g : TG} {tb : TS} {D : Ends} {σ : L2.St} {H : Hp} (all : List V) (h : unr K a all g tb D all σ H) :
    ∃ W : Nat → Nat → L2.St → Hp → Prop, (∃ m, W 0 m σ H) ∧ ∀ i m σ H, W i m σ H →
      ((Itl K a).stop i H ∧ D.nx σ H) ∨ ((Itl K a).go i H ∧ ∃ N : L2.St → Hp → Prop, (∀ σ' H', N σ' H' → ∃ m', m' < m ∧ W (i + 1) m' σ' H') ∧ ∀ x H', (Itl K a).yld i H x H' → g x σ H' fun σ2 H2 => tb { D with nx := N, ct := N, bk := D.nx } σ2 H2) := by
  refine for_it (walk_list (xs := all)) (fun i σ H => unr K a all g tb D (all.drop i) σ H) h (fun i σ H _ p => ?_) (fun i x σ H H' hi p y => ?_) (fun σ H p => ?_)
  · cases e : all.drop i with
    | nil => rw [e] at p; exact p.1
    | cons x xs => rw [e] at p; exact p.1
  · obtain ⟨rfl, hx⟩ := y
    have e : all.drop i = x :: all.drop (i + 1) := by
      rw [List.drop_eq_getElem_cons hi]
      congr 1
      rw [List.getElem?_eq_getElem hi] at hx
      exact Option.some.inj hx
    rw [e] at p
    exact p.2
  · rw [List.drop_length] at p
    exact p.2
end
/-! == of tables -/
section
variable {β : Type} {g : β → HO} {K : PySem.W.Frag} {H : Hp} {a : Addr} {C : List β} {gd : β → PyData}
theorem dp_tab (t : Tab H g a C) (h : ∀ (b : Addr) (x : β), H b = some (g x) → Dp K H (.ref b) (gd x)) : Dp K H (.ref a) (.list (C.map gd)) := by
  obtain ⟨r, hc, ha, hr⟩ := t.ex
  subst hc
  refine .lst (SqL.of ha) ?_
  rw [List.map_map]
  clear ha t
  revert hr
  induction r with
  | nil => intro _; exact .nil
  | cons z r ih => intro hr; exact .cons (h _ _ (hr z List.mem_cons_self)) (ih fun w hw => hr w (List.mem_cons_of_mem _ hw))
theorem okd_tab {n : Nat} (h : ∀ x : β, Okd n (gd x)) : Okd (n + 1) (.list (C.map gd)) :=
  ⟨canAll (fun x => (h x).can) C, Nat.succ_le_succ (depthAll (fun x => (h x).dep) C)⟩
theorem dp_tabI {C : List (List Int)} (t : Tab H gI a C) : Dp K H (.ref a) (.list (C.map dI)) := dp_tab t fun _ _ h => dp_ints h
theorem dp_tabB {C : List (List Bool)} (t : Tab H gB a C) : Dp K H (.ref a) (.list (C.map dB)) := dp_tab t fun _ _ h => dp_bls h
theorem okd_tabI {n : Nat} (C : List (List Int)) : Okd (n + 2) (.list (C.map dI)) := okd_tab fun x => okd_ints x
theorem okd_tabB {n : Nat} (C : List (List Bool)) : Okd (n + 2) (.list (C.map dB)) := okd_tab fun x => okd_bls x
theorem eqv_tabI (C D : List (List Int)) : PyData.eqv (.list (C.map dI)) (.list (D.map dI)) = decide (C = D) := eqvAll_map (fun x y => eqv_ints x y) C D
theorem eqv_tabB (C D : List (List Bool)) : PyData.eqv (.list (C.map dB)) (.list (D.map dB)) = decide (C = D) := eqvAll_map (fun x y => eqv_bls x y) C D
theorem Tab.tov {C : List (List Int)} (t : Tab H gI a C) : Tab H gV a (C.map (List.map V.int)) := by
  obtain ⟨r, hc, ha, hr⟩ := t.ex
  refine ⟨r.map fun z => (z.1, z.2.map V.int), ?_, ?_, fun z hz => ?_⟩
  · rw [← hc, List.map_map, List.map_map]; rfl
  · rw [ha, List.map_map]; rfl
  · obtain ⟨w, hw, rfl⟩ := List.mem_map.mp hz
    exact hr w hw
theorem dp_tabV {C : List (List V)} (t : Tab H gV a C) (hs : ∀ x ∈ C, Sca x) : Dp K H (.ref a) (.list (C.map dV)) := by
  obtain ⟨r, hc, ha, hr⟩ := t.ex
  subst hc
  refine .lst (SqL.of ha) ?_
  rw [List.map_map]
  clear ha t
  revert hr hs
  induction r with
  | nil => intro _ _; exact .nil
  | cons z r ih =>
    intro hr hs
    refine .cons (dp_vals (hr z List.mem_cons_self) (hs z.2 ?_)) (ih (fun w hw => hr w (List.mem_cons_of_mem _ hw)) fun x hx => hs x ?_)
    · rw [List.map_cons]; exact List.mem_cons_self
    · rw [List.map_cons]; exact List.mem_cons_of_mem _ hx
theorem okd_tabV {n : Nat} {C : List (List V)} (hs : ∀ x ∈ C, Sca x) : Okd (n + 2) (.list (C.map dV)) := by
  refine ⟨?_, ?_⟩
  · show PyData.canLayAll0 (C.map dV) = true
    induction C with
    | nil => rfl
    | cons x C ih =>
      show ((dV x).canLay0 && PyData.canLayAll0 (C.map dV)) = true
      have h1 : Okd (n + 1) (dV x) := okd_vals (hs x List.mem_cons_self)
      rw [h1.can, ih fun v hv => hs v (List.mem_cons_of_mem _ hv)]; rfl
  · refine Nat.succ_le_succ (depthAll (n := n + 1) (fun xs => ?_) C)
    exact Nat.succ_le_succ (Nat.le_trans (depthAll (n := 0) (fun v => by cases v <;> exact Nat.zero_le _) xs) (Nat.zero_le _))
theorem eqv_II (a b c d : Int) : PyData.eqv (.tuple [.int a, .int b]) (.tuple [.int c, .int d]) = decide (a = c ∧ b = d) := by
  show ((a == c) && ((b == d) && true)) = _
  by_cases h : a = c
  · by_cases h' : b = d
    · simp [h, h']
    · simp [h']
  · simp [h]
end
end Rc
namespace Rc
open PySem PySem.Spec PyProof.Rows L2
section
variable {X : Cx}
theorem str_dec {i j : Str} : decide (V.str i = V.str j) = decide (i = j) := by
  by_cases h : i = j
  · subst h; rw [decide_eq_true rfl, decide_eq_true rfl]
  · rw [decide_eq_false h, decide_eq_false fun z => h (V.str.inj z)]
theorem op_eqStr : OpR X (compareOp .Eq) (fun x y H Q => ∃ i j : Str, x = .str i ∧ y = .str j ∧ (i = j → Q (.bl true) H) ∧ (¬ i = j → Q (.bl false) H)) := by
  intro pins s σ H x y v u Q I rx ry h
  obtain ⟨i, j, rfl, rfl, q1, q2⟩ := h
  refine op_eq pins s σ H _ _ v u Q I rx ry ⟨rfl, ?_⟩
  rw [str_dec]
  by_cases h : i = j
  · rw [decide_eq_true h]; exact q1 h
  · rw [decide_eq_false h]; exact q2 h
theorem op_neStr : OpR X (compareOp .NotEq) (fun x y H Q => ∃ i j : Str, x = .str i ∧ y = .str j ∧ (¬ i = j → Q (.bl true) H) ∧ (i = j → Q (.bl false) H)) := by
  intro pins s σ H x y v u Q I rx ry h
  obtain ⟨i, j, rfl, rfl, q1, q2⟩ := h
  refine op_ne pins s σ H _ _ v u Q I rx ry ⟨rfl, ?_⟩
  rw [str_dec]
  by_cases h : i = j
  · rw [decide_eq_true h]; exact q2 h
  · rw [decide_eq_false h]; exact q1 h
end
/-! words: parts that are whole -/
def intV : V → Int
  | .int x => x
  | _ => 0
def intsV (w : List V) : List Int := w.map intV
theorem intsV_map (w : List Int) : intsV (w.map V.int) = w := by
  unfold intsV; rw [List.map_map]; exact (List.map_congr_left fun _ _ => rfl).trans (List.map_id w)
theorem wordPart_int {m : Nat} {v : V} (h : wordPart m v = true) : v = V.int (intV v) ∧ 0 ≤ intV v ∧ intV v < (m : Int) := by
  cases v with
  | int z =>
    have h' : (decide (0 ≤ z) && decide (z < (m : Int))) = true := h
    rw [Bool.and_eq_true, decide_eq_true_eq, decide_eq_true_eq] at h'
    exact ⟨rfl, h'⟩
  | _ => cases h
theorem isWordV_ex {m : Nat} {w : List V} {n : Int} (h : isWordV m w n = true) : ∃ u : List Int, w = u.map V.int ∧ (∀ x ∈ u, 0 ≤ x ∧ x < (m : Int)) ∧ (u.length : Int) = n := by
  unfold isWordV at h
  rw [Bool.and_eq_true, decide_eq_true_eq, List.all_eq_true] at h
  refine ⟨intsV w, ?_, fun x hx => ?_, ?_⟩
  · unfold intsV; rw [List.map_map]
    refine (List.map_id w).symm.trans (List.map_congr_left fun v hv => ?_)
    exact (wordPart_int (h.2 v hv)).1
  · obtain ⟨v, hv, rfl⟩ := List.mem_map.mp hx
    exact (wordPart_int (h.2 v hv)).2
  · unfold intsV; rw [List.length_map]; exact h.1
end Rc
namespace Rc
open PySem PySem.Spec PyProof.Rows L2
/-! what is lent to a def that changes it -/
def minus (H : Hp) (as : List Addr) : Hp := fun b => if b ∈ as then none else H b
structure Lent (Hm H : Hp) (fp : List (Addr × HO)) : Prop where
  fr : Fr Hm H fp
  rest : ∀ b x, H b = some x → b ∉ fp.map (·.1) → Hm b = some x
section
variable {H0 H H1 Hm : Hp} {fp rest own' : List (Addr × HO)}
theorem Fr.mn (f : Fr H0 H (fp ++ rest)) : Fr H0 (minus H (fp.map (·.1))) rest := by
  have nd := f.nd
  rw [List.map_append] at nd
  have dis := (List.nodup_append.mp nd).2.2
  refine ⟨fun b x e => ?_, fun z hz => ?_, (List.nodup_append.mp nd).2.1⟩
  · unfold minus
    rw [if_neg]
    · exact f.same _ _ e
    · intro hb
      obtain ⟨z, hz, rfl⟩ := List.mem_map.mp hb
      have := (f.frs z (List.mem_append_left _ hz)).1
      rw [this] at e; cases e
  · refine ⟨(f.frs z (List.mem_append_right _ hz)).1, ?_⟩
    unfold minus
    rw [if_neg]
    · exact (f.frs z (List.mem_append_right _ hz)).2
    · intro hb
      exact dis _ hb _ (List.mem_map.mpr ⟨z, hz, rfl⟩) rfl
theorem Fr.lent (f : Fr H0 H (fp ++ rest)) : Lent (minus H (fp.map (·.1))) H fp := by
  have nd := f.nd
  rw [List.map_append] at nd
  refine ⟨⟨fun b x e => ?_, fun z hz => ⟨?_, (f.frs z (List.mem_append_left _ hz)).2⟩, (List.nodup_append.mp nd).1⟩, fun b x e hb => ?_⟩
  · unfold minus at e
    by_cases hb : b ∈ fp.map (·.1)
    · rw [if_pos hb] at e; cases e
    · rw [if_neg hb] at e; exact e
  · unfold minus; rw [if_pos (List.mem_map.mpr ⟨z, hz, rfl⟩)]
  · unfold minus; rw [if_neg hb]; exact e
theorem Fr.back (f : Fr H0 H (fp ++ rest)) (g : Fr (minus H (fp.map (·.1))) H1 own') : Fr H0 H1 (own' ++ rest) := by
  have m := f.mn
  refine ⟨fun b x e => g.same _ _ (m.same _ _ e), fun z hz => ?_, ?_⟩
  · rcases List.mem_append.mp hz with hz | hz
    · exact ⟨m.same.free (g.frs z hz).1, (g.frs z hz).2⟩
    · exact ⟨(m.frs z hz).1, g.same _ _ (m.frs z hz).2⟩
  · rw [List.map_append]
    refine List.nodup_append.mpr ⟨g.nd, m.nd, fun a ha b hb hab => ?_⟩
    subst hab
    obtain ⟨z, hz, rfl⟩ := List.mem_map.mp ha
    obtain ⟨y, hy, e⟩ := List.mem_map.mp hb
    have h1 := (g.frs z hz).1
    rw [← e, (m.frs y hy).2] at h1
    cases h1
/-- what was lent stands again as it was: all stands -/
theorem Lent.all (l : Lent Hm H fp) (f : Fr Hm H1 (fp ++ rest)) : Same H H1 := fun b x e => by
  by_cases hb : b ∈ fp.map (·.1)
  · obtain ⟨z, hz, rfl⟩ := List.mem_map.mp hb
    rw [(l.fr.frs z hz).2] at e
    cases e
    exact (f.frs z (List.mem_append_left _ hz)).2
  · exact f.same _ _ (l.rest b x e hb)
end
/-! the front of what is told: plain objects, then tails -/
section
variable {H0 H H1 Hm : Hp} {bpre pre bpre' new : List (Addr × HO)} {bts ts bts' : List (List (Addr × HO))}
theorem split_perm {α : Type} (a b : List α) (c d : List (List α)) : ((a ++ b) ++ (c ++ d).flatten).Perm ((a ++ c.flatten) ++ (b ++ d.flatten)) := by
  rw [List.flatten_append, List.append_assoc, List.append_assoc]
  refine List.Perm.append_left _ ?_
  rw [← List.append_assoc, ← List.append_assoc]
  exact List.Perm.append_right _ List.perm_append_comm
theorem Fr.split (f : Fr H0 H ((bpre ++ pre) ++ (bts ++ ts).flatten)) : Fr H0 H ((bpre ++ bts.flatten) ++ (pre ++ ts.flatten)) := f.perm (split_perm _ _ _ _)
theorem Fr.back2 (f : Fr H0 H ((bpre ++ bts.flatten) ++ (pre ++ ts.flatten))) (g : Fr (minus H ((bpre ++ bts.flatten).map (·.1))) H1 (bpre' ++ bts'.flatten)) : Fr H0 H1 ((bpre' ++ pre) ++ (bts' ++ ts).flatten) :=
  (f.back g).perm (split_perm _ _ _ _).symm
/-- new objects of a call that lends nothing -/
theorem Fr.comp2 (f : Fr H0 H (pre ++ ts.flatten)) (g : Fr H H1 (bpre' ++ bts'.flatten)) : Fr H0 H1 ((bpre' ++ pre) ++ (bts' ++ ts).flatten) :=
  (Fr.comp f g).perm (split_perm _ _ _ _).symm
end
theorem permS {α : Type} (X A R : List α) : (X ++ (A ++ R)).Perm (A ++ (X ++ R)) := by
  rw [← List.append_assoc, ← List.append_assoc A X R]; exact List.Perm.append_right _ List.perm_append_comm
/-! a riffle done: its tuple, marks, word -/
structure PE where
  t : Addr
  m : Addr
  w : Addr
  marks : List Bool
  word : List Int
def peRef (e : PE) : V := .ref e.t
def peOwn (e : PE) : List (Addr × HO) := [(e.t, .tup [.ref e.m, .ref e.w]), (e.m, .lst (e.marks.map V.bl)), (e.w, .lst (e.word.map V.int))]
def pesOwn (es : List PE) : List (Addr × HO) := es.flatMap peOwn
abbrev PC := List Bool × List Int
def peC (e : PE) : PC := (e.marks, e.word)
section
variable {H0 H H' H1 : Hp} {own pre : List (Addr × HO)} {ts : List (List (Addr × HO))} {T : List (Addr × HO)} {at_ am aw p : Addr} {marks : List Bool} {word : List Int} {es : List PE} {C : List PC}
theorem pesOwn_app (es es' : List PE) : pesOwn (es ++ es') = pesOwn es ++ pesOwn es' := by unfold pesOwn; rw [List.flatMap_append]
theorem pesOwn_one (e : PE) : pesOwn [e] = peOwn e := by unfold pesOwn; simp
/-- three own objects become the last riffle of the first tail -/
theorem Fr.padd (f : Fr H0 H ((at_, .tup [.ref am, .ref aw]) :: (am, .lst (marks.map V.bl)) :: (aw, .lst (word.map V.int)) :: (pre ++ (pesOwn es :: ts).flatten))) : Fr H0 H (pre ++ (pesOwn (es ++ [⟨at_, am, aw, marks, word⟩]) :: ts).flatten) := by
  refine f.perm ?_
  rw [pesOwn_app, pesOwn_one]
  show (peOwn ⟨at_, am, aw, marks, word⟩ ++ (pre ++ (pesOwn es ++ ts.flatten))).Perm (pre ++ ((pesOwn es ++ peOwn ⟨at_, am, aw, marks, word⟩) ++ ts.flatten))
  generalize peOwn ⟨at_, am, aw, marks, word⟩ = X
  generalize pesOwn es = Y
  rw [List.append_assoc Y X]
  refine (permS X pre _).trans (List.Perm.append_left _ ?_)
  exact permS X Y _
theorem Fr.pnew (f : Fr H0 H (pre ++ ts.flatten)) : Fr H0 H (pre ++ (pesOwn [] :: ts).flatten) := f
/-- the last riffle of the first tail is taken out -/
theorem Fr.ppop (f : Fr H0 H (pre ++ (pesOwn es :: ts).flatten)) (h : es ≠ []) :
    Fr H0 H (((es.getLast h).t, .tup [.ref (es.getLast h).m, .ref (es.getLast h).w]) :: ((es.getLast h).m, .lst ((es.getLast h).marks.map V.bl)) :: ((es.getLast h).w, .lst ((es.getLast h).word.map V.int)) :: (pre ++ (pesOwn es.dropLast :: ts).flatten)) := by
  have e : pesOwn es = pesOwn es.dropLast ++ peOwn (es.getLast h) := by
    rw [← pesOwn_one, ← pesOwn_app, List.dropLast_concat_getLast]
  refine f.perm ?_
  show (pre ++ (pesOwn es ++ ts.flatten)).Perm (peOwn (es.getLast h) ++ (pre ++ (pesOwn es.dropLast ++ ts.flatten)))
  rw [e]
  generalize peOwn (es.getLast h) = X
  generalize pesOwn es.dropLast = Y
  rw [List.append_assoc]
  refine (List.Perm.append_left pre (permS Y X _)).trans ?_
  exact permS pre X _
theorem pes_mem {e : PE} {z : Addr × HO} (he : e ∈ es) (hz : z ∈ peOwn e) : z ∈ pesOwn es := List.mem_flatMap.mpr ⟨e, he, hz⟩
/-- the riffles stand -/
def PesAt (H : Hp) (es : List PE) : Prop := ∀ z ∈ pesOwn es, H z.1 = some z.2
theorem PesAt.same (h : PesAt H es) (s : Same H H') : PesAt H' es := fun z hz => s _ _ (h z hz)
theorem PesAt.t {e : PE} (h : PesAt H es) (he : e ∈ es) : H e.t = some (.tup [.ref e.m, .ref e.w]) := h _ (pes_mem he List.mem_cons_self)
theorem PesAt.m {e : PE} (h : PesAt H es) (he : e ∈ es) : H e.m = some (.lst (e.marks.map V.bl)) := h _ (pes_mem he (List.mem_cons_of_mem _ List.mem_cons_self))
theorem PesAt.w {e : PE} (h : PesAt H es) (he : e ∈ es) : H e.w = some (.lst (e.word.map V.int)) := h _ (pes_mem he (List.mem_cons_of_mem _ (List.mem_cons_of_mem _ List.mem_cons_self)))
theorem Fr.pes (f : Fr H0 H (pre ++ ts.flatten)) (k : Nat) (h : ts[k]? = some (pesOwn es)) : PesAt H es := fun z hz =>
  f.mem (List.mem_append_right _ (List.mem_flatten.mpr ⟨_, List.mem_of_getElem? h, hz⟩))
theorem pc_len (h : es.map peC = C) : es.length = C.length := by rw [← h, List.length_map]
theorem pc_len2 (h : es.map peC = C) : (es.map peRef).length = C.length := by rw [List.length_map, pc_len h]
theorem pc_get {i : Nat} {e : PE} (h : es.map peC = C) (he : es[i]? = some e) : C[i]? = some (e.marks, e.word) := by subst h; rw [List.getElem?_map, he]; rfl
theorem pc_app (h : es.map peC = C) : (es ++ [(⟨at_, am, aw, marks, word⟩ : PE)]).map peC = C ++ [(marks, word)] := by rw [List.map_append, h]; rfl
theorem pc_pop (h : es.map peC = C) : es.dropLast.map peC = C.dropLast := by rw [← h, List.map_dropLast]
theorem pc_last (h : es.map peC = C) (hn : es ≠ []) (d : PC) : ((es.getLast hn).marks, (es.getLast hn).word) = C.getLastD d := by
  subst h
  rw [List.getLastD_eq_getLast?, List.getLast?_map, List.getLast?_eq_some_getLast hn]; rfl
theorem lst_pe_app : HO.lst (es.map peRef ++ [V.ref at_]) = .lst ((es ++ [(⟨at_, am, aw, marks, word⟩ : PE)]).map peRef) := by rw [List.map_append]; rfl
theorem lst_pe_pop : HO.lst ((es.map peRef).dropLast) = .lst (es.dropLast.map peRef) := by rw [List.map_dropLast]
/-- the place of a riffle, by a number -/
def peD (es : List PE) (i : Nat) : PE := es.getD i ⟨0, 0, 0, [], []⟩
theorem peD_mem {i : Nat} (h : i < es.length) : peD es i ∈ es := getD_mem h
theorem pc_at {i : Nat} (h : es.map peC = C) (hi : i < C.length) : (peD es i).marks = (C.getD i ([], [])).1 ∧ (peD es i).word = (C.getD i ([], [])).2 := by
  have hl : i < es.length := by rw [pc_len h]; exact hi
  subst h
  unfold peD
  simp [List.getD, hl, peC]
theorem atPe (h : es.map peC = C) {i : Int} (h0 : 0 ≤ i) (h1 : i < (C.length : Int)) : atI (es.map peRef) i = some (V.ref (peD es i.toNat).t) :=
  atD (f := peRef) ⟨0, 0, 0, [], []⟩ h0 (by rw [pc_len h]; exact h1)
theorem walkP {K : PySem.W.Frag} {a : Addr} (hc : es.map peC = C) : Walk (Itl K a) C.length (fun H => H a = some (.lst (es.map peRef))) (fun i H x H' => H' = H ∧ ∃ y : PE, es[i]? = some y ∧ C[i]? = some (y.marks, y.word) ∧ x = V.ref y.t) := by
  have w := walkL (K := K) (a := a) peRef es
  rw [pc_len hc] at w
  refine w.mono (fun _ h => h) fun i H x H' _ _ y => ?_
  obtain ⟨e, z, hz, hx⟩ := y
  exact ⟨e, z, hz, pc_get hc hz, hx⟩
/-- a pst from a call -/
structure PstAt (H : Hp) (a : Addr) (es : List PE) (C : List PC) : Prop where
  e : H a = some (.lst (es.map peRef))
  r : PesAt H es
  c : es.map peC = C
theorem PstAt.same {a : Addr} (h : PstAt H a es C) (s : Same H H') : PstAt H' a es C := ⟨s _ _ h.e, h.r.same s, h.c⟩
end
/-! a pack -/
def pkF (a b : Addr) : List (Str × V) := putF "past" (.ref b) (putF "cards" (.ref a) [])
theorem pk_ne : ¬ (("cards" : Str) = "past") := by decide +kernel
theorem pkF_eq (a b : Addr) : pkF a b = ([("cards", V.ref a), ("past", V.ref b)] : List (Str × V)) := by
  show (if ("cards" : Str) = "past" then [(("cards" : Str), V.ref b)] else (("cards" : Str), V.ref a) :: putF "past" (V.ref b) []) = _
  rw [if_neg pk_ne]; rfl
theorem pkF_cards (a b : Addr) : (pkF a b).lookup ("cards" : Str) = some (.ref a) := by
  unfold pkF; rw [lookup_putF, if_neg pk_ne, lookup_putF, if_pos rfl]
theorem pkF_past (a b : Addr) : (pkF a b).lookup ("past" : Str) = some (.ref b) := by
  unfold pkF; rw [lookup_putF, if_pos rfl]
theorem pkF_no (a b : Addr) {m : Str} (h1 : ¬ m = "past") (h2 : ¬ m = "cards") : (pkF a b).lookup m = none := by
  unfold pkF; rw [lookup_putF, if_neg h1, lookup_putF, if_neg h2]; rfl
theorem pkF_len (a b : Addr) : (pkF a b).length < 1000 := by rw [pkF_eq]; show 2 < 1000; decide
theorem pkF_put (a b c : Addr) : putF "cards" (.ref c) (pkF a b) = pkF c b := by
  rw [pkF_eq, pkF_eq]
  show (if ("cards" : Str) = "cards" then (("cards" : Str), V.ref c) :: [(("past" : Str), V.ref b)] else _) = _
  rw [if_pos rfl]
structure PK where
  dx : Addr
  a : Addr
  b : Addr
  es : List PE
  order : List Int
def PK.past (k : PK) : List PC := k.es.map peC
theorem pk_past (k : PK) : k.es.map peC = k.past := rfl
def pkOwn (C p : Addr) (k : PK) : List (Addr × HO) := [(p, .ins C k.dx (pkF k.a k.b)), (k.dx, .own p), (k.a, .lst (k.order.map V.int)), (k.b, .lst (k.es.map peRef))] ++ pesOwn k.es
/-- a pack that stands -/
def PkAt (C : Addr) (H : Hp) (p : Addr) (k : PK) : Prop := ∀ z ∈ pkOwn C p k, H z.1 = some z.2
section
variable {H0 H H' H1 : Hp} {pre : List (Addr × HO)} {ts : List (List (Addr × HO))} {C ap : Addr} {k : PK}
theorem PkAt.same (h : PkAt C H ap k) (s : Same H H') : PkAt C H' ap k := fun z hz => s _ _ (h z hz)
theorem PkAt.p (h : PkAt C H ap k) : H ap = some (.ins C k.dx (pkF k.a k.b)) := h _ List.mem_cons_self
theorem PkAt.a (h : PkAt C H ap k) : H k.a = some (.lst (k.order.map V.int)) := h _ (List.mem_cons_of_mem _ (List.mem_cons_of_mem _ List.mem_cons_self))
theorem PkAt.b (h : PkAt C H ap k) : H k.b = some (.lst (k.es.map peRef)) := h _ (List.mem_cons_of_mem _ (List.mem_cons_of_mem _ (List.mem_cons_of_mem _ List.mem_cons_self)))
theorem PkAt.es (h : PkAt C H ap k) : PesAt H k.es := fun z hz => h z (List.mem_append_right _ hz)
theorem PkAt.past (h : PkAt C H ap k) : PstAt H k.b k.es k.past := ⟨h.b, h.es, rfl⟩
theorem Fr.pk (f : Fr H0 H (pre ++ ts.flatten)) (j : Nat) (h : ts[j]? = some (pkOwn C ap k)) : PkAt C H ap k := fun z hz =>
  f.mem (List.mem_append_right _ (List.mem_flatten.mpr ⟨_, List.mem_of_getElem? h, hz⟩))
/-- a lent pack, opened -/
theorem Fr.pkopen (f : Fr H0 H (pre ++ (pkOwn C ap k :: ts).flatten)) :
    Fr H0 H (((ap, .ins C k.dx (pkF k.a k.b)) :: (k.dx, .own ap) :: (k.a, .lst (k.order.map V.int)) :: (k.b, .lst (k.es.map peRef)) :: pre) ++ (pesOwn k.es :: ts).flatten) := by
  refine f.perm ?_
  show (pre ++ ((([(ap, .ins C k.dx (pkF k.a k.b)), (k.dx, .own ap), (k.a, .lst (k.order.map V.int)), (k.b, .lst (k.es.map peRef))] : List (Addr × HO)) ++ pesOwn k.es) ++ ts.flatten)).Perm ((([(ap, .ins C k.dx (pkF k.a k.b)), (k.dx, .own ap), (k.a, .lst (k.order.map V.int)), (k.b, .lst (k.es.map peRef))] : List (Addr × HO)) ++ pre) ++ (pesOwn k.es ++ ts.flatten))
  generalize ([(ap, .ins C k.dx (pkF k.a k.b)), (k.dx, .own ap), (k.a, .lst (k.order.map V.int)), (k.b, .lst (k.es.map peRef))] : List (Addr × HO)) = X
  rw [List.append_assoc X, List.append_assoc X]
  exact permS pre X _
/-- a pack, closed -/
theorem Fr.pkclose {dx a b : Addr} {es : List PE} {order : List Int} (f : Fr H0 H (((ap, .ins C dx (pkF a b)) :: (dx, .own ap) :: (a, .lst (order.map V.int)) :: (b, .lst (es.map peRef)) :: pre) ++ (pesOwn es :: ts).flatten)) :
    Fr H0 H (pre ++ (pkOwn C ap ⟨dx, a, b, es, order⟩ :: ts).flatten) := by
  refine f.perm ?_
  show ((([(ap, .ins C dx (pkF a b)), (dx, .own ap), (a, .lst (order.map V.int)), (b, .lst (es.map peRef))] : List (Addr × HO)) ++ pre) ++ (pesOwn es ++ ts.flatten)).Perm (pre ++ ((([(ap, .ins C dx (pkF a b)), (dx, .own ap), (a, .lst (order.map V.int)), (b, .lst (es.map peRef))] : List (Addr × HO)) ++ pesOwn es) ++ ts.flatten))
  generalize ([(ap, .ins C dx (pkF a b)), (dx, .own ap), (a, .lst (order.map V.int)), (b, .lst (es.map peRef))] : List (Addr × HO)) = X
  rw [List.append_assoc X, List.append_assoc X]
  exact permS X pre _
end
end Rc
namespace Rc
open PySem PySem.Spec PyProof.Rows L2
section
variable {H0 H H1 Hm : Hp} {fp own : List (Addr × HO)} {bpre pre : List (Addr × HO)} {bts ts : List (List (Addr × HO))} {x dx : Addr} {o : HO} {es : List PE} {C : List PC}
theorem Lent.all0 (l : Lent Hm H fp) (f : Fr Hm H1 fp) : Same H H1 := l.all (rest := []) (by rw [List.append_nil]; exact f)
theorem Fr.unsplit (f : Fr H0 H ((bpre ++ bts.flatten) ++ (pre ++ ts.flatten))) : Fr H0 H ((bpre ++ pre) ++ (bts ++ ts).flatten) := f.perm (split_perm _ _ _ _).symm
theorem Fr.made (f : Fr H0 H own) (nx : H x = none) (ndx : H dx = none) (ne : dx ≠ x) : Fr H0 (upd (upd H dx (.own x)) x o) ((x, o) :: (dx, .own x) :: own) :=
  (f.new ndx).new (by rw [upd_ne (fun e => ne e.symm)]; exact nx)
theorem pc_ne (h : es.map peC = C) (hC : 0 < C.length) : es ≠ [] := fun z => by subst z; subst h; exact absurd hC (by decide)
theorem pe_last (h : es ≠ []) : (es.map peRef)[(es.map peRef).length - 1]? = some (V.ref (es.getLast h).t) := by
  rw [List.getElem?_map, List.length_map, ← List.getLast?_eq_getElem?, List.getLast?_eq_some_getLast h]; rfl
end
end Rc
namespace Rc
open PySem PySem.Spec PyProof.Rows L2
section
variable {β : Type} {g : β → HO} {H0 H : Hp} {pre : List (Addr × HO)} {ts : List (List (Addr × HO))} {rows : List (RO β)} {C : List β}
theorem tab_ne (h : rows.map (·.2) = C) (hC : 0 < C.length) : rows ≠ [] := fun z => by subst z; subst h; exact absurd hC (by simp)
theorem tab_last (h : rows ≠ []) : (rows.map rref)[(rows.map rref).length - 1]? = some (V.ref (rows.getLast h).1) := by
  rw [List.getElem?_map, List.length_map, ← List.getLast?_eq_getElem?, List.getLast?_eq_some_getLast h]; rfl
theorem lst_rref_pop : HO.lst ((rows.map rref).dropLast) = .lst (rows.dropLast.map rref) := by rw [List.map_dropLast]
theorem snd_pop (h : rows.map (·.2) = C) : rows.dropLast.map (·.2) = C.dropLast := by rw [← h, List.map_dropLast]
theorem Fr.rpop (f : Fr H0 H (pre ++ (rosOwn g rows :: ts).flatten)) (h : rows ≠ []) : Fr H0 H (((rows.getLast h).1, g (rows.getLast h).2) :: (pre ++ (rosOwn g rows.dropLast :: ts).flatten)) := by
  have e : rosOwn g rows = rosOwn g rows.dropLast ++ [((rows.getLast h).1, g (rows.getLast h).2)] := by
    unfold rosOwn
    conv => lhs; rw [← List.dropLast_concat_getLast h]
    rw [List.map_append]; rfl
  refine f.perm ?_
  show (pre ++ (rosOwn g rows ++ ts.flatten)).Perm (((rows.getLast h).1, g (rows.getLast h).2) :: (pre ++ (rosOwn g rows.dropLast ++ ts.flatten)))
  rw [e]
  generalize rosOwn g rows.dropLast = Y
  generalize ((rows.getLast h).1, g (rows.getLast h).2) = z
  rw [List.append_assoc]
  refine (List.Perm.append_left pre (permS Y [z] _)).trans ?_
  exact permS pre [z] _
theorem tab_getLast (h : rows.map (·.2) = C) (hn : rows ≠ []) (d : β) : (rows.getLast hn).2 = C.getLastD d := by
  subst h
  rw [List.getLastD_eq_getLast?, List.getLast?_map, List.getLast?_eq_some_getLast hn]; rfl
end
end Rc
namespace Rc
open PySem PySem.Spec PyProof.Rows L2
/-- a comprehension over a list, item by item -/
def unrc (K : PySem.W.Frag) (a D : Addr) (all : List V) (g : TG) (tt : TT) (te : TE) (vs : List Nat) (σ : L2.St) (Qd : Hp → Prop) : List V → Hp → Prop
  | [], H => SqL K H a all ∧ Qd H
  | x :: xs, H => SqL K H a all ∧ g x (wipe σ vs) H fun σ2 H2 => wipe σ2 vs = wipe σ vs ∧ tt σ2 H2 fun b H3 =>
      if b = true then te σ2 H3 fun y H4 => ∃ acc, H4 D = some (.lst acc) ∧ acc.length < sizeLine ∧ unrc K a D all g tt te vs σ Qd xs (upd H4 D (.lst (acc ++ [y]))) else unrc K a D all g tt te vs σ Qd xs H3
theorem lc_unr {K : PySem.W.Frag} {a D : Addr} {g : TG} {tt : TT} {te : TE} {vs : List Nat} {σ : L2.St} {H1 : Hp} {Qd : Hp → Prop} (all : List V) (h : unrc K a D all g tt te vs σ Qd all (upd H1 D (.lst []))) :
    ∃ W : Nat → Nat → Hp → Prop, (∃ m, W 0 m (upd H1 D (.lst []))) ∧ ∀ i m H, W i m H →
      ((Itl K a).stop i H ∧ Qd H) ∨ ((Itl K a).go i H ∧ ∃ Nx : Hp → Prop, (∀ H', Nx H' → ∃ m', m' < m ∧ W (i + 1) m' H') ∧ ∀ x H', (Itl K a).yld i H x H' → g x (wipe σ vs) H' fun σ2 H2 => wipe σ2 vs = wipe σ vs ∧ tt σ2 H2 fun b H3 =>
        if b = true then te σ2 H3 fun y H4 => ∃ acc, H4 D = some (.lst acc) ∧ acc.length < sizeLine ∧ Nx (upd H4 D (.lst (acc ++ [y]))) else Nx H3) := by
  refine lc_it (walk_list (xs := all)) (fun i H => unrc K a D all g tt te vs σ Qd (all.drop i) H) h (fun i H _ p => ?_) (fun i x H H' hi p y => ?_) (fun H p => ?_)
  · cases e : all.drop i with
    | nil => rw [e] at p; exact p.1
    | cons x xs => rw [e] at p; exact p.1
  · obtain ⟨rfl, hx⟩ := y
    have e : all.drop i = x :: all.drop (i + 1) := by
      rw [List.drop_eq_getElem_cons hi]
      congr 1
      rw [List.getElem?_eq_getElem hi] at hx
      exact Option.some.inj hx
    rw [e] at p
    exact p.2
  · rw [List.drop_length] at p
    exact p.2
/-! riffles that are scribbled over: no marks, a nine behind the word -/
def scr (e : PE) : PE := { e with marks := [], word := e.word ++ [9] }
def scrTo (es : List PE) (i : Nat) : List PE := (es.take i).map scr ++ es.drop i
section
variable {H0 H : Hp} {pre : List (Addr × HO)} {ts : List (List (Addr × HO))} {es : List PE} {i : Nat} {y : PE}
theorem scrTo_zero : scrTo es 0 = es := by unfold scrTo; rw [List.take_zero, List.map_nil, List.drop_zero]; rfl
theorem scrTo_get (h : es[i]? = some y) : (scrTo es i)[i]? = some y := by
  unfold scrTo
  have hi := (List.getElem?_eq_some_iff.mp h).1
  rw [List.getElem?_append_right (by rw [List.length_map, List.length_take]; omega), List.length_map, List.length_take, List.getElem?_drop]
  rw [show i + (i - min i es.length) = i by omega]; exact h
theorem scrTo_next (h : es[i]? = some y) : (scrTo es i).set i (scr y) = scrTo es (i + 1) := by
  have hi := (List.getElem?_eq_some_iff.mp h).1
  have hy := (List.getElem?_eq_some_iff.mp h).2
  unfold scrTo
  have hl : ((es.take i).map scr).length = i := by rw [List.length_map, List.length_take]; omega
  rw [List.set_append_right _ _ (by omega), hl, Nat.sub_self, List.drop_eq_getElem_cons hi, List.set_cons_zero, take_next h, List.map_append, List.append_assoc]
  rfl
theorem peOwn_split (h : es[i]? = some y) : (pesOwn es).Perm (peOwn y ++ pesOwn (es.eraseIdx i)) := by
  have p1 : es.Perm (y :: es.eraseIdx i) := getElem?_perm h
  unfold pesOwn
  exact (List.Perm.flatMap_right _ p1).trans (by rw [List.flatMap_cons])
theorem set_split {z : PE} (h : i < es.length) : (pesOwn (es.set i z)).Perm (peOwn z ++ pesOwn (es.eraseIdx i)) := by
  have h1 : (es.set i z)[i]? = some z := by simp [h]
  have e : (es.set i z).eraseIdx i = es.eraseIdx i := by
    rw [List.eraseIdx_eq_take_drop_succ, List.eraseIdx_eq_take_drop_succ, List.take_set, List.drop_set]
    rw [if_pos (by omega)]
    rw [List.set_eq_of_length_le (by rw [List.length_take]; omega)]
  have := peOwn_split h1
  rwa [e] at this
theorem Fr.psetm {ms : List Bool} (f : Fr H0 H (pre ++ (pesOwn es :: ts).flatten)) (h : es[i]? = some y) : Fr H0 (upd H y.m (.lst (ms.map V.bl))) (pre ++ (pesOwn (es.set i { y with marks := ms }) :: ts).flatten) := by
  have hi := (List.getElem?_eq_some_iff.mp h).1
  have f1 : Fr H0 H ((y.m, .lst (y.marks.map V.bl)) :: ((y.t, .tup [.ref y.m, .ref y.w]) :: (y.w, .lst (y.word.map V.int)) :: (pre ++ (pesOwn (es.eraseIdx i) ++ ts.flatten)))) := by
    refine f.perm ?_
    show (pre ++ (pesOwn es ++ ts.flatten)).Perm _
    refine (List.Perm.append_left pre (List.Perm.append_right _ (peOwn_split h))).trans ?_
    rw [List.append_assoc]
    refine (permS pre (peOwn y) _).trans ?_
    exact List.Perm.swap _ _ _
  refine (Fr.wr (o' := .lst (ms.map V.bl)) f1).perm ?_
  refine (List.Perm.swap _ _ _).trans ?_
  refine List.Perm.trans ?_ (List.Perm.append_left pre (List.Perm.append_right _ (set_split (z := { y with marks := ms }) hi))).symm
  rw [List.append_assoc]
  exact (permS pre (peOwn { y with marks := ms }) _).symm
theorem Fr.psetw {ws : List Int} (f : Fr H0 H (pre ++ (pesOwn es :: ts).flatten)) (h : es[i]? = some y) : Fr H0 (upd H y.w (.lst (ws.map V.int))) (pre ++ (pesOwn (es.set i { y with word := ws }) :: ts).flatten) := by
  have hi := (List.getElem?_eq_some_iff.mp h).1
  have f1 : Fr H0 H ((y.w, .lst (y.word.map V.int)) :: ((y.t, .tup [.ref y.m, .ref y.w]) :: (y.m, .lst (y.marks.map V.bl)) :: (pre ++ (pesOwn (es.eraseIdx i) ++ ts.flatten)))) := by
    refine f.perm ?_
    show (pre ++ (pesOwn es ++ ts.flatten)).Perm _
    refine (List.Perm.append_left pre (List.Perm.append_right _ (peOwn_split h))).trans ?_
    rw [List.append_assoc]
    refine (permS pre (peOwn y) _).trans ?_
    refine ((List.Perm.swap _ _ _).cons _).trans ?_
    exact List.Perm.swap _ _ _
  refine (Fr.wr (o' := .lst (ws.map V.int)) f1).perm ?_
  refine (List.Perm.swap _ _ _).trans ?_
  refine ((List.Perm.swap _ _ _).cons _).trans ?_
  refine List.Perm.trans ?_ (List.Perm.append_left pre (List.Perm.append_right _ (set_split (z := { y with word := ws }) hi))).symm
  rw [List.append_assoc]
  exact (permS pre (peOwn { y with word := ws }) _).symm
/-- one turn of the scribbling -/
theorem Fr.scr1 (f : Fr H0 H (pre ++ (pesOwn (scrTo es i) :: ts).flatten)) (h : es[i]? = some y) : Fr H0 (upd H y.m (.lst [])) (pre ++ (pesOwn ((scrTo es i).set i { y with marks := [] }) :: ts).flatten) := Fr.psetm (ms := []) f (scrTo_get h)
theorem scr1_get (h : es[i]? = some y) : ((scrTo es i).set i { y with marks := [] })[i]? = some { y with marks := [] } := by
  have hi := (List.getElem?_eq_some_iff.mp (scrTo_get h)).1
  simp [hi]
theorem Fr.scr2 (f : Fr H0 H (pre ++ (pesOwn ((scrTo es i).set i { y with marks := [] }) :: ts).flatten)) (h : es[i]? = some y) : Fr H0 (upd H y.w (.lst ((y.word ++ [9]).map V.int))) (pre ++ (pesOwn (scrTo es (i + 1)) :: ts).flatten) := by
  have e : ((scrTo es i).set i { y with marks := [] }).set i { ({ y with marks := [] } : PE) with word := y.word ++ [9] } = scrTo es (i + 1) := by
    rw [List.set_set, ← scrTo_next h]; rfl
  rw [← e]
  exact Fr.psetw (ws := y.word ++ [9]) f (scr1_get h)
theorem scr_at (f : Fr H0 H (pre ++ (pesOwn (scrTo es i) :: ts).flatten)) (h : es[i]? = some y) : H y.t = some (.tup [.ref y.m, .ref y.w]) ∧ H y.m = some (.lst (y.marks.map V.bl)) :=
  have p := Fr.pes (pre := pre) (ts := pesOwn (scrTo es i) :: ts) f 0 rfl
  ⟨p.t (List.mem_of_getElem? (scrTo_get h)), p.m (List.mem_of_getElem? (scrTo_get h))⟩
theorem scr_aw (f : Fr H0 H (pre ++ (pesOwn ((scrTo es i).set i { y with marks := [] }) :: ts).flatten)) (h : es[i]? = some y) : H y.w = some (.lst (y.word.map V.int)) :=
  PesAt.w (e := { y with marks := [] }) (Fr.pes (pre := pre) (ts := pesOwn ((scrTo es i).set i { y with marks := [] }) :: ts) f 0 rfl) (List.mem_of_getElem? (scr1_get h))
end
end Rc
namespace Rc
open PySem PySem.W PySem.Calls PyProof.Rows
/-! sorted(.., key=f): the call of f may leave new objects and other pending generators; the key may be a list.
J: what is kept of the state; Z: the addresses that nobody tells of -/
/-- the call f(x): what nobody tells of stays, the key is a new object -/
def KeyStay (J : Shared → Prop) (Kp : Addr → Prop) (k : PyData) (s₁ : Shared) (v : Value) (s₂ : Shared) : Prop :=
  J s₂ ∧ (∀ b o, Kp b → s₁.heap.get? b = some o → s₂.heap.get? b = some o) ∧ ∃ p o, v = .ref p ∧ Kp p ∧ s₁.heap.get? p = none ∧ s₂.heap.get? p = some o ∧ ∀ h' : Heap, h'.get? p = some o → ∃ as, Reads h' v k as
structure Keeps (J : Shared → Prop) (Kp Z : Addr → Prop) : Prop where
  zk : ∀ b, Z b → Kp b
  stay : ∀ (s' : Shared) (h : Heap) (tk : Nat) (ch : List Addr), J s' → (∀ c ∈ ch, Z c) → (∀ b o, b ∉ ch → s'.heap.get? b = some o → h.get? b = some o) → J { s' with heap := h, toks := tk }
  fresh : ∀ s', J s' → ∀ b, s'.heap.objs.size ≤ b → Z b
section
variable {prog : Program} {w : World} {A : Around} {E : Value → Shared → Prop} {s : Shared} {a kS : Addr} {b : Bool} {vs : List Value} {keys : Array Value} {e e1 : Nat} {P : PySem.Fin → Shared → Prop} {kz : List PyData} {J : Shared → Prop} {Kp Z : Addr → Prop}
/-- a key as it lies in the heap h -/
def KAt (Kp : Addr → Prop) (kS : Addr) (h : Heap) (v : Value) (k : PyData) : Prop := ∃ p o, v = .ref p ∧ Kp p ∧ p ≠ kS ∧ h.get? p = some o ∧ ∀ h' : Heap, h'.get? p = some o → ∃ as, Reads h' v k as
theorem keyK_rest {f : Value} (KJ : Keeps J Kp Z) (hJ : J s) (zk : Z kS) (za : Z a) (nk : s.heap.get? kS = some (seqObj "list" #[] 0)) (na : s.heap.get? a = some (seqObj "list" #[] e1)) (hka : kS ≠ a)
    (hlen : kz.length = vs.length) (hZ : vs.length ≤ sizeLine) (hal : AllAlike kz) (hsk : Sortable kz) (hu : ∀ d, d ∈ kz → A.units + d.depth < cLine)
    (turn : ∀ (i : Nat) (v : Value) (k : PyData), vs[i]? = some v → kz[i]? = some k → ∀ (s' : Shared), J s' →
      wpAny (model prog w) A (call f [v]) (KeyStay J Kp k s') (fun _ _ => False) s')
    (h : ∀ s' out c, J s' → s'.heap.get? a = some (seqObj "list" (List.toArray out) c) → KeyedOut b kz vs out → P (.done (.ret .none)) s') :
    wpAny (model prog w) A (ksk_rest a f b vs.toArray e1 (.ref kS)) P E s := by
  unfold ksk_rest
  refine wpAny_bind (wpAny_rule ?_)
  first
    | rw [List.forIn_toArray]
    | (rw [← Array.forIn_toList]; simp only [List.toList_toArray])
    | rw [← Array.forIn_toList]
  refine wpAny_bind (ksk_fold (fun i s' => ∃ kA e, J s' ∧ s'.heap.get? kS = some (seqObj "list" kA e) ∧ s'.heap.get? a = some (seqObj "list" #[] e1) ∧ EachIs (KAt Kp kS s'.heap) kA.toList (kz.take i)) vs 0 s
    ⟨#[], 0, hJ, nk, na, by rw [List.take_zero]; exact EachIs.nil⟩ ?step ?done)
  case step =>
    rintro j x s' hx ⟨kA, e, hj', nk', na', hk⟩
    simp only [Nat.zero_add] at hk ⊢
    have hj : j < vs.length := (List.getElem?_eq_some_iff.mp hx).1
    obtain ⟨k, hkj⟩ : ∃ k, kz[j]? = some k := ⟨_, List.getElem?_eq_getElem (by omega)⟩
    have hz : kA.size ≤ vs.length := by
      have h1 := hk.length
      rw [Array.length_toList, List.length_take] at h1
      omega
    refine wpAny_bind (wpAny_attempt (wpAny_mono (turn j x k hx hkj s' hj') (fun v s'' he => ?_) fun _ _ hF => hF.elim))
    obtain ⟨hj2, hg, p, o, rfl, zp, np, ep, hr⟩ := he
    try dsimp only
    have nk2 : s''.heap.get? kS = some (seqObj "list" kA e) := hg _ _ (KJ.zk _ zk) nk'
    have na2 : s''.heap.get? a = some (seqObj "list" #[] e1) := hg _ _ (KJ.zk _ za) na'
    have hpS : p ≠ kS := fun z => by
      rw [z, nk'] at np
      cases np
    have s1 := Heap.SameBut.update s''.heap kS (Obj.mapSeq (·.push (.ref p)))
    obtain ⟨c2, hc2⟩ : ∃ c2, (s''.heap.update kS (Obj.mapSeq (·.push (.ref p)))).get? kS = some (seqObj "list" (kA.push (.ref p)) c2) := ⟨_, get?_update_seq nk2 (·.push (.ref p))⟩
    have ek : kz.take (j + 1) = kz.take j ++ [k] := by rw [List.take_add_one, hkj]; simp
    have ea : (kA.push (.ref p)).toList = kA.toList ++ [.ref p] := by simp
    refine wpAny_bind (listUpdate_at nk2 rfl ?_ (Nat.le_trans hz hZ) (Nat.le_trans (Nat.le_of_eq (Array.size_push ..)) (Nat.succ_le_succ (Nat.le_trans hz hZ))))
    refine wpAny_pure ⟨rfl, kA.push (.ref p), c2, KJ.stay s'' _ s''.toks [kS] hj2 (fun c hc => by rw [List.mem_singleton.mp hc]; exact zk) (fun b o hb q => (s1.2 b fun z => hb (by rw [z]; exact List.mem_singleton.mpr rfl)).trans q), hc2, (s1.2 a hka.symm).trans na2, ?_⟩
    rw [ea, ek]
    refine each_snoc (R := KAt Kp kS (s''.heap.update kS (Obj.mapSeq (·.push (.ref p))))) ⟨p, o, rfl, zp, hpS, (s1.2 p hpS).trans ep, hr⟩ ?_
    exact hk.mono fun u d ⟨p', o', e1', z', n', e2', r'⟩ => ⟨p', o', e1', z', n', (s1.2 p' n').trans (hg _ _ z' e2'), r'⟩
  case done =>
    rintro s' ⟨kA, e, hj', nk', na', hk⟩
    have hk' : EachIs (fun v k => ∃ as, Reads s'.heap v k as) kA.toList kz := by
      have e3 : kz.take (0 + vs.length) = kz := List.take_of_length_le (by omega)
      rw [e3] at hk
      exact hk.mono fun v k ⟨p, o, e1, _, _, e2, r⟩ => r _ e2
    have hsz : kA.size = vs.length := by
      have h1 := hk'.length
      rw [Array.length_toList] at h1
      omega
    try dsimp only
    refine wpAny_bind (listItems_at nk' rfl ?_)
    exact keyH_end (κ := dataKind s'.heap kz) (h₁ := hideAll s'.heap [kS]) (fun b o _ q => of_hideAll _ q) (hideAll_none _ (List.mem_singleton.mpr rfl)) nk' na' hka (SortsAt.data (s := s') hk' hal hsk hu) hsz hZ fun h3 tk3 c k3 n3 =>
      h { s' with heap := h3, toks := tk3 } _ c (KJ.stay s' h3 tk3 [kS, a] hj' (fun c hc => by
        rcases List.mem_cons.mp hc with z | z
        · rw [z]; exact zk
        · rw [List.mem_singleton.mp z]; exact za) (fun b o hb q => k3 b o (fun z => hb (by rw [z]; simp)) (hideAll_get _ q fun z => hb (by rw [List.mem_singleton.mp z]; simp)))) n3 ⟨s'.heap, kA.toList, hal, rfl, hk'⟩
theorem keyK_tree {f : Value} {n : Nat} (KJ : Keeps J Kp Z) (hJ : J s) (za : Z a) (ho : s.heap.get? a = some (seqObj "list" vs.toArray n)) (hlen : kz.length = vs.length) (hZ : vs.length ≤ sizeLine) (hal : AllAlike kz) (hsk : Sortable kz) (hu : ∀ d, d ∈ kz → A.units + d.depth < cLine)
    (turn : ∀ (i : Nat) (v : Value) (k : PyData), vs[i]? = some v → kz[i]? = some k → ∀ (s' : Shared), J s' →
      wpAny (model prog w) A (call f [v]) (KeyStay J Kp k s') (fun _ _ => False) s')
    (h : ∀ s' out c, J s' → s'.heap.get? a = some (seqObj "list" (List.toArray out) c) → KeyedOut b kz vs out → P (.done (.ret .none)) s') :
    wpAny (model prog w) A (ksk_tree a f b) P E s := by
  have ha : a < s.heap.objs.size := Heap.lt_size ho
  obtain ⟨e1, ho1⟩ : ∃ e1, (s.heap.update a (Obj.mapSeq fun _ => (#[] : Array Value))).get? a = some (seqObj "list" #[] e1) := ⟨_, get?_update_seq ho fun _ => #[]⟩
  have hkS : ((s.heap.update a (Obj.mapSeq fun _ => (#[] : Array Value))).push (seqObj "tuple" vs.toArray 0)).objs.size = s.heap.objs.size + 1 := by rw [size_push', Heap.size_update]
  unfold ksk_tree
  refine wpAny_bind (listItems_at ho rfl ?_)
  refine wpAny_bind (listUpdate_at ho rfl ?_ (by rw [List.size_toArray]; exact hZ) (Nat.zero_le _))
  refine wpAny_bind (seqEpoch_at ho1 rfl ?_)
  refine wpAny_bind (wpAny_newTuple ?_ (by show vs.length ≤ _; exact hZ))
  refine wpAny_bind (wpAny_newList ?_ (Nat.zero_le _))
  refine wpAny_holding ?_
  have kp : KeepsBut a s.heap (sortingHeap s.heap a vs) := fun b o hb q => sortingHeap_old hb q
  refine keyK_rest (kz := kz) (s := { s with heap := ((s.heap.update a (Obj.mapSeq fun _ => (#[] : Array Value))).push (seqObj "tuple" vs.toArray 0)).push (seqObj "list" #[] 0) }) (kS := ((s.heap.update a (Obj.mapSeq fun _ => (#[] : Array Value))).push (seqObj "tuple" vs.toArray 0)).objs.size)
    KJ (KJ.stay s _ s.toks [a] hJ (fun c hc => by rw [List.mem_singleton.mp hc]; exact za) (fun b o hb q => kp b o (fun z => hb (by rw [z]; exact List.mem_singleton.mpr rfl)) q)) (KJ.fresh s hJ _ (by rw [hkS]; exact Nat.le_succ _)) za (Heap.get?_push_size _ rfl) (Heap.get?_push_of_some _ (Heap.get?_push_of_some _ ho1)) (by rw [hkS]; exact Nat.ne_of_gt (Nat.lt_succ_of_lt ha)) hlen hZ hal hsk hu turn h
end
section
variable {prog : Program} {w : World} {A : Around} {E : Value → Shared → Prop} {s : Shared} {β : Type} {vs : List Value} {bs : List β} {R : Value → β → Prop} {J : Shared → Prop} {Kp Z : Addr → Prop}
theorem keyK_turns {f : Value} {k : β → PyData} (e : EachIs R vs bs)
    (turn : ∀ (v : Value) (x : β), R v x → x ∈ bs → ∀ (s' : Shared), J s' → wpAny (model prog w) A (call f [v]) (KeyStay J Kp (k x) s') (fun _ _ => False) s') :
    ∀ (i : Nat) (v : Value) (d : PyData), vs[i]? = some v → (bs.map k)[i]? = some d → ∀ (s' : Shared), J s' →
      wpAny (model prog w) A (call f [v]) (KeyStay J Kp d s') (fun _ _ => False) s' := by
  intro i v d hv hd s' hj
  rw [List.getElem?_map] at hd
  cases q : bs[i]? with
  | none => rw [q] at hd; simp at hd
  | some x =>
    rw [q] at hd
    have hd' : some (k x) = some d := hd
    rw [← Option.some.inj hd']
    have hz : (v, x) ∈ vs.zip bs := List.mem_of_getElem? (i := i) (by rw [List.getElem?_zip_eq_some]; exact ⟨hv, q⟩)
    exact turn v x (e.zip _ hz) (List.mem_of_getElem? q) s' hj
/-- sorted(src, key=f), where src's items are vs -/
theorem sortedK_at {src : Addr} {f : Value} {kw : List (Str × Value)} {b : Bool} {Q : Value → Shared → Prop} (k : β → PyData) (KJ : Keeps J Kp Z) (hJ : J s) (hal : AllAlike (bs.map k)) (hk : Sortable (bs.map k)) (hL : bs.length ≤ sizeLine)
    (hu : ∀ x, x ∈ bs → A.units + 2 + (k x).depth < cLine) (ha1 : argsOk "sorted" ⟨[.ref src], kw⟩) (ha2 : ∀ x, argsOk "list.sort" ⟨[.ref x], kw⟩) (ht : ∀ x, Builtin.«list.sort» ⟨[.ref x], kw⟩ = ksk_tree x f b)
    (hcol : ∀ (Q' : List Value → Shared → Prop) (E' : Value → Shared → Prop), (∀ h' tk vs, (∀ b o, s.heap.get? b = some o → h'.get? b = some o) → EachIs R vs bs → Q' vs { s with heap := h', toks := tk }) → wpAny (model prog w) A.in1 (collect (.ref src)) Q' E' s)
    (turn : ∀ (v : Value) (x : β), R v x → x ∈ bs → ∀ (s' : Shared), J s' →
      wpAny (model prog w) A.in1.in1 (call f [v]) (KeyStay J Kp (k x) s') (fun _ _ => False) s')
    (h : ∀ out c p s', J s' → Z p → (∀ o, s.heap.get? p ≠ some o) → s'.heap.get? p = some (seqObj "list" (List.toArray out) c) → out.length = bs.length → EachIs R out (bs.mergeSort (dataLe b k)) → Q (.ref p) s') :
    wpAny (model prog w) A (call (.builtin "sorted") [.ref src] kw) Q E s := by
  refine call_function_entry_kw kind_sorted plain_sorted entry_sorted ha1 ?_
  unfold Builtin.«sorted»
  refine wpAny_bind (m := checkCount "sorted" 1 1 _) (wpAny_pure ?_)
  refine wpAny_bind (hcol _ _ fun h1 tk1 vs k1 e => ?_)
  have hvl : vs.length ≤ sizeLine := by rw [e.length]; exact hL
  refine wpAny_bind (wpAny_newList ?_ hvl)
  have k2 : ∀ b o, s.heap.get? b = some o → (h1.push (seqObj "list" vs.toArray 0)).get? b = some o := fun b o q => Heap.get?_push_of_some _ (k1 b o q)
  have at1 : (h1.push (seqObj "list" vs.toArray 0)).get? h1.objs.size = some (seqObj "list" vs.toArray 0) := Heap.get?_push_size _ rfl
  have J1 : J { s with heap := h1, toks := tk1 } := KJ.stay s h1 tk1 [] hJ (fun c hc => by cases hc) fun b o _ q => k1 b o q
  have za : Z h1.objs.size := KJ.fresh _ J1 _ (Nat.le_refl _)
  have J2 : J { s with heap := h1.push (seqObj "list" vs.toArray 0), toks := tk1 } := KJ.stay s _ tk1 [] hJ (fun c hc => by cases hc) fun b o _ q => k2 b o q
  show wpAny _ _ _ _ _ { s with heap := h1.push (seqObj "list" vs.toArray 0), toks := tk1 }
  refine wpAny_bind (wpAny_holding (wpAny_call_entry_kw slot_list_sort ⟨_, at1, rfl⟩ entry_list_sort ?body (ha2 _)))
  case body =>
    show wpAny (model prog w) A.in1.in1 (Builtin.«list.sort» ⟨[.ref h1.objs.size], kw⟩) _ _ _
    rw [ht]
    refine keyK_tree (kz := bs.map k) (s := { s with heap := h1.push (seqObj "list" vs.toArray 0), toks := tk1 }) KJ J2 za at1 (by rw [List.length_map]; exact e.length.symm) hvl hal hk (bound_map (A := A.in1.in1) hu)
      (keyK_turns e fun v x hR hx s' hj => turn v x hR hx s' hj) fun s' out c hj hD ko => ?_
    exact ⟨_, rfl, wpAny_pure ⟨_, rfl, h out c _ s' hj za (fun o q => Nat.lt_irrefl _ (Heap.lt_size (k1 _ _ q))) hD ((ko.length (by rw [List.length_map]; exact e.length.symm)).trans e.length) (keyedOut_each k ko e)⟩⟩
end
/-! the call of a lambda with one parameter, its captured names lists -/
open L2 LamX
structure LamP (sc scope : Scope) (x : Str) : Prop where
  kind : scope.kind = .function
  co : scope.isCoroutine = false
  gen : scope.isGenerator = false
  own : ∀ y ∈ scope.names, y.2 ≠ .cell ∧ (y.2 = .local → y.1 = x)
  par : scope.names.lookup x = some .local
  free : ∀ y ∈ scope.names, y.2 = .free → sc.names.lookup y.1 = some .cell ∨ sc.names.lookup y.1 = some .free
def lamPB (sc scope : Scope) (x : Str) : Bool :=
  decide (scope.kind = .function) && !scope.isCoroutine && !scope.isGenerator && decide (scope.names.lookup x = some .local) && scope.names.all fun y => !decide (y.2 = .cell) && (!decide (y.2 = .local) || decide (y.1 = x)) && (!decide (y.2 = .free) || decide (sc.names.lookup y.1 = some .cell) || decide (sc.names.lookup y.1 = some .free))
theorem lamP_by {sc scope : Scope} {x : Str} (h : lamPB sc scope x = true) : LamP sc scope x := by
  unfold lamPB at h
  simp only [Bool.and_eq_true, Bool.or_eq_true, Bool.not_eq_true', decide_eq_true_eq, decide_eq_false_iff_not, List.all_eq_true] at h
  obtain ⟨⟨⟨⟨h1, h2⟩, h3⟩, h5⟩, h4⟩ := h
  refine ⟨h1, h2, h3, fun y hy => ⟨(h4 y hy).1.1, fun e => ?_⟩, h5, fun y hy e => ?_⟩
  · rcases (h4 y hy).1.2 with z | z
    · exact absurd e z
    · exact z
  · rcases (h4 y hy).2 with (z | z) | z
    · exact absurd e z
    · exact .inl z
    · exact .inr z
theorem LamP.has {X : Cx} {scope : Scope} {x : Str} (L : LamP X.env.scope scope x) (ok : X.Ok) : ∀ y ∈ scope.names, y.2 = .free → ∃ c, X.env.cells.lookup y.1 = some c := fun y hy e => by
  rcases L.free y hy e with k | k
  · exact ok.has _ (.inl k)
  · exact ok.has _ (.inr k)
/-- the context of the lambda's body -/
def lamCxN (X : Cx) (A : Around) (outer : List Env) (s : Shared) (H : Hp) (E : XK) (scope : Scope) (f c' : Addr) (N : List Str) : Cx where
  prog := X.prog
  w := X.w
  K := X.K
  mg := X.mg
  base := X.base
  A := A.deeper (lamEnv X scope s.heap.objs.size f c')
  N := N
  s_0 := s
  H_0 := H
  env := lamEnv X scope s.heap.objs.size f c'
  outer := outer
  stack := lamEnv X scope s.heap.objs.size f c' :: outer
  ex := []
  fn := fun _ => false
  calm := true
  pn := []
  xe := fun e s' => wpAny (model X.prog X.w) (A.deeper (lamEnv X scope s.heap.objs.size f c')) (leaving (lamEnv X scope s.heap.objs.size f c') e) (fun _ s'' => L2.CX X.prog X.w outer H s E e s'') (fun e' s'' => L2.CX X.prog X.w outer H s E e' s'') s'
/-- the parameter and the captured names that the body reads, as the lambda's own slots -/
def LamSl (X : Cx) (σ : L2.St) (x : Str) (v0 : V) (N' : List Str) (σ' : L2.St) : Prop := σ'.length = N'.length ∧
  ∀ (i : Nat) (y : Str) (v : V), N'[i]? = some y → σ'[i]? = some (some v) → (y = x ∧ v = v0) ∨ (y ≠ x ∧ ∃ j : Nat, X.N[j]? = some y ∧ σ[j]? = some (some v))
section
variable {X : Cx} {pins : List (Addr × Obj)} {σ σ' : L2.St} {H HZ : Hp} {s : Shared}
theorem lam_startP {A : Around} {outer : List Env} {E : XK} {scope : Scope} {f c' : Addr} {h₁ : Heap} {tk : Nat} {x : Str} {u : Value} {v0 : V} {N' : List Str} (I : Inv X pins σ H s) (L : LamP X.env.scope scope x) (sub : ∀ b, H b = none → HZ b = none) (e0 : Env0 X.prog X.w X.K X.mg X.base A outer s HZ) (hd : A.handled = none)
    (hns : h₁.Ns s.heap.objs.size fun y => ([(x, u)] : List (Str × Value)).reverse.lookup y) (kp : ∀ b o, s.heap.get? b = some o → h₁.get? b = some o) (rv : RelV v0 u) (hσ : LamSl X σ x v0 N' σ') :
    Inv (lamCxN X A outer s HZ E scope f c' N') [] σ' HZ { s with heap := h₁, toks := tk } := by
  have hfree := L.has I.ok
  have cm : ∀ {y c}, (cloFrom X.env.cells scope.names []).lookup y = some c → X.env.cells.lookup y = some c := fun {y c} e => by
    rcases cloFrom_mem (PySem.mem_of_lookup e) with hm | ⟨h1, h2⟩
    · cases hm
    · obtain ⟨c1, hc⟩ := hfree _ h1 rfl
      have hc : X.env.cells.lookup y = some c1 := hc
      have e2 : c = c1 := by
        rw [h2, hc] <;> rfl
      rw [e2]
      exact hc
  have look : ∀ {y}, scope.names.lookup y = some .free → ∃ c, (cloFrom X.env.cells scope.names []).lookup y = some c := fun {y} hl => by
    have hy : (y, NameKind.free) ∈ scope.names := PySem.mem_of_lookup hl
    exact mem_lookup (cloFrom_has (cells := X.env.cells) (acc := []) hy)
  have cellK : ∀ {c : Addr} {v : Option Value}, s.heap.IsCell c v → h₁.IsCell c v := fun {c v} ⟨o, ho, hd⟩ => ⟨o, kp _ _ ho, hd⟩
  have noA : ∀ b : Addr, b ∉ (lamCxN X A outer s HZ E scope f c' N').ex := fun b z => absurd (show b ∈ ([] : List Addr) from z) (by simp)
  refine ⟨⟨e0.mod, L.kind, rfl, rfl, Nat.le_refl _, fun y z c e1 e2 => I.ok.inj y z c (cm e1) (cm e2), fun y hy => ?_, fun y c z _ => ?_, fun _ => hd, Around.frames_deeper e0.frames, .inr ⟨rfl, rfl⟩, fun b z => absurd z (noA b), e0.bs, e0.bsz, fun b _ _ => noA b,
      fun b z => absurd z (noA b), e0.funs, e0.frf⟩,
    rfl, e0.bare, Un.kept kp, ⟨_, hns, fun i y v e1 e2 e3 => ?_⟩, fun y c e => ?_, e0.hok.fresh (Nat.le_refl _), fun y c e => ?_, fun q hq => absurd (show q ∈ ([] : List (Addr × Obj)) ++ [] from hq) (by simp), e0.hok.kept kp, hσ.1⟩
  · have hy : scope.names.lookup y = some .cell ∨ scope.names.lookup y = some .free := hy
    rcases hy with hy | hy
    · exact absurd rfl (L.own _ (PySem.mem_of_lookup hy)).1
    · exact look hy
  · have z : false = true := z
    cases z
  · have e3 : Vis scope y := e3
    rcases hσ.2 i y v e1 e2 with ⟨rfl, rfl⟩ | ⟨hne, j, j1, j2⟩
    · exact ⟨u, rv, .inl ⟨L.par, by simp⟩⟩
    rcases e3 with k | k | k
    · exact absurd ((L.own _ (PySem.mem_of_lookup k)).2 rfl) hne
    · exact absurd rfl (L.own _ (PySem.mem_of_lookup k)).1
    · obtain ⟨m, hn, hl⟩ := I.loc
      have hvis : Vis X.env.scope y := (L.free _ (PySem.mem_of_lookup k) rfl).elim (fun k => .inr (.inl k)) (fun k => .inr (.inr k))
      obtain ⟨w', r, q⟩ := hl j y v j1 j2 hvis
      obtain ⟨c2, h2⟩ := look k
      refine ⟨w', r, .inr ⟨.inr k, c2, h2, ?_⟩⟩
      have c1 := cm h2
      rcases q with ⟨k', _⟩ | ⟨_, c3, e', z⟩
      · have k' : X.env.scope.names.lookup y = some .local := k'
        rcases L.free _ (PySem.mem_of_lookup k) rfl with k2 | k2 <;> rw [show X.env.scope.names.lookup y = _ from k2] at k' <;> cases k'
      · rw [c1] at e'
        cases e'
        exact cellK z
  · obtain ⟨w', z⟩ := I.cell y c (cm e)
    exact ⟨w', cellK z⟩
  · exact sub _ (I.freeC y c (cm e))
/-- a key that is told: a tuple, a list of ints -/
def KeyO (o : HO) (kd : PyData) : Prop := ∃ ns : List Int, (o = .tup (ns.map V.int) ∧ kd = .tuple (ns.map .int)) ∨ (o = .lst (ns.map V.int) ∧ kd = .list (ns.map .int))
theorem readsAll_ints {h : Heap} : ∀ {its : List Value} {ns : List Int}, Vals (ns.map V.int) its → ReadsAll h its (ns.map .int) []
  | its, [], r => by
    cases r
    exact .nil
  | its, n :: ns, r => by
    cases r with
    | cons r1 r2 =>
      obtain ⟨t, rfl⟩ := r1
      exact .cons (as := []) (bs := []) (.int n t) (readsAll_ints r2)
theorem KeyO.at {P : Program} {w : World} {h : Heap} {p : Addr} {o : HO} {kd : PyData} (k : KeyO o kd) (ok : ObjOk P w H h p o) : ∃ ob, h.get? p = some ob ∧ ∀ h' : Heap, h'.get? p = some ob → ∃ as, Reads h' (.ref p) kd as := by
  obtain ⟨ns, ⟨rfl, rfl⟩ | ⟨rfl, rfl⟩⟩ := k
  · obtain ⟨_, its, r, ob, e1, e2, n, e3⟩ := ok
    exact ⟨ob, e1, fun h' e => ⟨[], .tuple e e2 e3 (by rw [List.toList_toArray]; exact readsAll_ints r)⟩⟩
  · obtain ⟨_, its, n, r, e1⟩ := ok
    exact ⟨_, e1, fun h' e => ⟨[p], .list e rfl rfl (by rw [List.toList_toArray]; exact readsAll_ints r)⟩⟩
theorem objOk_ex {P : Program} {w : World} {H : Hp} {h : Heap} {a : Addr} {o : HO} (x : ObjOk P w H h a o) : ∃ ob, h.get? a = some ob := by
  cases o with
  | lst xs => obtain ⟨_, _, _, _, e⟩ := x; exact ⟨_, e⟩
  | tup xs => obtain ⟨_, _, _, o, e, _⟩ := x; exact ⟨_, e⟩
  | dK kvs => obtain ⟨_, _, _, _, o, _, _, e, _⟩ := x; exact ⟨_, e⟩
  | dT kvs => obtain ⟨_, _, _, _, o, _, _, e, _⟩ := x; exact ⟨_, e⟩
  | set S n => obtain ⟨o, _, _, _, e, _⟩ := x; exact ⟨_, e⟩
  | ins C dx fs => obtain ⟨_, _, _, e, _⟩ := x; exact ⟨_, e⟩
  | own y => obtain ⟨_, e⟩ := x; exact ⟨_, e⟩
  | xd fs => obtain ⟨_, ⟨_, _, _, e, _⟩, _⟩ := x; exact ⟨_, e⟩
  | rng lo hi => obtain ⟨_, _, _, e⟩ := x; exact ⟨_, e⟩
  | frz ob u => obtain ⟨e, _⟩ := x; exact ⟨_, e⟩
  | tbl ps => exact ⟨_, (show h.get? a = some _ from x)⟩
  | met f y => exact ⟨_, (show h.get? a = some _ from x)⟩
  | ext φ => obtain ⟨_, ⟨_, e⟩, _⟩ := x; exact ⟨_, e⟩
theorem noCX {P : Program} {w : World} {outer : List Env} {e : Value} {s' : Shared} (z : L2.CX P w outer H s (fun _ _ _ => False) e s') : False := by
  obtain ⟨_, _, _, _, _, _, _, _, _, _, _, _, _, _, _, _, z⟩ := z
theorem rec_fr {b : Addr} (I : Inv X pins σ H s) (hb : s.heap.objs.size ≤ b) : b ∉ frs X.stack := fun hb' => by
  rcases List.mem_cons.mp (I.stkSub b hb') with e | e
  · exact absurd e (Nat.ne_of_gt (Nat.lt_of_lt_of_le I.lt hb))
  · exact I.nofs hb e
/-- the function object f and all that the def tells stand -/
def LamJ (X : Cx) (pins : List (Addr × Obj)) (σ : L2.St) (H : Hp) (f : Addr) (fo : Obj) (s' : Shared) : Prop := Inv X pins σ H s' ∧ s'.heap.get? f = some fo
def LamK (X : Cx) (H : Hp) (b : Addr) : Prop := H b = none ∧ b ∉ frs X.stack
def LamZ (X : Cx) (pins : List (Addr × Obj)) (H : Hp) (f b : Addr) : Prop := FpOk X pins H b ∧ b ∉ frs X.stack ∧ b ≠ f
theorem lam_keeps {f : Addr} {fo : Obj} : Keeps (LamJ X pins σ H f fo) (LamK X H) (LamZ X pins H f) where
  zk := fun b z => ⟨z.1.1, z.2.1⟩
  stay := fun s' h tk ch hj hz k => ⟨hj.1.turnedL k fun b hb => (hz b hb).1, k _ _ (fun z => (hz _ z).2.2 rfl) hj.2⟩
  fresh := fun s' hj b hb => ⟨hj.1.fpOk hb (hj.1.hok.fresh hb), (Rc.rec_fr hj.1 hb), fun z => by
    have := Heap.lt_size hj.2
    rw [← z] at this
    exact Nat.lt_irrefl _ (Nat.lt_of_lt_of_le this hb)⟩
/-- what the lambda's body is to give: what it saw stands, a key is new -/
def KeyQ (HZ : Hp) (kd : PyData) : VK := fun v H' => (∀ b o, HZ b = some o → H' b = some o) ∧ ∃ p o, v = .ref p ∧ HZ p = none ∧ H' p = some o ∧ KeyO o kd
theorem lam_turn {A : Around} {k : Nat} {f c' : Addr} {params : Arguments} {body : Expr} {scope : Scope} {pm ctv : Value} {x : Str} {u : Value} {v0 : V} {N' : List Str} {tb : TE} {kd : PyData} (I : Inv X pins σ H s) (L : LamP X.env.scope scope x)
    (hf : s.heap.get? f = some (PySem.W.kla_obj "<lambda>" (X.env.qual ++ "<lambda>") params body scope (cloFrom X.env.cells scope.names []) pm c' ctv)) (hfn : H f = none) (hfr : f ∉ frs X.stack) (hco : H c' = some (CodeO c' (X.env.qual ++ "<lambda>")))
    (hbind : bindArgs (PySem.W.kla_fn "<lambda>" (X.env.qual ++ "<lambda>") params body scope (cloFrom X.env.cells scope.names []) pm (.ref c') ctv) ⟨[u], []⟩ = pure [(x, u)])
    (hr : Room (k + 1) A) (hA : A.frames = some X.stack) (rv : RelV v0 u) (hσ : LamSl X σ x v0 N' σ') (hs : ∀ b o, HZ b = some o → H b = some o ∧ ∃ xs, o = .lst xs)
    (hbody : ∀ (A : Around) (outer : List Env) (s : Shared) (H : Hp) (E : XK) (f c' : Addr), Room k (A.deeper (lamEnv X scope s.heap.objs.size f c')) → L2.PE (lamCxN X A outer s H E scope f c' N') body tb)
    (ht : tb σ' HZ (KeyQ HZ kd)) :
    wpAny (model X.prog X.w) A (call (.ref f) [u]) (KeyStay (LamJ X pins σ H f (PySem.W.kla_obj "<lambda>" (X.env.qual ++ "<lambda>") params body scope (cloFrom X.env.cells scope.names []) pm c' ctv)) (LamK X H) kd s) (fun _ _ => False) s := by
  have sub : ∀ b, H b = none → HZ b = none := fun b n => by
    cases q : HZ b with
    | none => rfl
    | some o =>
      rw [(hs b o q).1] at n
      cases n
  have e0 : Env0 X.prog X.w X.K X.mg X.base A X.stack s HZ := by
    have e := I.env0
    refine ⟨hA, e.mod, fun b o q => ⟨(e.bs b o q).1, sub _ (e.bs b o q).2⟩, e.bsz, e.funs, fun b hb => sub _ (e.frf b hb), fun b o q => ?_, e.bare⟩
    obtain ⟨q1, xs, rfl⟩ := hs b o q
    exact I.hok b _ q1
  obtain ⟨⟨oc, vs, t, hoc, hdc, hvc⟩, _, _⟩ := I.hok c' _ hco
  have rc : codeAny (model X.prog X.w) A (.call (.ref f) ⟨[u], []⟩) (CR (L2.CX X.prog X.w) X.stack X.prog X.w HZ s (KeyQ HZ kd) (fun _ _ _ => False)) s := by
    refine PySem.W.kla_callFunE hr.depth hf rfl L.co L.gen rfl ⟨c', oc, vs, t, rfl, hoc, hdc, hvc⟩ ?_
    rw [hbind]
    refine wpAny_pure (wpAny_newFunctionEnv (fun y hy => (L.own y hy).1) (fun y hy => ?_) (fun h₁ hns hsb => ⟨I.nolimit.fresh _ hsb, ?_⟩) L.kind)
    · rw [List.mem_singleton.mp hy]
      exact L.par
    show codeAny _ _ (.expr body (lamEnv X scope s.heap.objs.size f c')) _ _
    have kp : ∀ b o, s.heap.get? b = some o → h₁.get? b = some o := fun b o e => hsb.extBut b o (Nat.ne_of_lt (Heap.lt_size e)) (Heap.get?_push_of_some _ e)
    have Jv : Inv (lamCxN X A X.stack s HZ (fun _ _ _ => False) scope f c' N') [] σ' HZ { s with heap := h₁, toks := s.toks + ([(x, u)] : List (Str × Value)).length } := lam_startP I L sub e0 hr.hd hns kp rv hσ
    refine PySem.W.kla_codeExpr (wpAny_mono ((hbody _ _ s HZ (fun _ _ _ => False) f c' (hr.deeper _)).run [] _ _ HZ (KeyQ HZ kd) Jv ht) (fun v s' hq => ?_) fun e s' hq => hq)
    obtain ⟨w', H', J', rv, q⟩ := hq
    exact ⟨w', H', J'.os, J'.bare, J'.base, J'.hok, rv, q⟩
  refine wpAny_call (codeAny_mono rc fun r s2 hq => ?_)
  cases r with
  | error e => exact (noCX hq).elim
  | ok fl =>
    cases fl with
    | next => exact False.elim hq
    | brk => exact False.elim hq
    | cont => exact False.elim hq
    | ret v =>
      obtain ⟨w', H', os, bare, un, hok, rv', hsame, p, o, rfl, np, ep, ko⟩ := (show CE X.stack X.prog X.w HZ s (KeyQ HZ kd) v s2 from hq)
      obtain rfl : v = Value.ref p := rv'
      have kp : ∀ b o, LamK X H b → s.heap.get? b = some o → s2.heap.get? b = some o := fun b o hb e => un.keep b o e (sub _ hb.1) hb.2 (by simp)
      have hokH : HOk X.prog X.w H s2.heap := fun b ob e => by
        cases q : HZ b with
        | some o' =>
          obtain ⟨q1, xs, rfl⟩ := hs b o' q
          rw [q1] at e
          cases e
          exact hok b _ (hsame b _ q)
        | none =>
          have nfr : ∀ d u, H d = some u → d ∉ frs X.stack := fun d u hd z => by
            rw [I.stkFree d z] at hd
            cases hd
          refine (I.hok b ob e).stay (fun d v hd qd => ?_) (fun _ q => q) (fun _ _ q => q)
          rcases hd with z | z
          · rw [z] at qd ⊢
            exact un.keep b v qd q (nfr _ _ e) (by simp)
          · refine un.keep d v qd ?_ (nfr _ _ z) (by simp)
            cases q2 : HZ d with
            | none => rfl
            | some o' =>
              obtain ⟨q1, xs, rfl⟩ := hs d o' q2
              rw [q1] at z
              cases z
      have unH : Un (frs X.stack) [] H H s.heap s2.heap := ⟨fun b o e n => un.keep b o e (sub _ n), fun b o e n => un.slot b o e (sub _ n), fun _ _ _ n _ => n, un.there, fun _ _ e => e, fun _ _ _ e => e, fun b ps e => ⟨#[], by rw [e]; simp⟩⟩
      have I2 : Inv X pins σ H s2 := I.call' os unH hokH bare (fun b y => absurd y List.not_mem_nil)
      have nP : s.heap.get? p = none := by
        cases q : s.heap.get? p with
        | none => rfl
        | some o' =>
          have z := un.free p o' q np (by simp)
          rw [ep] at z
          cases z
      obtain ⟨ob, e1, hrd⟩ := ko.at (hok p o ep)
      refine ⟨⟨I2, kp f _ ⟨hfn, hfr⟩ hf⟩, kp, p, ob, rfl, ⟨?_, fun z => ?_⟩, nP, e1, hrd⟩
      · cases q : H p with
        | none => rfl
        | some o' =>
          have z := (I.hok p o' q).lt
          obtain ⟨o2, e2⟩ := objOk_ex (I.hok p o' q)
          rw [nP] at e2
          cases e2
      · obtain ⟨_, o2, e2, _⟩ := I.stack.mem z
        rw [nP] at e2
        cases e2
end
/-! a lambda is made: the def's table of code objects -/
/-- what is known of a table: the code objects that it tells -/
structure LT where
  ps : Array Value
  cs : List Addr
  ok : TriplesOk ps.toList
  am : ∀ (pos : Pos) (cv : Value), codeAmong pos ps.toList = some cv → ∃ c ∈ cs, cv = .ref c
def LT.nil : LT := ⟨#[], [], True.intro, fun pos cv hc => by
  have z : codeAmong pos [] = some cv := hc
  simp [codeAmong] at z⟩
theorem lt_ps (ps : Array Value) (x y z : Value) : (ps ++ #[x, y, z]).toList = ps.toList ++ [x, y, z] := by simp
def LT.add (k : LT) (pos : Pos) (c' : Addr) : LT := ⟨k.ps ++ #[rawInt pos.line, rawInt pos.col, .ref c'], c' :: k.cs, by rw [lt_ps]; exact PySem.TriplesOk_snoc _ _ _ _ k.ok, fun p' cv hcv => by
  rw [lt_ps] at hcv
  rcases among_app _ k.ok hcv with z | z
  · obtain ⟨c0, e1, e2⟩ := k.am p' cv z
    exact ⟨c0, List.mem_cons_of_mem _ e1, e2⟩
  · exact ⟨c', List.mem_cons_self, z⟩⟩
/-- the heap behind the making of a lambda -/
def LamStep (H : Hp) (P : Addr) (k : LT) (q : Str) (H1 : Hp) : Prop := H1 = H ∨ ∃ (pos : Pos) (c' : Addr), H c' = none ∧ H1 = upd (upd H P (.tbl (k.add pos c').ps)) c' (CodeO c' q)
def LTAt (H : Hp) (P : Addr) (k : LT) (q : Str) : Prop := H P = some (.tbl k.ps) ∧ ∀ c ∈ k.cs, H c = some (CodeO c q)
section
variable {X : Cx} {pins : List (Addr × Obj)} {σ : L2.St} {H : Hp} {s : Shared}
theorem lam_make3 {kt : LT} {c P : Addr} {params : Arguments} {body : Expr} {scope : Scope} {pos : Pos} {E : Value → Shared → Prop} {Q : Value → Shared → Prop} (I : Inv X pins σ H s) (TB : TabB X.base X.mg c P) (hcode : X.env.code = .ref c)
    (hT : LTAt H P kt (X.env.qual ++ "<lambda>")) (hdef : defaultsOf params X.env = ([], [])) (hfree : ∀ y ∈ scope.names, y.2 = .free → ∃ c, X.env.cells.lookup y.1 = some c)
    (h : ∀ (f c' : Addr) (pm ctv : Value) (H1 : Hp) (s' : Shared), Inv X pins σ H1 s' → LamStep H P kt (X.env.qual ++ "<lambda>") H1 → (∀ b o, b ≠ P → s.heap.get? b = some o → s'.heap.get? b = some o) →
      s'.heap.get? f = some (PySem.W.kla_obj "<lambda>" (X.env.qual ++ "<lambda>") params body scope (cloFrom X.env.cells scope.names []) pm c' ctv) → H1 f = none → f ∉ frs X.stack → H1 c' = some (CodeO c' (X.env.qual ++ "<lambda>")) → Q (.ref f) s') :
    wpAny (model X.prog X.w) X.A (eval (.Lambda params body scope pos) X.env) Q E s := by
  obtain ⟨hP, hcs⟩ := hT
  have ht := kt.ok
  refine PySem.W.kla_eval hdef ?_
  have bP : s.heap.BuiltinsAt X.mg P := TB.bm.keeps I.bk
  have hP' : s.heap.get? P = some { cls := .none, data := .fields kt.ps } := I.hok P _ hP
  have nofr : ∀ f, s.heap.objs.size ≤ f → f ∉ frs X.stack := fun f hf => rec_fr I hf
  cases hc : codeAmong pos kt.ps.toList with
  | none =>
    refine PySem.W.kla_makeFunction (mg := X.mg) (c := c) (P := P) (ps := kt.ps) (closure_ok hfree) I.ok.glob (I.mod.glob.keeps I.bk) hcode (TB.code.keeps I.bk) hP' ht hc TB.gP bP fun c' ctv h' tk hx hge hlt hrec htb => ?_
    obtain ⟨c2, oc, vs, t, e2, hoc, hd, hv⟩ := hrec
    cases e2
    have hsz : s.heap.objs.size ≤ h'.objs.size := Nat.le_trans hge (Nat.le_of_lt hlt)
    have nC : H c' = none := I.hok.fresh hge
    have I1 := inv_table (t' := tk) (more := #[rawInt pos.line, rawInt pos.col, .ref c']) (h' := h'.push (PySem.W.kla_obj "<lambda>" (X.env.qual ++ "<lambda>") params body scope (cloFrom X.env.cells scope.names []) ((X.mg "__name__").getD .none) c' ctv)) I hP
      (fun b o hb e => Heap.get?_push_of_some _ (hx b o hb e)) (Heap.get?_push_of_some _ htb) hge ⟨oc, vs, t, Heap.get?_push_of_some _ hoc, hd, hv⟩
    refine h h'.objs.size c' ((X.mg "__name__").getD .none) ctv _ _ I1 (.inr ⟨pos, c', nC, rfl⟩) (fun b o hb e => Heap.get?_push_of_some _ (hx b o hb e)) (Heap.get?_push_size _ rfl) ?_ (nofr _ hsz) upd_same
    have n1 : h'.objs.size ≠ c' := Nat.ne_of_gt hlt
    have n2 : h'.objs.size ≠ P := Nat.ne_of_gt (Nat.lt_of_lt_of_le (Heap.lt_size hP') hsz)
    rw [upd_ne n1, upd_ne n2]
    exact I.hok.fresh hsz
  | some cv =>
    obtain ⟨c', em, e⟩ := kt.am pos cv hc
    subst e
    refine PySem.W.kla_makeFunctionHit (mg := X.mg) (c := c) (P := P) (ps := kt.ps) (closure_ok hfree) I.ok.glob (I.mod.glob.keeps I.bk) hcode (TB.code.keeps I.bk) hP' ht hc bP fun ctv h' tk hx hsz => ?_
    have kp : ∀ b o, s.heap.get? b = some o → (h'.push (PySem.W.kla_obj "<lambda>" (X.env.qual ++ "<lambda>") params body scope (cloFrom X.env.cells scope.names []) ((X.mg "__name__").getD .none) c' ctv)).get? b = some o := fun b o e => Heap.get?_push_of_some _ (hx b o e)
    have I1 : Inv X pins σ H { s with heap := h'.push (PySem.W.kla_obj "<lambda>" (X.env.qual ++ "<lambda>") params body scope (cloFrom X.env.cells scope.names []) ((X.mg "__name__").getD .none) c' ctv), toks := tk } := I.kept kp
    exact h h'.objs.size c' ((X.mg "__name__").getD .none) ctv H _ I1 (.inl rfl) (fun b o _ e => kp b o e) (Heap.get?_push_size _ rfl) (I.hok.fresh hsz) (nofr _ hsz) (hcs c' em)
/-- an object that nobody told is told from now on -/
theorem inv_track {p : Addr} {o : HO} (I : Inv X pins σ H s) (z : FpOk X pins H p) (new : ObjOk X.prog X.w (upd H p o) s.heap p o) : Inv X pins σ (upd H p o) s := by
  have hn := z.1
  exact I.step (h' := s.heap) (H' := upd H p o) (g' := s.gens) (d' := s.drawn) (t' := s.toks) (ch := [p]) (fun b hb => by
      rw [List.mem_singleton.mp hb]
      exact ⟨z.2.2.2.1, z.2.1, z.2.2.2.2.1, z.2.2.2.2.2⟩) (fun b o _ _ _ e _ => e) (fun b o _ _ _ e _ => ⟨o.slots, e⟩) (fun b o hb _ n => by rw [upd_ne fun z => hb (List.mem_singleton.mpr z)]; exact n) (fun b o _ e => ⟨o, e⟩)
    (fun b xs e => by rw [upd_ne (ne_of_none e hn)]; exact e) (fun b o u e => by rw [upd_ne (ne_of_none e hn)]; exact e) (fun b ps e => ⟨#[], by rw [upd_ne (ne_of_none e hn), e]; simp⟩) (fun m hm => hm) (fun b u e => by
      by_cases hb : b = p
      · subst hb
        rw [upd_same] at e
        cases e
        exact new
      · rw [upd_ne hb] at e
        exact (I.hok b u e).stay (fun _ _ _ q => q) (fun c q => by rw [upd_ne (ne_of_none q hn)]; exact q) fun c xs q => by rw [upd_ne (ne_of_none q hn)]; exact q) I.bare
theorem LamStep.lst {P : Addr} {kt : LT} {q : Str} {H1 : Hp} {a : Addr} {xs : List V} (st : LamStep H P kt q H1) (hP : H P = some (.tbl kt.ps)) (e : H a = some (.lst xs)) : H1 a = some (.lst xs) := by
  rcases st with rfl | ⟨pos, c', n, rfl⟩
  · exact e
  · rw [upd_ne (ne_of_none e n), upd_ne (fun z => by rw [z, hP] at e; cases e)]
    exact e
/-! sorted(.., key=lambda ..) as an expression -/
theorem vals_enc {α : Type} (enc : α → V) : ∀ {out : List Value} {l : List α}, EachIs (fun v x => RelV (enc x) v) out l → Vals (l.map enc) out
  | _, _, .nil => .nil
  | _, _, .cons r t => .cons r (vals_enc enc t)
theorem each_enc {α : Type} (enc : α → V) : ∀ {out : List Value} {l : List α}, Vals (l.map enc) out → EachIs (fun v x => RelV (enc x) v) out l
  | _, [], r => by cases r; exact .nil
  | _, x :: l, r => by
    cases r with
    | cons r1 r2 => exact .cons r1 (each_enc enc r2)
theorem sort_core {α : Type} {src f c' : Addr} {key : α → PyData} {enc : α → V} {bs : List α} {k : Nat} {params : Arguments} {body : Expr} {scope : Scope} {pm ctv : Value} {x : Str} {N' : List Str} {sl : α → L2.St} {tb : TE} {HZ : Hp} {Q : VK}
    (I : Inv X pins σ H s) (L : LamP X.env.scope scope x)
    (hf : s.heap.get? f = some (PySem.W.kla_obj "<lambda>" (X.env.qual ++ "<lambda>") params body scope (cloFrom X.env.cells scope.names []) pm c' ctv)) (hfn : H f = none) (hfr : f ∉ frs X.stack) (hco : H c' = some (CodeO c' (X.env.qual ++ "<lambda>")))
    (hbind : ∀ u, bindArgs (PySem.W.kla_fn "<lambda>" (X.env.qual ++ "<lambda>") params body scope (cloFrom X.env.cells scope.names []) pm (.ref c') ctv) ⟨[u], []⟩ = pure [(x, u)])
    (hr : Room (k + 3) X.A) (hs : ∀ b o, HZ b = some o → H b = some o ∧ ∃ xs, o = .lst xs)
    (hbody : ∀ (A : Around) (outer : List Env) (s : Shared) (H : Hp) (E : XK) (f c' : Addr), Room k (A.deeper (lamEnv X scope s.heap.objs.size f c')) → L2.PE (lamCxN X A outer s H E scope f c' N') body tb)
    (hσ : ∀ b ∈ bs, LamSl X σ x (enc b) N' (sl b)) (ht : ∀ b ∈ bs, tb (sl b) HZ (KeyQ HZ (key b)))
    (hz : bs.length ≤ 16777216) (hal : AllAlike (bs.map key)) (hk : Sortable (bs.map key)) (hd : ∀ b ∈ bs, (key b).depth ≤ 16)
    (hcol : ∀ (A : Around) (Q' : List Value → Shared → Prop) (E' : Value → Shared → Prop), A.handled = none → (∀ h' tk vs, (∀ b o, s.heap.get? b = some o → h'.get? b = some o) → Vals (bs.map enc) vs → Q' vs { s with heap := h', toks := tk }) → wpAny (model X.prog X.w) A (collect (.ref src)) Q' E' s)
    (q : ∀ p, H p = none → Q (.ref p) (upd H p (.lst ((bs.mergeSort (dataLe false key)).map enc)))) :
    wpAny (model X.prog X.w) X.A (call (.builtin "sorted") [.ref src] [(Str.ofString "key", .ref f)]) (EP X pins σ Q) X.xe s := by
  refine sortedK_at (J := LamJ X pins σ H f (PySem.W.kla_obj "<lambda>" (X.env.qual ++ "<lambda>") params body scope (cloFrom X.env.cells scope.names []) pm c' ctv)) (Kp := LamK X H) (Z := LamZ X pins H f) (b := false) (R := fun v x => RelV (enc x) v) key lam_keeps ⟨I, hf⟩ hal hk (by rw [sizeLine_eq]; exact hz)
    (fun b hb => by have := hr.units; have := hd b hb; omega) (PyProof.Rows.ksk_s1 _ _) (fun _ => PyProof.Rows.ksk_l1 _ _) (fun _ => PyProof.Rows.ksk_t1 _ _) (fun Q' E' hq => hcol _ Q' E' hr.hd fun h' tk vs k1 rv => hq h' tk vs k1 (each_enc enc rv)) (fun v b hR hb s' hj => ?_) (fun out ep p s' hj zp hnp hp hlen hout => ?_)
  · have r2 : Room (k + 1) X.A.in1.in1 := (hr.in1).in1
    exact lam_turn hj.1 L hj.2 hfn hfr hco (hbind v) r2 I.ok.frames hR (hσ b hb) hs hbody (ht b hb)
  · have hml : ((bs.mergeSort (dataLe false key)).map enc).length ≤ sizeLine := by
      rw [List.length_map, List.length_mergeSort, sizeLine_eq]
      exact hz
    exact ⟨.ref p, upd H p (.lst ((bs.mergeSort (dataLe false key)).map enc)), inv_track hj.1 zp.1 ⟨hml, out, ep, vals_enc enc hout, hp⟩, rfl, q p zp.1.1⟩
/-- the places of a word's items, sorted by (item, place) -/
def plKey (word : List Int) (i : Int) : PyData := .tuple ([word.getD i.toNat 0, i].map .int)
def sortPl (word : List Int) : List Int := ((List.range word.length).map fun i : Nat => (i : Int)).mergeSort (dataLe false (plKey word))
def tPlaces (P : Addr) (q : Str) (j : Nat) : TE := fun σ H Q => ∃ (aw : Addr) (word : List Int) (kt : LT), σ[j]? = some (some (V.ref aw)) ∧ H aw = some (.lst (word.map V.int)) ∧ word.length ≤ 16777216 ∧ LTAt H P kt q ∧
  ∀ H2, LamStep H P kt q H2 → ∀ p, H2 p = none → Q (.ref p) (upd H2 p (.lst ((sortPl word).map V.int)))
theorem rgV_zero (n : Nat) : rgV 0 (n : Int) = ((List.range n).map fun i : Nat => (i : Int)).map V.int := by
  unfold rgV
  rw [List.map_map, Int.sub_zero, Int.toNat_natCast]
  refine List.map_congr_left fun i _ => ?_
  show V.int (0 + (i : Int)) = V.int (i : Int)
  rw [Int.zero_add]
theorem pe_sortPlaces {c P : Addr} {k j : Nat} {a x : Str} {params : Arguments} {scope : Scope} {cx : Nat} {p1 p2 p3 p4 p5 p6 p7 p8 p9 p10 p11 lpos kp pos : Pos} (hc : X.calm = true) (hg : Gl X "sorted") (hm : X.mg "sorted" = none) (hgr : Gl X "range") (hmr : X.mg "range" = none) (hgl : Gl X "len") (hml : X.mg "len" = none)
    (TB : TabB X.base X.mg c P) (hcode : X.env.code = .ref c) (hr : Room (k + 3) X.A) (L : LamP X.env.scope scope x) (hva : scope.names.lookup a = some .free) (hax : a ≠ x) (hj : X.N[j]? = some a) (hvj : Vis X.env.scope a) (hdef : defaultsOf params X.env = ([], []))
    (hbind : ∀ (q : Str) (cl : List (Str × Addr)) (pm cv ctv u : Value), bindArgs (PySem.W.kla_fn "<lambda>" q params (.Tuple [.Subscript (.Name a p7) (.Name x p8) p9, .Name x p10] cx p11) scope cl pm cv ctv) ⟨[u], []⟩ = pure [(x, u)])
    (da : (a == ("__debug__" : Str)) = false := by decide) (ca : (a == ("__classdict__" : Str)) = false := by decide) (dx : (x == ("__debug__" : Str)) = false := by decide) (cdx : (x == ("__classdict__" : Str)) = false := by decide) :
    L2.PE X (.Call (.Name "sorted" p1) [.Call (.Name "range" p2) [.Call (.Name "len" p3) [.Name a p4] [] p5] [] p6] [⟨some "key", .Lambda params (.Tuple [.Subscript (.Name a p7) (.Name x p8) p9, .Name x p10] cx p11) scope lpos, kp⟩] pos) (tPlaces P (X.env.qual ++ "<lambda>") j) := by
  refine ⟨fun pins s σ H Q I h => ?_⟩
  obtain ⟨aw, word, kt, hj', haw, hz, hT, hq⟩ := h
  have he : PRg X (.Call (.Name "range" p2) [.Call (.Name "len" p3) [.Name a p4] [] p5] [] p6) (tRg1 (tCB (rLenL X.K) (tCons (tVar j) tNil))) := prg_1 hgr hmr (pe_callB (show CallR X _ (rLenL X.K) from call_lenL) hgl hml (by decide +kernel) (pa_cons (pe_var hj hvj da ca) pa_nil))
  refine wpAny_Call_Name_kw (ld_blt I hg hm rfl ?_)
  refine PyProof.Rows.callWith_kw ?_
  show wpAny _ _ (spliced ((false, eval (.Call (.Name "range" p2) [.Call (.Name "len" p3) [.Name a p4] [] p5] [] p6) X.env) :: backTo pos (starEach [] X.env))) _ _ s
  refine Calls.spliced_cons (thn (he pins s σ H (fun i j H1 => i = 0 ∧ j = (word.length : Int) ∧ H1 = H) I ⟨_, hj', aw, word.length, _, rfl, SqL.of haw, List.length_map _, _, rfl, rfl, rfl, rfl⟩) fun v s1 ⟨r, i, j', t, u, z, H1, ev, hrg, I1, hi, hj2, eH⟩ => ?_)
  subst ev
  subst hi
  subst hj2
  subst eH
  refine Calls.spliced_nil ?_
  show wpAny _ _ (evalAll ((do let v ← eval (.Lambda params (.Tuple [.Subscript (.Name a p7) (.Name x p8) p9, .Name x p10] cx p11) scope lpos) X.env; standAt pos; pure v) :: [])) _ _ s1
  refine wpAny_evalAll_cons (wpAny_bind (lam_make3 I1 TB hcode hT hdef (L.has I1.ok) fun f c' pm ctv H2 s2 I2 st kp hf hfn hfr hco => wpAny_bind (wpAny_standAt (wpAny_pure ?_))))
  refine wpAny_evalAll_nil ?_
  have haw2 := st.lst hT.1 haw
  have hrg2 : IsRange s2.heap r 0 (word.length : Int) 1 t u z := kp r _ (fun e => by
    have e1 := I1.hok P _ hT.1
    rw [e] at hrg
    have e2 := hrg.symm.trans (show s1.heap.get? P = some { cls := .none, data := .fields kt.ps } from e1)
    cases e2) hrg
  show wpAny _ _ (call (.builtin "sorted") [.ref r] [(Str.ofString "key", .ref f)]) _ _ s2
  have mb : ∀ i ∈ (List.range word.length).map (fun i : Nat => (i : Int)), 0 ≤ i ∧ i < (word.length : Int) := fun i hi => by
    obtain ⟨n, hn, rfl⟩ := List.mem_map.mp hi
    have := List.mem_range.mp hn
    omega
  have hxa : x ≠ a := fun z => hax z.symm
  refine sort_core (key := plKey word) (enc := V.int) (bs := (List.range word.length).map fun i : Nat => (i : Int)) (k := k) (N' := [x, a]) (sl := fun i => [some (V.int i), some (V.ref aw)]) (HZ := fun b => if b = aw then some (.lst (word.map V.int)) else none)
    (tb := tTup (tCons (tOp (rIxL X.K) (tVar 1) (tVar 0)) (tCons (tVar 0) tNil))) I2 L hf hfn hfr hco (fun u => hbind _ _ _ _ _ u) hr (fun b o e => ?_) (fun A outer s H E f c' hr' => ?_) (fun i hi => ⟨rfl, fun n y v e1 e2 => ?_⟩) (fun i hi => ?_) ?_ ?_ ?_ ?_ ?_ (fun p np => hq _ st p np)
  · by_cases hb : b = aw
    · rw [if_pos hb] at e
      cases e
      rw [hb]
      exact ⟨haw2, _, rfl⟩
    · rw [if_neg hb] at e
      cases e
  · refine pe_tup (pa_cons (pe_ix (show IxR _ (rIxL X.K) from ix_list) (pe_var rfl (.inr (.inr hva)) da ca) (pe_var rfl (.inl L.par) dx cdx) (fun _ _ => rfl)) (pa_cons (pe_var rfl (.inl L.par) dx cdx) pa_nil))
  · match n, e1, e2 with
    | 0, e1, e2 =>
      cases e1
      cases e2
      exact .inl ⟨rfl, rfl⟩
    | 1, e1, e2 =>
      cases e1
      cases e2
      exact .inr ⟨hax, j, hj, hj'⟩
    | n + 2, e1, e2 => simp at e1
  · obtain ⟨i0, i1⟩ := mb i hi
    refine ⟨_, rfl, _, rfl, aw, _, i, _, rfl, rfl, SqL.of (if_pos rfl), atD 0 i0 i1, _, rfl, by rw [sizeLine_eq]; show 2 ≤ _; omega, fun p np => ⟨fun b o e => ?_, p, _, rfl, np, upd_same, [word.getD i.toNat 0, i], .inl ⟨rfl, rfl⟩⟩⟩
    exact (upd_ne fun z => by
      rw [z] at e
      exact nomatch (e.symm.trans np)).trans e
  · rw [List.length_map, List.length_range]
    exact hz
  · exact AllAlike.of fun b b' => by
      show alike (plKey word b) (plKey word b') = true
      simp only [plKey, alike]
      exact alike_ints _ _
  · exact Sortable.tuples fun b => ⟨_, _, rfl⟩
  · intro b _
    simp only [plKey, PyData.depth]
    rw [depth_ints]
    omega
  · intro A Q' E' hh hq'
    have hn : ((word.length : Int) - 0).toNat = word.length := by omega
    refine collect_range hh hrg2 (small_one (by omega) (by omega) (by omega) (by omega)) (rangeSize_nat 0 (word.length : Int)) (by omega) fun h' tk acc k1 hi => hq' h' tk _ k1 ?_
    rw [← rgV_zero]
    exact vals_rg hi
end
/-- a lambda was made: the table's cluster -/
def ctOwn (P : Addr) (q : Str) (k : LT) : List (Addr × HO) := (P, .tbl k.ps) :: k.cs.map fun c => (c, CodeO c q)
section
variable {H0 H H1 : Hp} {pre : List (Addr × HO)} {ts : List (List (Addr × HO))} {P : Addr} {q : Str} {k : LT}
theorem Fr.ltAt (f : Fr H0 H (pre ++ (ctOwn P q k :: ts).flatten)) : LTAt H P k q := by
  have m : ∀ z ∈ ctOwn P q k, z ∈ pre ++ (ctOwn P q k :: ts).flatten := fun z hz => List.mem_append_right _ (List.mem_flatten.mpr ⟨_, List.mem_cons_self, hz⟩)
  exact ⟨f.mem (m _ List.mem_cons_self), fun c hc => f.mem (m _ (List.mem_cons_of_mem _ (List.mem_map.mpr ⟨c, hc, rfl⟩)))⟩
theorem Fr.lam (f : Fr H0 H (pre ++ (ctOwn P q k :: ts).flatten)) (st : LamStep H P k q H1) : ∃ k', Fr H0 H1 (pre ++ (ctOwn P q k' :: ts).flatten) := by
  rcases st with rfl | ⟨pos, c', n, rfl⟩
  · exact ⟨k, f⟩
  refine ⟨k.add pos c', ?_⟩
  have e1 : (pre ++ (ctOwn P q k :: ts).flatten).Perm ((P, .tbl k.ps) :: (pre ++ (k.cs.map (fun c => (c, CodeO c q)) ++ ts.flatten))) := by
    show (pre ++ ((P, .tbl k.ps) :: (k.cs.map (fun c => (c, CodeO c q)) ++ ts.flatten))).Perm _
    exact List.perm_middle
  have f1 : Fr H0 _ ((P, .tbl (k.add pos c').ps) :: (pre ++ (k.cs.map (fun c => (c, CodeO c q)) ++ ts.flatten))) := (f.perm e1).wr
  have n1 : upd H P (.tbl (k.add pos c').ps) c' = none := by
    rw [upd_ne fun z => ?_]
    · exact n
    · have e2 := (f.ltAt).1
      rw [← z, n] at e2
      cases e2
  refine (f1.new (o := CodeO c' q) n1).perm ?_
  show ((c', CodeO c' q) :: (P, .tbl (k.add pos c').ps) :: (pre ++ (k.cs.map (fun c => (c, CodeO c q)) ++ ts.flatten))).Perm (pre ++ ((P, .tbl (k.add pos c').ps) :: (c', CodeO c' q) :: (k.cs.map (fun c => (c, CodeO c q)) ++ ts.flatten)))
  refine (List.Perm.swap _ _ _).trans ?_
  refine List.Perm.trans ?_ List.perm_middle.symm
  exact (List.Perm.cons _ List.perm_middle.symm)
end
/-! a def that makes a lambda: its code object is known -/
structure FunC (K : PySem.W.Frag) (c : Addr) (x qual : Str) (st : Stmt) (f : Addr) (fd : FuncData) : Prop where
  fn : Fun K x qual st f fd
  cd : fd.code = .ref c
theorem FunC.ok {P : Program} {w : World} {K : PySem.W.Frag} {mg : Str → Option Value} {base : Heap} {c : Addr} {x qual : Str} {st : Stmt} {f : Addr} {fd : FuncData} {N ps : List Str} {k : Nat} {sp : Sp} (F : FunC K c x qual st f fd) (S : FnScope N ps (defScope st)) (len : ∀ vs H Q E, sp vs H Q E → vs.length = ps.length)
    (hbody : ∀ (A : Around) (outer : List Env) (s : Shared) (H : Hp) (vs : List V) (Q : VK) (E : XK), Room k (A.deeper (envOfC qual (defScope st) s.heap.objs.size f (.ref c))) → sp vs H Q E →
      ∃ t, PSs (cxOf CX0 P w K mg base N qual (defScope st) f (.ref c) A outer s H E).nox (defBody st) t ∧ t { nx := fun _ H' => Q .non H', rt := Q } (start N vs) H) : FnOk P w K mg base CX0 (k + 1) f fd ps sp := by
  obtain ⟨oc, od, kV, doc, pm, an, cdv, ct, osl, e, lk, hcd⟩ := F.fn.ex
  have ec : cdv = .ref c := by
    have z := F.cd
    rw [e] at z
    exact z
  subst ec
  subst e
  refine fn_of lk hcd S len fun A outer s H vs Q E hr hsp => ?_
  obtain ⟨t, h, q⟩ := hbody A outer s H vs Q E hr hsp
  exact ⟨t, h.nox, q⟩
/-- the end: the table of the def x0 is empty -/
theorem walk_ofLam {l : PySem.W.OpenLaw} {n k : Nat} {q : Program} {loose : List Str} {XP : (Str → Option Value) → Heap → Prop} {YP : World → Heap → Prop} {d d0 : DefRec} {K : Params → PySem.W.Frag} {CX : World → CXT} {x x0 : Str}
    (hn : l.most = some n) (hn2 : n ≤ sizeLine) (hdf : d.params.defaults = []) (hr : Room k callerA) (hrec : (recsOf q).find? (fun e => e.name == x0) = some d0) (hY : ∀ (w : World) (h : Heap), YP w h → (K w.params).In h)
    (F : ∀ (w : World) (mg : Str → Option Value) (fa : Addr) (h : Heap), (K w.params).In h → h.Ns mainGlobals mg → mg d.name = some (.ref fa) → (∀ c P, PySem.W.tabIn (K w.params) x0 = some (c, P) → PySem.W.CodeHd h c P ∧ h.get? P = some { cls := .none, data := .fields #[] }) → LawAtS l w (K w.params) (CX w) k n x mg fa h)
    (hCX : ∀ (w : World) (H : Hp) (s : Shared) (e : Value) (s' : Shared), CX w [] H s (fun _ _ _ => False) e s' → False) :
    PySem.W.WalkO q loose XP YP l.row.toRowW d [] (fun f vs => PySem.call f vs) := by
  refine Att.attach_callB hn hdf fun w s₀ s₁ mg mb fa o pm cd doc a vs ns G Y ho hd hcd hmg hobj hints hlen hbits hg => ?_
  have KX := hY w _ Y
  obtain ⟨fd, cs, sp, hT, nT, C, hb, hsp, hF⟩ := F w mg fa _ KX G.T.g hmg fun c P e => PySem.W.tab_of G.T KX hrec e
  exact law_callTs KX G.T.g G.T.b G.T.builtins G.T.nolimit hg hT nT C G.T.bmain hobj hints (Nat.le_trans hlen hn2) hr hF hb (fun H hH hS => hsp H a ns hlen hbits hH hS) fun H e s' => hCX w H s₁ e s'
theorem lent_tbl {H : Hp} {P : Addr} {q : Str} (h : H P = some (.tbl #[])) : Lent (minus H [P]) H (ctOwn P q LT.nil) := by
  refine ⟨⟨fun b x e => ?_, fun z hz => ?_, ?_⟩, fun b x e hb => ?_⟩
  · unfold minus at e
    by_cases hb : b ∈ [P]
    · rw [if_pos hb] at e; cases e
    · rw [if_neg hb] at e; exact e
  · have e : z = (P, .tbl #[]) := List.mem_singleton.mp hz
    subst e
    exact ⟨by unfold minus; rw [if_pos (List.mem_singleton.mpr rfl)], h⟩
  · exact (List.nodup_cons.mpr ⟨List.not_mem_nil, List.nodup_nil⟩ : [P].Nodup)
  · unfold minus
    rw [if_neg (show ¬ b ∈ [P] from hb)]
    exact e
theorem sqL_minus {K : PySem.W.Frag} {H : Hp} {P a : Addr} {xs : List V} (h : SqL K H a xs) (hP : H P = some (.tbl #[])) : SqL K (minus H [P]) a xs := by
  rcases h with (h | ⟨o, h⟩) | h
  · refine .inl (.inl ?_)
    unfold minus
    rw [if_neg]
    · exact h
    · intro hb
      rw [List.mem_singleton.mp hb, hP] at h
      cases h
  · refine .inl (.inr ⟨o, ?_⟩)
    unfold minus
    rw [if_neg]
    · exact h
    · intro hb
      rw [List.mem_singleton.mp hb, hP] at h
      cases h
  · exact .inr h
/-- a law's promise, the table of code objects empty at the entry -/
theorem lawAt_of {l : PySem.W.OpenLaw} {w : World} {K : PySem.W.Frag} {k n : Nat} {x : Str} {mg : Str → Option Value} {fa cL PL : Addr} {h : Heap} {fd : FuncData} (hT : PySem.W.CodeHd h cL PL ∧ h.get? PL = some { cls := .none, data := .fields #[] }) (nT : K.lookup PL = none)
    (hb : ∀ (s : Shared) (u : Value), BindsTo s fd ⟨[u], []⟩ [(x, u)]) (hF : ∀ base : Heap, K.In base → base.Ns mainGlobals mg → TabB base mg cL PL → ∃ sp : Sp, FnOk l.prog w K mg base CX0 k fa fd [x] sp ∧
      ∀ (H : Hp) (a : Addr) (ns : List Int) (Q : VK) (E : XK), ns.length ≤ n → H PL = some (.tbl #[]) → SqL K H a (ns.map V.int) → (∀ H1, Q (.bl true) H1) → sp [.ref a] H Q E) : LawAtS l w K CX0 k n x mg fa h := by
  refine ⟨fd, [(cL, PL)], fun vs H Q E => ∃ (a : Addr) (ns : List Int), vs = [.ref a] ∧ ns.length ≤ n ∧ H PL = some (.tbl #[]) ∧ SqL K H a (ns.map V.int) ∧ ∀ H1, Q (.bl true) H1, fun p hp => ?_, fun p hp => ?_, fun p hp => ?_, hb, fun H a ns hl _ hP hS => ⟨a, ns, rfl, hl, hP (cL, PL) (List.mem_singleton.mpr rfl), hS, fun _ => rfl⟩, fun base hK hN hTB => ?_⟩
  · rw [List.mem_singleton.mp hp]; exact hT.2
  · rw [List.mem_singleton.mp hp]; exact nT
  · rw [List.mem_singleton.mp hp]; exact hT.1
  · obtain ⟨sp, F, hsp⟩ := hF base hK hN (hTB (cL, PL) (List.mem_singleton.mpr rfl))
    exact F.imp fun vs H Q E ⟨a, ns, e, hl, hP, hS, hq⟩ => by
      subst e
      exact hsp H a ns Q E hl hP hS hq
theorem tabIn_of {K : PySem.W.Frag} {x : Str} {f cL PL : Addr} {oc oc2 : Value} {od od2 : Option Addr} {fd : FuncData} {sl sl2 : Array (Option Value)} {vs : Array Value} (a : PySem.W.nsIn K mainGlobals x = some (some (.ref f))) (l : K.lookup f = some ⟨oc, od, .func fd, sl⟩) (c : fd.code = .ref cL)
    (k : K.lookup cL = some ⟨oc2, od2, .fields vs, sl2⟩) (v : vs[11]? = some (.ref PL)) : PySem.W.tabIn K x = some (cL, PL) := by
  unfold PySem.W.tabIn
  simp only [a, l, c, k, v]
end Rc
namespace Rc
/-- the number of ways to choose -/
def bin : Nat → Nat → Nat
  | _, 0 => 1
  | 0, _ + 1 => 0
  | n + 1, k + 1 => bin n k + bin n (k + 1)
@[simp] theorem bin_zero (n : Nat) : bin n 0 = 1 := by cases n <;> rfl
@[simp] theorem bin_zero_succ (k : Nat) : bin 0 (k + 1) = 0 := rfl
theorem bin_succ (n k : Nat) : bin (n + 1) (k + 1) = bin n k + bin n (k + 1) := rfl
theorem bin_gt : ∀ {n k : Nat}, n < k → bin n k = 0
  | _, 0, h => by omega
  | 0, _ + 1, _ => rfl
  | n + 1, k + 1, h => by rw [bin_succ, bin_gt (show n < k by omega), bin_gt (show n < k + 1 by omega)]
@[simp] theorem bin_self : ∀ n : Nat, bin n n = 1
  | 0 => rfl
  | n + 1 => by rw [bin_succ, bin_self n, bin_gt (Nat.lt_succ_self n)]
theorem bin_one : ∀ n : Nat, bin n 1 = n
  | 0 => rfl
  | n + 1 => by rw [bin_succ, bin_zero, bin_one n]; omega
theorem bin_smul : ∀ n k : Nat, (k + 1) * bin (n + 1) (k + 1) = (n + 1) * bin n k
  | 0, 0 => rfl
  | 0, k + 1 => by rw [bin_succ]; simp
  | n + 1, 0 => by rw [bin_one]; simp
  | n + 1, k + 1 => by
    have h1 := bin_smul n k
    have h2 := bin_smul n (k + 1)
    have e : bin (n + 1) (k + 1) = bin n k + bin n (k + 1) := bin_succ n k
    rw [bin_succ (n + 1) (k + 1)]
    grind
theorem bin_mul (n k : Nat) : (k + 1) * bin n (k + 1) + k * bin n k = n * bin n k := by
  have h := bin_smul n k
  rw [bin_succ] at h
  grind
theorem bin_mulZ (n k : Nat) : (bin n (k + 1) : Int) * (k + 1) = bin n k * ((n : Int) - k) := by
  have h := bin_mul n k
  have h' : ((k : Int) + 1) * bin n (k + 1) + k * bin n k = n * bin n k := by exact_mod_cast h
  grind
theorem bin_add_symm : ∀ a b : Nat, bin (a + b) a = bin (a + b) b
  | 0, b => by simp
  | a + 1, 0 => by simp
  | a + 1, b + 1 => by
    have h1 := bin_add_symm a (b + 1)
    have h2 := bin_add_symm (a + 1) b
    have e1 : a + 1 + (b + 1) = (a + (b + 1)) + 1 := by omega
    have e2 : a + 1 + b = a + (b + 1) := by omega
    rw [e2] at h2
    rw [e1, bin_succ, bin_succ]
    omega
theorem bin_symm {n k : Nat} (h : k ≤ n) : bin n k = bin n (n - k) := by
  have := bin_add_symm k (n - k)
  rwa [show k + (n - k) = n by omega] at this
/-- choose, of whole numbers -/
def chooseZ (n k : Int) : Int := if k < 0 ∨ n < k then 0 else (bin n.toNat k.toNat : Nat)
theorem chooseZ_out {n k : Int} (h : k < 0 ∨ n < k) : chooseZ n k = 0 := if_pos h
theorem chooseZ_in {n k : Int} (h0 : 0 ≤ k) (h1 : k ≤ n) : chooseZ n k = bin n.toNat k.toNat := if_neg (by omega)
theorem chooseZ_min {n k : Int} (h0 : 0 ≤ k) (h1 : k ≤ n) : chooseZ n k = bin n.toNat (min k (n - k)).toNat := by
  rw [chooseZ_in h0 h1]
  by_cases h : k ≤ n - k
  · rw [show min k (n - k) = k by omega]
  · rw [show min k (n - k) = n - k by omega, bin_symm (show k.toNat ≤ n.toNat by omega)]
    congr 2; omega
theorem choose_step {n : Int} {t : Nat} {found : Int} (hf : found = (bin n.toNat t : Nat)) (hn : 0 ≤ n) (ht : (t : Int) < n) : found * (n - t) / (t + 1) = (bin n.toNat (t + 1) : Nat) := by
  have h := bin_mulZ n.toNat t
  rw [Int.toNat_of_nonneg hn] at h
  rw [hf, ← h]
  exact Int.mul_ediv_cancel _ (by omega)
/-- n (n - 1) .. k factors -/
def falling (n : Int) : Nat → Int
  | 0 => 1
  | k + 1 => falling n k * (n - k)
theorem bin_falling (n : Nat) : ∀ k, (bin n k : Int) * falling k k = falling n k := by
  have key : ∀ k j : Nat, falling ((k + 1 : Nat) : Int) (j + 1) = ((k : Int) + 1) * falling k j := by
    intro k j
    induction j with
    | zero => simp [falling]
    | succ j ih => rw [falling, ih, falling]; grind
  intro k
  induction k with
  | zero => simp [falling]
  | succ k ih =>
    rw [key, falling, ← ih]
    have := bin_mulZ n k
    grind
theorem choose_falls {n k : Int} (h0 : 0 ≤ k) (h1 : k ≤ n) : (bin n.toNat k.toNat : Int) * falling k k.toNat = falling n k.toNat := by
  obtain ⟨a, rfl⟩ := Int.eq_ofNat_of_zero_le h0
  obtain ⟨b, rfl⟩ := Int.eq_ofNat_of_zero_le (show 0 ≤ n by omega)
  exact bin_falling b a
theorem chooseZ_pascal {n k : Int} (hn : 0 < n) : chooseZ (n - 1) k + chooseZ (n - 1) (k - 1) = chooseZ n k := by
  by_cases h0 : k < 0
  · rw [chooseZ_out (.inl h0), chooseZ_out (by omega), chooseZ_out (.inl h0)]; rfl
  by_cases h1 : n < k
  · rw [chooseZ_out (by omega), chooseZ_out (by omega), chooseZ_out (.inr h1)]; rfl
  obtain ⟨m, hm⟩ : ∃ m : Nat, n = m + 1 := ⟨(n - 1).toNat, by omega⟩
  subst hm
  have em : ((m : Int) + 1 - 1) = m := by omega
  rw [em, chooseZ_in (n := (m : Int) + 1) (by omega) (by omega)]
  have e1 : ((m : Int) + 1).toNat = m + 1 := by omega
  rw [e1]
  by_cases hk : k = 0
  · subst hk
    rw [chooseZ_in (by omega) (by omega), chooseZ_out (by omega)]; simp
  · obtain ⟨j, hj⟩ : ∃ j : Nat, k = j + 1 := ⟨(k - 1).toNat, by omega⟩
    subst hj
    have e2 : ((j : Int) + 1).toNat = j + 1 := by omega
    have e3 : ((j : Int) + 1 - 1) = j := by omega
    rw [e2, e3, bin_succ]
    rw [chooseZ_in (n := (m : Int)) (k := (j : Int)) (by omega) (by omega), Int.toNat_natCast, Int.toNat_natCast]
    by_cases hl : (j : Int) + 1 ≤ m
    · rw [chooseZ_in (by omega) hl, e2, Int.toNat_natCast]; omega
    · rw [chooseZ_out (by omega), bin_gt (show m < j + 1 by omega)]; simp
theorem chooseZ_sub {n k : Int} (h0 : 0 ≤ k) (h1 : k ≤ n) : chooseZ n (n - k) = chooseZ n k := by
  rw [chooseZ_in (by omega) (by omega), chooseZ_in h0 h1, bin_symm (show k.toNat ≤ n.toNat by omega)]
  congr 2; omega
/-- bounds -/
structure Bd (k : Nat) (i : Int) : Prop where
  lt : i.natAbs < 2 ^ k
theorem Bd.mono {a b : Nat} {i : Int} (h : Bd a i) (hab : a ≤ b) : Bd b i := ⟨Nat.lt_of_lt_of_le h.lt (Nat.pow_le_pow_right (by decide) hab)⟩
theorem Bd.mul {a b : Nat} {i j : Int} (h : Bd a i) (h' : Bd b j) : Bd (a + b) (i * j) := ⟨by
  rw [Int.natAbs_mul, Nat.pow_add]
  exact Nat.mul_lt_mul'' h.lt h'.lt⟩
theorem Bd.one (k : Nat) : Bd (k + 1) 1 := ⟨by
  have := Nat.pow_le_pow_right (n := 2) (by decide) (show 1 ≤ k + 1 by omega)
  have : (1 : Int).natAbs = 1 := rfl
  omega⟩
theorem bin_le_pow (n : Nat) : ∀ k, bin n k ≤ n ^ k := by
  induction n with
  | zero => intro k; cases k <;> simp
  | succ n ih =>
    intro k
    cases k with
    | zero => simp
    | succ k =>
      rw [bin_succ, Nat.pow_succ]
      have h1 := ih k
      have h2 := ih (k + 1)
      have h3 : n ^ k ≤ (n + 1) ^ k := Nat.pow_le_pow_left (by omega) k
      rw [Nat.pow_succ] at h2
      have h4 : n ^ k * n ≤ (n + 1) ^ k * n := Nat.mul_le_mul_right _ h3
      have : (n + 1) ^ k * (n + 1) = (n + 1) ^ k * n + (n + 1) ^ k := by rw [Nat.mul_add, Nat.mul_one]
      omega
theorem Bd.bin {n t B : Nat} (hn : n < 2 ^ B) : Bd (B * t + 1) (Rc.bin n t : Nat) := ⟨by
  rw [Int.natAbs_natCast]
  have h1 := bin_le_pow n t
  have h2 : n ^ t ≤ (2 ^ B) ^ t := Nat.pow_le_pow_left (Nat.le_of_lt hn) t
  rw [← Nat.pow_mul] at h2
  have h3 : 2 ^ (B * t) < 2 ^ (B * t + 1) := Nat.pow_lt_pow_right (by decide) (by omega)
  omega⟩
theorem Bd.falling {n : Int} {B : Nat} (hB : Bd B n) (h0 : 0 ≤ n) : ∀ {t : Nat}, (t : Int) ≤ n → Bd (B * t + 1) (Rc.falling n t)
  | 0, _ => Bd.one _
  | t + 1, h => by
    have h1 : Bd B (n - t) := ⟨by have := hB.lt; omega⟩
    have := (Bd.falling hB h0 (t := t) (by omega)).mul h1
    exact this.mono (by rw [Nat.mul_succ]; omega)
end Rc
namespace Rc
theorem pick60 (c : Int) : 1 ≤ ([60, 12] : List Int).getD (Int.toNat (min 1 (c % 8))) 0 ∧ ([60, 12] : List Int).getD (Int.toNat (min 1 (c % 8))) 0 ≤ 60 := by
  have h : min 1 (c % 8) = 0 ∨ min 1 (c % 8) = 1 := by omega
  rcases h with h | h <;> rw [h] <;> decide
def upto (n : Nat) : List Int := (List.range n).map fun i : Nat => (i : Int)
@[simp] theorem upto_length (n : Nat) : (upto n).length = n := by simp [upto]
theorem upto_succ (n : Nat) : upto (n + 1) = upto n ++ [(n : Int)] := by simp [upto, List.range_succ]
theorem mem_upto {n : Nat} {x : Int} : x ∈ upto n ↔ 0 ≤ x ∧ x < n := by
  unfold upto
  rw [List.mem_map]
  constructor
  · rintro ⟨i, hi, rfl⟩
    have := List.mem_range.mp hi
    omega
  · rintro ⟨h0, h1⟩
    exact ⟨x.toNat, List.mem_range.mpr (by omega), by omega⟩
theorem upto_nodup (n : Nat) : (upto n).Nodup := by
  unfold upto
  rw [List.nodup_iff_pairwise_ne, List.pairwise_map]
  exact (List.nodup_range (n := n)).imp fun h e => h (Int.ofNat.inj e)
theorem upto_getElem? {n i : Nat} (h : i < n) : (upto n)[i]? = some (i : Int) := by
  unfold upto; rw [List.getElem?_map, List.getElem?_range h]; rfl
theorem upto_getElem {n i : Nat} (h : i < (upto n).length) : (upto n)[i] = (i : Int) := by simp [upto]
/-- an order of its cards -/
def IsOrd (xs : List Int) : Prop := xs.Perm (upto xs.length)
theorem IsOrd.nodup {xs : List Int} (h : IsOrd xs) : xs.Nodup := h.nodup_iff.mpr (upto_nodup _)
theorem IsOrd.mem {xs : List Int} (h : IsOrd xs) {x : Int} : x ∈ xs ↔ 0 ≤ x ∧ x < xs.length := by rw [List.Perm.mem_iff h, mem_upto]
theorem IsOrd.bd {xs : List Int} (h : IsOrd xs) {i : Nat} {x : Int} (e : xs[i]? = some x) : 0 ≤ x ∧ x < xs.length := h.mem.mp (List.mem_of_getElem? e)
theorem isOrd_upto (n : Nat) : IsOrd (upto n) := by unfold IsOrd; rw [upto_length]
theorem isOrd_of {xs : List Int} {n : Nat} (h : xs.Perm (upto n)) : IsOrd xs := by
  have := h.length_eq
  rw [upto_length] at this
  unfold IsOrd; rwa [this]
theorem perm_of_nodup : ∀ {xs ys : List Int}, xs.Nodup → (∀ x ∈ xs, x ∈ ys) → ys.length ≤ xs.length → xs.Perm ys
  | [], ys, _, _, hl => by
    have : ys = [] := List.eq_nil_of_length_eq_zero (by simpa using hl)
    subst this; exact List.Perm.refl _
  | x :: xs, ys, hn, hs, hl => by
    have hx : x ∈ ys := hs x List.mem_cons_self
    have h1 := List.perm_cons_erase hx
    have hlen : (ys.erase x).length = ys.length - 1 := List.length_erase_of_mem hx
    have hn' := List.nodup_cons.mp hn
    have ih := perm_of_nodup (ys := ys.erase x) hn'.2 (fun y hy => by
      have hne : y ≠ x := fun e => hn'.1 (e ▸ hy)
      exact (List.mem_erase_of_ne hne).mpr (hs y (List.mem_cons_of_mem _ hy))) (by
        rw [List.length_cons] at hl; omega)
    exact (ih.cons x).trans h1.symm
theorem eraseIdx_perm {α : Type} : ∀ {ls : List α} {k : Nat} (h : k < ls.length), (ls[k] :: ls.eraseIdx k).Perm ls
  | [], _, h => by simp at h
  | _ :: _, 0, _ => List.Perm.refl _
  | x :: ls, k + 1, h => by
    have hk : k < ls.length := by simpa using h
    have ih := eraseIdx_perm hk
    show (ls[k] :: x :: ls.eraseIdx k).Perm (x :: ls)
    exact (List.Perm.swap _ _ _).trans (ih.cons x)
/-- as many different cards below their number -/
theorem isOrd_of_nodup {xs : List Int} (hn : xs.Nodup) (hb : ∀ x ∈ xs, 0 ≤ x ∧ x < xs.length) : IsOrd xs := by
  exact perm_of_nodup hn (fun x hx => mem_upto.mpr (hb x hx)) (by rw [upto_length]; exact Nat.le_refl _)
/-- a card taken out of what is left -/
theorem take_perm {os ls : List Int} {n k : Nat} (h : (os ++ ls).Perm (upto n)) (hk : k < ls.length) : ((os ++ [ls.getD k 0]) ++ ls.eraseIdx k).Perm (upto n) := by
  have e : ls.getD k 0 = ls[k] := by simp [List.getD, hk]
  have h1 : (ls[k] :: ls.eraseIdx k).Perm ls := eraseIdx_perm hk
  refine List.Perm.trans ?_ h
  rw [e, List.append_assoc]
  exact List.Perm.append_left _ h1
def placesI (o : List Int) : List Int := (List.range o.length).map fun c : Nat => (o.idxOf (c : Int) : Int)
def laidI (one other : List Int) : List Int := other.map fun p => one.getD p.toNat 0
@[simp] theorem placesI_length (o : List Int) : (placesI o).length = o.length := by simp [placesI]
@[simp] theorem laidI_length (one other : List Int) : (laidI one other).length = other.length := by simp [laidI]
theorem idxOf_lt {o : List Int} (h : IsOrd o) {c : Nat} (hc : c < o.length) : o.idxOf (c : Int) < o.length := List.idxOf_lt_length_of_mem (h.mem.mpr ⟨by omega, by omega⟩)
theorem idxOf_at {o : List Int} (h : o.Nodup) {i : Nat} {x : Int} (e : o[i]? = some x) : o.idxOf x = i := by
  obtain ⟨hi, rfl⟩ := List.getElem?_eq_some_iff.mp e
  exact h.idxOf_getElem i hi
theorem at_idxOf {o : List Int} {x : Int} (h : x ∈ o) : o.getD (o.idxOf x) 0 = x := by
  have hl := List.idxOf_lt_length_of_mem h
  rw [List.getD_eq_getElem?_getD, List.getElem?_eq_getElem hl, List.getElem_idxOf]; rfl
theorem placesI_getD {o : List Int} {c : Nat} (hc : c < o.length) : (placesI o).getD c 0 = (o.idxOf (c : Int) : Int) := by
  rw [List.getD_eq_getElem?_getD]; simp [placesI, hc]
theorem isOrd_placesI {o : List Int} (h : IsOrd o) : IsOrd (placesI o) := by
  refine isOrd_of_nodup ?_ ?_
  · unfold placesI
    rw [List.nodup_iff_pairwise_ne, List.pairwise_map]
    refine List.Pairwise.imp_of_mem ?_ (List.nodup_range (n := o.length))
    intro a b ha hb hne e
    have ha' := List.mem_range.mp ha
    have hb' := List.mem_range.mp hb
    have e1 : o.idxOf (a : Int) = o.idxOf (b : Int) := by omega
    have h1 := at_idxOf (h.mem.mpr ⟨show (0 : Int) ≤ (a : Int) by omega, show (a : Int) < o.length by omega⟩)
    have h2 := at_idxOf (h.mem.mpr ⟨show (0 : Int) ≤ (b : Int) by omega, show (b : Int) < o.length by omega⟩)
    rw [e1, h2] at h1
    omega
  · intro x hx
    obtain ⟨c, hc, rfl⟩ := List.mem_map.mp hx
    have := idxOf_lt h (List.mem_range.mp hc)
    rw [placesI_length]
    omega
theorem placesI_idxOf {o : List Int} (h : IsOrd o) {i : Nat} {x : Int} (e : o[i]? = some x) : (placesI o).idxOf (i : Int) = x.toNat := by
  have hb := h.bd e
  have hx : x.toNat < o.length := by omega
  refine idxOf_at (isOrd_placesI h).nodup ?_
  unfold placesI
  rw [List.getElem?_map, List.getElem?_range hx]
  have : ((x.toNat : Nat) : Int) = x := by omega
  simp only [Option.map_some, this, idxOf_at h.nodup e]
theorem placesI_placesI {o : List Int} (h : IsOrd o) : placesI (placesI o) = o := by
  apply List.ext_getElem?
  intro i
  by_cases hi : i < o.length
  · have e : o[i]? = some o[i] := List.getElem?_eq_getElem hi
    have := placesI_idxOf h e
    have hb := h.bd e
    rw [e]
    show ((List.range (placesI o).length).map fun c : Nat => ((placesI o).idxOf (c : Int) : Int))[i]? = _
    rw [List.getElem?_map, List.getElem?_range (by simpa using hi)]
    simp only [Option.map_some, this]
    congr 1; omega
  · rw [List.getElem?_eq_none (by simp; omega), List.getElem?_eq_none (by omega)]
theorem laidI_upto {o : List Int} (h : IsOrd o) : laidI (upto o.length) o = o := by
  unfold laidI
  conv => rhs; rw [← List.map_id o]
  apply List.map_congr_left
  intro x hx
  have := h.mem.mp hx
  rw [List.getD_eq_getElem?_getD, upto_getElem? (by omega)]
  simp; omega
theorem laidI_places {o : List Int} (h : IsOrd o) : laidI o (placesI o) = upto o.length := by
  unfold laidI placesI upto
  rw [List.map_map]
  apply List.map_congr_left
  intro c hc
  have hc' := List.mem_range.mp hc
  simp only [Function.comp]
  rw [Int.toNat_natCast]
  exact at_idxOf (h.mem.mpr ⟨by omega, by omega⟩)
theorem laidI_assoc {a b c : List Int} (hb : ∀ p ∈ c, 0 ≤ p ∧ p < b.length) : laidI (laidI a b) c = laidI a (laidI b c) := by
  unfold laidI
  rw [List.map_map]
  apply List.map_congr_left
  intro p hp
  have := hb p hp
  simp only [Function.comp]
  rw [List.getD_eq_getElem?_getD, List.getElem?_map, List.getD_eq_getElem?_getD (l := b), List.getElem?_eq_getElem (show p.toNat < b.length by omega)]
  rfl
theorem isOrd_laidI {a b : List Int} (ha : IsOrd a) (hb : IsOrd b) (hl : a.length = b.length) : IsOrd (laidI a b) := by
  have h1 : (laidI a b).Perm (laidI a (upto b.length)) := List.Perm.map _ hb
  have h2 : laidI a (upto b.length) = a := by
    unfold laidI upto
    rw [List.map_map, ← hl]
    apply List.ext_getElem
    · simp
    · intro i h1 h2
      simp only [List.getElem_map, List.getElem_range, Function.comp, Int.toNat_natCast]
      rw [List.getD_eq_getElem?_getD, List.getElem?_eq_getElem h2]; rfl
  rw [h2] at h1
  exact isOrd_of (h1.trans ha)
/-- the places as they are filled -/
def placesTo (o : List Int) (i : Nat) : List Int := (List.range o.length).map fun c : Nat => if o.idxOf (c : Int) < i then (o.idxOf (c : Int) : Int) else 0
theorem placesTo_zero (o : List Int) : placesTo o 0 = List.replicate o.length 0 := by
  unfold placesTo
  rw [List.eq_replicate_iff]
  simp
theorem placesTo_all {o : List Int} (h : IsOrd o) : placesTo o o.length = placesI o := by
  unfold placesTo placesI
  apply List.map_congr_left
  intro c hc
  rw [if_pos (idxOf_lt h (List.mem_range.mp hc))]
theorem placesTo_next {o : List Int} (h : IsOrd o) {i : Nat} {x : Int} (e : o[i]? = some x) : (placesTo o i).set x.toNat (i : Int) = placesTo o (i + 1) := by
  have hb := h.bd e
  have hi := idxOf_at h.nodup e
  apply List.ext_getElem
  · simp [placesTo]
  · intro c h1 h2
    have hc : c < o.length := by simpa [placesTo] using h2
    simp only [placesTo, List.getElem_set, List.getElem_map, List.getElem_range]
    by_cases ex : x.toNat = c
    · subst ex
      have : ((x.toNat : Nat) : Int) = x := by omega
      rw [if_pos rfl, this, hi, if_pos (by omega)]
    · rw [if_neg ex]
      have hne : o.idxOf (c : Int) ≠ i := by
        intro z
        have h3 := at_idxOf (h.mem.mpr ⟨show (0 : Int) ≤ (c : Int) by omega, show (c : Int) < o.length by omega⟩)
        rw [z, List.getD_eq_getElem?_getD, e] at h3
        simp at h3
        omega
      by_cases h4 : o.idxOf (c : Int) < i
      · rw [if_pos h4, if_pos (by omega)]
      · rw [if_neg h4, if_neg (by omega)]
theorem sorted_eq {a b x y : List Int} (ha : a.Pairwise (· ≤ ·)) (hb : b.Pairwise (· ≤ ·)) (pa : a.Perm x) (pb : b.Perm y) (h : x.Perm y) : a = b := by
  have hp : a.Perm b := pa.trans (h.trans pb.symm)
  clear pa pb h
  induction a generalizing b with
  | nil => exact (List.nil_perm.mp hp).symm
  | cons u a ih =>
    cases b with
    | nil => exact absurd hp.length_eq (by simp)
    | cons v b =>
      have h1 := List.pairwise_cons.mp ha
      have h2 := List.pairwise_cons.mp hb
      have e : u = v := by
        have hu : u ∈ v :: b := hp.mem_iff.mp List.mem_cons_self
        have hv : v ∈ u :: a := hp.mem_iff.mpr List.mem_cons_self
        rcases List.mem_cons.mp hu with e | hu
        · exact e
        · rcases List.mem_cons.mp hv with e | hv
          · exact e.symm
          · have := h1.1 v hv; have := h2.1 u hu; omega
      subst e
      rw [ih h1.2 h2.2 ((List.perm_cons u).mp hp)]
theorem ord_perm {a b : List Int} (ha : IsOrd a) (hb : IsOrd b) (hl : a.length = b.length) : a.Perm b := by
  unfold IsOrd at ha hb
  rw [hl] at ha
  exact ha.trans hb.symm
end Rc
namespace Rc
def isFall (p : List Int) (i : Nat) : Bool := decide (p.getD (i + 1) 0 < p.getD i 0)
/-- the falls among the first c cards -/
def fc (p : List Int) (c : Nat) : Nat := ((List.range (c - 1)).filter (isFall p)).length
def fallsI (o : List Int) : Nat := fc o o.length
theorem fallsI_eq (o : List Int) : ((List.range (Int.toNat ((o.length : Int) - 1))).filter (fun i : Nat => decide (o.getD (Int.toNat ((i : Int) + 1)) 0 < o.getD (Int.toNat (i : Int)) 0))).length = fallsI o := by
  unfold fallsI fc
  have : Int.toNat ((o.length : Int) - 1) = o.length - 1 := by omega
  rw [this]; rfl
theorem fc_succ (p : List Int) (c : Nat) (hc : 1 ≤ c) : fc p (c + 1) = fc p c + if isFall p (c - 1) = true then 1 else 0 := by
  unfold fc
  obtain ⟨d, rfl⟩ : ∃ d, c = d + 1 := ⟨c - 1, by omega⟩
  show ((List.range (d + 1)).filter _).length = ((List.range d).filter _).length + _
  rw [List.range_succ, List.filter_append, List.length_append]
  congr 1
  show _ = if isFall p d = true then 1 else 0
  by_cases h : isFall p d = true
  · rw [if_pos h, List.filter_cons_of_pos h]; rfl
  · rw [if_neg h, List.filter_cons_of_neg h]; rfl
theorem fc_yes {o : List Int} {i : Nat} (h : o.getD (Int.toNat ((i : Int) + 1)) 0 < o.getD (Int.toNat (i : Int)) 0) : (fc o (i + 1) : Int) + 1 = (fc o (i + 1 + 1) : Nat) := by
  rw [fc_succ _ (i + 1) (by omega), if_pos (show isFall o (i + 1 - 1) = true from decide_eq_true h)]; omega
theorem fc_no {o : List Int} {i : Nat} (h : ¬ o.getD (Int.toNat ((i : Int) + 1)) 0 < o.getD (Int.toNat (i : Int)) 0) : (fc o (i + 1) : Int) = (fc o (i + 1 + 1) : Nat) := by
  rw [fc_succ _ (i + 1) (by omega), if_neg (by rw [show isFall o (i + 1 - 1) = false from decide_eq_false h]; exact Bool.false_ne_true)]; omega
theorem fc_run (p : List Int) {c d : Nat} (hcd : c ≤ d) (h : ∀ e, c ≤ e → e < d → 1 ≤ e → isFall p (e - 1) = false) (h1 : 1 ≤ d) : fc p d = if c = 0 then 0 else fc p c := by
  induction d with
  | zero => omega
  | succ d ih =>
    by_cases hd : d = 0
    · subst hd
      by_cases hc : c = 0
      · subst hc; rfl
      · have : c = 1 := by omega
        subst this; rfl
    · by_cases hc : c = d + 1
      · subst hc; rw [if_neg (by omega)]
      · rw [fc_succ p d (by omega), h d (by omega) (by omega) (by omega), ih (by omega) (fun e h1 h2 h3 => h e h1 (by omega) h3) (by omega)]; simp
/-- rounds behind so many cards -/
def roundsAt (p : List Int) (c : Nat) : Int := if c = 0 then 0 else 1 + (fc p c : Int)
/-- one pass from card c on: behind i places cur is looked for -/
structure Pass (o : List Int) (c i cur : Int) : Prop where
  le : 0 ≤ c ∧ c ≤ cur ∧ cur ≤ o.length
  seen : ∀ d : Int, c ≤ d → d < cur → (o.idxOf d : Int) < i
  up : ∀ d : Int, c < d → d < cur → o.idxOf (d - 1) < o.idxOf d
  nx : cur < o.length → (i ≤ o.idxOf cur ∨ (c < cur ∧ o.idxOf cur < o.idxOf (cur - 1)))
theorem Pass.start {o : List Int} {c : Int} (h0 : 0 ≤ c) (h1 : c < o.length) : Pass o c 0 c :=
  ⟨⟨h0, Int.le_refl _, by omega⟩, fun d _ _ => by omega, fun d _ _ => by omega, fun _ => .inl (by omega)⟩
theorem Pass.hit {o : List Int} {c cur : Int} {i : Nat} (ho : IsOrd o) (p : Pass o c i cur) (e : o[i]? = some cur) : Pass o c ((i : Int) + 1) (cur + 1) := by
  have hi := idxOf_at ho.nodup e
  have hb := ho.bd e
  have hl := p.le
  refine ⟨by omega, fun d h1 h2 => ?_, fun d h1 h2 => ?_, fun h => ?_⟩
  · by_cases hd : d = cur
    · subst hd; omega
    · have := p.seen d h1 (by omega); omega
  · by_cases hd : d = cur
    · subst hd
      have := p.seen (d - 1) (by omega) (by omega)
      omega
    · exact p.up d h1 (by omega)
  · by_cases hq : (i : Int) + 1 ≤ o.idxOf (cur + 1)
    · exact .inl hq
    · refine .inr ⟨by omega, ?_⟩
      rw [show cur + 1 - 1 = cur by omega, hi]
      have hne : o.idxOf (cur + 1) ≠ i := fun z => by
        have h3 := at_idxOf (ho.mem.mpr ⟨show (0 : Int) ≤ cur + 1 by omega, h⟩)
        rw [z, List.getD_eq_getElem?_getD, e] at h3
        simp at h3
        omega
      omega
theorem Pass.miss {o : List Int} {c cur x : Int} {i : Nat} (ho : IsOrd o) (p : Pass o c i cur) (e : o[i]? = some x) (hne : ¬ x = cur) : Pass o c ((i : Int) + 1) cur := by
  have hl := p.le
  refine ⟨hl, fun d h1 h2 => by have := p.seen d h1 h2; omega, p.up, fun h => ?_⟩
  rcases p.nx h with q | q
  · left
    have : o.idxOf cur ≠ i := fun z => by
      have h3 := at_idxOf (ho.mem.mpr ⟨show (0 : Int) ≤ cur by omega, h⟩)
      rw [z, List.getD_eq_getElem?_getD, e] at h3
      simp at h3
      omega
    omega
  · exact .inr q
theorem Pass.more {o : List Int} {c cur : Int} (ho : IsOrd o) (hc : c < o.length) (p : Pass o c o.length cur) : c < cur := by
  have hl := p.le
  by_cases h : c = cur
  · subst h
    rcases p.nx hc with q | q
    · have := List.idxOf_lt_length_of_mem (ho.mem.mpr ⟨hl.1, hc⟩); omega
    · omega
  · omega
theorem placesI_at {o : List Int} {d : Nat} (h : d < o.length) : (placesI o).getD d 0 = (o.idxOf (d : Int) : Int) := placesI_getD h
theorem Pass.rounds {o : List Int} {c cur r : Int} (ho : IsOrd o) (hc : c < o.length) (p : Pass o c o.length cur) (hr : r = roundsAt (placesI o) c.toNat)
    (hs : c = 0 ∨ c = o.length ∨ isFall (placesI o) (c.toNat - 1) = true) : r + 1 = roundsAt (placesI o) cur.toNat := by
  have hl := p.le
  have hm := p.more ho hc
  obtain ⟨a, rfl⟩ := Int.eq_ofNat_of_zero_le hl.1
  obtain ⟨b, rfl⟩ := Int.eq_ofNat_of_zero_le (show 0 ≤ cur by omega)
  rw [Int.toNat_natCast] at *
  have key := fc_run (placesI o) (c := a + 1) (d := b) (by omega) (fun e h1 h2 h3 => by
    have hu := p.up (e : Int) (by omega) (by omega)
    unfold isFall
    rw [placesI_at (by omega), placesI_at (by omega)]
    have e1 : ((e - 1 + 1 : Nat) : Int) = e := by omega
    have e2 : ((e - 1 : Nat) : Int) = (e : Int) - 1 := by omega
    rw [e1, e2]
    exact decide_eq_false (by omega)) (by omega)
  rw [if_neg (by omega)] at key
  unfold roundsAt at *
  rw [if_neg (show ¬ b = 0 by omega), key, hr]
  by_cases h0 : a = 0
  · subst h0; rfl
  · rw [if_neg h0, fc_succ _ _ (by omega)]
    rcases hs with q | q | q
    · omega
    · omega
    · rw [if_pos q]; omega
theorem Pass.fall {o : List Int} {c cur : Int} (ho : IsOrd o) (hc : c < o.length) (p : Pass o c o.length cur) : cur = 0 ∨ cur = o.length ∨ isFall (placesI o) (cur.toNat - 1) = true := by
  have hl := p.le
  have hm := p.more ho hc
  by_cases h : cur < o.length
  · right; right
    rcases p.nx h with q | q
    · have := List.idxOf_lt_length_of_mem (ho.mem.mpr ⟨show 0 ≤ cur by omega, h⟩); omega
    · obtain ⟨b, rfl⟩ := Int.eq_ofNat_of_zero_le (show 0 ≤ cur by omega)
      rw [Int.toNat_natCast]
      unfold isFall
      rw [placesI_at (by omega), placesI_at (by omega)]
      have e1 : ((b - 1 + 1 : Nat) : Int) = b := by omega
      have e2 : ((b - 1 : Nat) : Int) = (b : Int) - 1 := by omega
      rw [e1, e2]
      exact decide_eq_true (by omega)
  · omega
/-- runs -/
def runsI (o : List Int) : Nat := 1 + fallsI (placesI o)
theorem taken_runs {o : List Int} {c r : Int} (h1 : 1 ≤ o.length) (hc : c = o.length) (hr : r = roundsAt (placesI o) c.toNat) : r = runsI o := by
  subst hc
  rw [hr, Int.toNat_natCast]
  unfold roundsAt runsI fallsI
  rw [if_neg (by omega), placesI_length]; omega
theorem range_rev (m : Nat) : (List.range m).map (fun i => m - 1 - i) = (List.range m).reverse := by
  apply List.ext_getElem
  · simp
  · intro i h1 h2
    simp at h1 ⊢
theorem count_rev (m : Nat) (p : Nat → Bool) : ((List.range m).filter fun i => p (m - 1 - i)).length = ((List.range m).filter p).length := by
  have h1 : ((List.range m).filter fun i => p (m - 1 - i)).length = (((List.range m).map fun i => m - 1 - i).filter p).length := by
    rw [List.filter_map, List.length_map]; rfl
  rw [h1, range_rev, List.filter_reverse, List.length_reverse]
theorem count_not (l : List Nat) (p : Nat → Bool) : (l.filter p).length + (l.filter fun i => !p i).length = l.length := by
  induction l with
  | nil => rfl
  | cons x l ih =>
    cases h : p x <;> simp [List.filter_cons, h] <;> omega
theorem falls_reverse {o : List Int} (hn : o.Nodup) (h1 : 1 ≤ o.length) : (fallsI o.reverse : Int) = (o.length : Int) - 1 - fallsI o := by
  unfold fallsI fc
  rw [List.length_reverse]
  have hc := count_not (List.range (o.length - 1)) (isFall o)
  have hr := count_rev (o.length - 1) (fun i => !isFall o i)
  have he : ((List.range (o.length - 1)).filter (isFall o.reverse)).length = ((List.range (o.length - 1)).filter fun i => !isFall o (o.length - 1 - 1 - i)).length := by
    congr 1
    apply List.filter_congr
    intro i hi
    have hi' := List.mem_range.mp hi
    have e1 : o.reverse.getD (i + 1) 0 = o.getD (o.length - 1 - 1 - i) 0 := by
      rw [List.getD_eq_getElem?_getD, List.getElem?_reverse (by omega), List.getD_eq_getElem?_getD]
      congr 2; omega
    have e2 : o.reverse.getD i 0 = o.getD (o.length - 1 - 1 - i + 1) 0 := by
      rw [List.getD_eq_getElem?_getD, List.getElem?_reverse (by omega), List.getD_eq_getElem?_getD]
      congr 2; omega
    unfold isFall
    rw [e1, e2]
    generalize hj : o.length - 1 - 1 - i = j
    have hj1 : j + 1 < o.length := by omega
    have hne : o.getD j 0 ≠ o.getD (j + 1) 0 := by
      intro z
      have q1 : o[j]? = some (o.getD j 0) := by rw [List.getD_eq_getElem?_getD, List.getElem?_eq_getElem (by omega)]; rfl
      have q2 : o[j + 1]? = some (o.getD (j + 1) 0) := by rw [List.getD_eq_getElem?_getD, List.getElem?_eq_getElem hj1]; rfl
      have := idxOf_at hn q1
      have := idxOf_at hn q2
      rw [z] at *
      omega
    by_cases hlt : o.getD j 0 < o.getD (j + 1) 0
    · rw [decide_eq_true hlt, decide_eq_false (by omega)]; rfl
    · rw [decide_eq_false hlt, decide_eq_true (by omega)]; rfl
  rw [he, hr]
  rw [List.length_range] at hc
  omega
theorem runs_places {o : List Int} (h : IsOrd o) : runsI (placesI o) = fallsI o + 1 := by
  unfold runsI; rw [placesI_placesI h]; omega
end Rc
namespace Rc
/-- orders by their falls -/
def eul : Nat → Nat → Nat
  | 0, 0 => 1
  | 0, _ + 1 => 0
  | m + 1, 0 => eul m 0
  | m + 1, k + 1 => (k + 2) * eul m (k + 1) + (m - k) * eul m k
def eulRow (n : Nat) : List Int := (List.range n).map fun k => (eul n k : Int)
@[simp] theorem eulRow_length (n : Nat) : (eulRow n).length = n := by simp [eulRow]
theorem eul_s0 (m : Nat) : eul (m + 1) 0 = eul m 0 := by cases m <;> rfl
theorem eul_ss (m k : Nat) : eul (m + 1) (k + 1) = (k + 2) * eul m (k + 1) + (m - k) * eul m k := by cases m <;> rfl
theorem eul_gt : ∀ {m k : Nat}, m < k → eul m k = 0
  | _, 0, h => by omega
  | 0, _ + 1, _ => rfl
  | m + 1, k + 1, h => by rw [eul_ss, eul_gt (show m < k + 1 by omega), eul_gt (show m < k by omega)]; simp
theorem eul_self (m : Nat) : eul (m + 1) (m + 1) = 0 := by
  rw [eul_ss, eul_gt (Nat.lt_succ_self m)]; simp
theorem eul_zero : ∀ m : Nat, eul m 0 = 1
  | 0 => rfl
  | m + 1 => by rw [eul_s0, eul_zero m]
theorem eul_le : ∀ {m : Nat} (k : Nat), m ≤ 60 → eul m k ≤ 64 ^ m
  | 0, 0, _ => by decide
  | 0, _ + 1, _ => by simp [eul]
  | m + 1, 0, h => by rw [eul_zero]; exact Nat.one_le_pow _ _ (by decide)
  | m + 1, k + 1, h => by
    by_cases hk : k ≤ m
    · have h1 := eul_le (m := m) (k + 1) (by omega)
      have h2 := eul_le (m := m) k (by omega)
      rw [eul_ss, Nat.pow_succ]
      have a := Nat.mul_le_mul_left (k + 2) h1
      have b := Nat.mul_le_mul_left (m - k) h2
      have c : (k + 2) * 64 ^ m + (m - k) * 64 ^ m = (m + 2) * 64 ^ m := by rw [← Nat.add_mul]; congr 1; omega
      have d : (m + 2) * 64 ^ m ≤ 64 * 64 ^ m := Nat.mul_le_mul_right _ (by omega)
      omega
    · rw [eul_gt (by omega)]; exact Nat.zero_le _
theorem Bd.eul {m : Nat} (k : Nat) (h : m ≤ 60) : Bd 361 (Rc.eul m k : Nat) := ⟨by
  rw [Int.natAbs_natCast]
  have h1 := eul_le k h
  have h2 : (64 : Nat) ^ m ≤ 64 ^ 60 := Nat.pow_le_pow_right (by decide) h
  have h3 : (64 : Nat) ^ 60 < 2 ^ 361 := by decide
  omega⟩
theorem eul_symm : ∀ (m k : Nat), k ≤ m → eul (m + 1) k = eul (m + 1) (m - k)
  | 0, k, h => by rw [show k = 0 by omega]
  | m + 1, 0, _ => by
    rw [show m + 1 - 0 = m + 1 by omega, eul_ss (m + 1) m, eul_self, eul_zero]
    have := eul_symm m 0 (by omega)
    rw [eul_zero] at this
    rw [show m - 0 = m by omega] at this
    rw [← this]; simp
  | m + 1, k + 1, h => by
    by_cases hk : k = m
    · subst hk
      rw [show k + 1 - (k + 1) = 0 by omega, eul_zero, eul_ss, eul_self]
      have := eul_symm k 0 (by omega)
      rw [eul_zero, show k - 0 = k by omega] at this
      rw [← this]; simp
    · obtain ⟨j, hj⟩ : ∃ j, m = k + 1 + j := ⟨m - k - 1, by omega⟩
      have e1 := eul_symm m (k + 1) (by omega)
      have e2 := eul_symm m k (by omega)
      rw [show m + 1 - (k + 1) = j + 1 by omega]
      rw [eul_ss (m + 1) k, eul_ss (m + 1) j, e1, e2, show m - (k + 1) = j by omega, show m - k = j + 1 by omega,
        show m + 1 - k = j + 2 by omega, show m + 1 - j = k + 2 by omega]
      omega
theorem eulRow_reverse {n : Nat} (h : 1 ≤ n) : (eulRow n).reverse = eulRow n := by
  obtain ⟨m, rfl⟩ : ∃ m, n = m + 1 := ⟨n - 1, by omega⟩
  apply List.ext_getElem?
  intro i
  by_cases hi : i < m + 1
  · rw [List.getElem?_reverse (by simpa using hi)]
    simp only [eulRow, List.length_map, List.length_range]
    rw [List.getElem?_map, List.getElem?_map, List.getElem?_range (by omega), List.getElem?_range hi]
    simp only [Option.map_some]
    rw [show m + 1 - 1 - i = m - i by omega, ← eul_symm m i (by omega)]
  · rw [List.getElem?_eq_none (by simpa using by omega), List.getElem?_eq_none (by simpa using by omega)]
/-- a row's number, and nought beside it -/
theorem wider_getD (m k : Nat) : (([0] ++ eulRow m) ++ [0]).getD (k + 1) 0 = if k < m then (eul m k : Int) else 0 := by
  simp only [List.getD_eq_getElem?_getD]
  by_cases h : k < m
  · rw [if_pos h, List.getElem?_append_left (by simp; omega), List.getElem?_append_right (by simp)]
    simp [eulRow, h]
  · rw [if_neg h]
    by_cases h2 : k = m
    · rw [List.getElem?_append_right (by simp; omega)]
      simp [h2]
    · rw [List.getElem?_eq_none (by simp; omega)]; rfl
theorem wider_zero (m : Nat) : (([0] ++ eulRow m) ++ [0]).getD 0 0 = 0 := by simp
theorem wider_bd {m : Nat} (h : m ≤ 60) (k : Nat) : Bd 361 ((([0] ++ eulRow m) ++ [0]).getD k 0) := by
  cases k with
  | zero => rw [wider_zero]; exact ⟨by decide⟩
  | succ k =>
    rw [wider_getD]
    split
    · exact Bd.eul _ h
    · exact ⟨by decide⟩
theorem eul_next {m : Nat} : (List.range (m + 2)).map (fun i : Nat => ((i : Int) + 1) * (([0] ++ eulRow (m + 1)) ++ [0]).getD (i + 1) 0 + (2 + (m : Int) - i) * (([0] ++ eulRow (m + 1)) ++ [0]).getD i 0) = eulRow (m + 2) := by
  rw [show eulRow (m + 2) = (List.range (m + 2)).map fun k => (eul (m + 2) k : Int) from rfl]
  apply List.map_congr_left
  intro i hi
  have hi := List.mem_range.mp hi
  rw [wider_getD]
  cases i with
  | zero =>
    rw [wider_zero, if_pos (by omega), eul_zero, eul_zero]; simp
  | succ k =>
    rw [wider_getD, if_pos (show k < m + 1 by omega), eul_ss (m + 1) k]
    by_cases hk : k + 1 < m + 1
    · rw [if_pos hk]
      obtain ⟨j, rfl⟩ : ∃ j, m = k + 1 + j := ⟨m - k - 1, by omega⟩
      rw [show k + 1 + j + 1 - k = j + 2 by omega]
      push_cast
      grind
    · have : k = m := by omega
      subst this
      rw [if_neg hk, eul_self, show k + 1 - k = 1 by omega]
      push_cast
      grind
/-- Worpitzky's law -/
theorem worp_id (x K n : Nat) (h : K ≤ n) : (K + 1) * bin (x + K) (n + 1) + (n - K) * bin (x + K + 1) (n + 1) = x * bin (x + K) n := by
  have h1 := bin_mul (x + K) n
  rw [bin_succ]
  obtain ⟨j, rfl⟩ : ∃ j, n = K + j := ⟨n - K, by omega⟩
  rw [show K + j - K = j by omega]
  have h2 : ((K + j) + 1) * bin (x + K) (K + j + 1) + (K + j) * bin (x + K) (K + j) = (x + K) * bin (x + K) (K + j) := h1
  grind
def worpS (x n : Nat) : Nat → Nat
  | 0 => 0
  | K + 1 => worpS x n K + eul n K * bin (x + K) n
theorem worp_step (x n : Nat) : ∀ K, K ≤ n → worpS x (n + 1) (K + 1) + (n - K) * (eul n K * bin (x + K + 1) (n + 1)) = x * worpS x n (K + 1)
  | 0, _ => by
    have := worp_id x 0 n (by omega)
    simp only [worpS, eul_zero, Nat.add_zero, Nat.zero_add, Nat.one_mul, Nat.sub_zero] at this ⊢
    exact this
  | K + 1, h => by
    have ih := worp_step x n K (by omega)
    have id := worp_id x (K + 1) n h
    rw [show worpS x n (K + 1 + 1) = worpS x n (K + 1) + eul n (K + 1) * bin (x + (K + 1)) n from rfl, show worpS x (n + 1) (K + 1 + 1) = worpS x (n + 1) (K + 1) + eul (n + 1) (K + 1) * bin (x + (K + 1)) (n + 1) from rfl, Nat.mul_add, ← ih, eul_ss]
    have e : x * (eul n (K + 1) * bin (x + (K + 1)) n) = eul n (K + 1) * (x * bin (x + (K + 1)) n) := by
      rw [← Nat.mul_assoc, Nat.mul_comm x, Nat.mul_assoc]
    rw [e, ← id, show x + K + 1 = x + (K + 1) by omega]
    grind
theorem worp : ∀ (n x : Nat), worpS x n (n + 1) = x ^ n
  | 0, x => by simp [worpS, eul]
  | n + 1, x => by
    have h := worp_step x n n (Nat.le_refl _)
    have ih := worp n x
    rw [worpS, eul_self, Nat.pow_succ, ← ih]
    simp only [Nat.sub_self, Nat.zero_mul, Nat.add_zero] at h ⊢
    rw [h, Nat.mul_comm]
theorem worp_all {n : Nat} (x : Nat) (h : 1 ≤ n) : worpS x n n = x ^ n := by
  obtain ⟨m, rfl⟩ : ∃ m, n = m + 1 := ⟨n - 1, by omega⟩
  have := worp (m + 1) x
  rwa [worpS, eul_self, Nat.zero_mul, Nat.add_zero] at this
theorem worp_sum (x n : Nat) (f : Nat → Int) (hf : ∀ k, k < n → f k = (eul n k : Int) * (bin (x + k) n : Int)) : ∀ K, K ≤ n → ((List.range K).map f).sum = (worpS x n K : Int)
  | 0, _ => rfl
  | K + 1, h => by
    rw [List.range_succ, List.map_append, List.sum_append, worp_sum x n f hf K (by omega), worpS]
    simp [hf K (by omega)]
theorem worpitzky {n : Nat} {x : Int} (h0 : 0 ≤ x) (h : 1 ≤ n) (f : Nat → Int) (hf : ∀ k, k < n → f k = (eulRow n).getD k 0 * chooseZ (x + k) n) : ((List.range n).map f).sum = x ^ n := by
  obtain ⟨y, rfl⟩ := Int.eq_ofNat_of_zero_le h0
  rw [worp_sum y n f ?_ n (Nat.le_refl _), worp_all y h]
  · simp
  · intro k hk
    rw [hf k hk]
    congr 1
    · simp [eulRow, hk, List.getD_eq_getElem?_getD]
    · unfold chooseZ
      split
      · rename_i hc
        rw [bin_gt (by omega)]; rfl
      · congr 2
theorem Bd.pow {B : Nat} {x : Int} (h : Bd B x) : ∀ i : Nat, Bd (B * i + 1) (x ^ i)
  | 0 => by simpa using Bd.one 0
  | i + 1 => by
    rw [Int.pow_succ, show B * (i + 1) + 1 = (B * i + 1) + B by rw [Nat.mul_succ]; omega]
    exact (Bd.pow h i).mul h
theorem eulRow_bd {n : Nat} (h : n ≤ 60) (k : Nat) : Bd 361 ((eulRow n).getD k 0) := by
  by_cases hk : k < n
  · rw [show (eulRow n).getD k 0 = (eul n k : Int) by simp [eulRow, hk, List.getD_eq_getElem?_getD]]
    exact Bd.eul _ h
  · rw [show (eulRow n).getD k 0 = 0 by rw [List.getD_eq_getElem?_getD, List.getElem?_eq_none (by simpa using by omega)]; rfl]
    exact ⟨by decide⟩
theorem Bd.choose {n k : Int} {B : Nat} (hn : n < 2 ^ B) (hk : 0 ≤ k) (hk2 : k ≤ 60) : Bd (B * 60 + 1) (chooseZ n k) := by
  unfold chooseZ
  split
  · exact ⟨by have := Nat.pow_le_pow_right (n := 2) (by decide) (show 1 ≤ B * 60 + 1 by omega); show 0 < _; omega⟩
  · have e : n.toNat < 2 ^ B := by
      have : ((2 ^ B : Nat) : Int) = 2 ^ B := by push_cast; rfl
      omega
    exact (Bd.bin e).mono (by have := Nat.mul_le_mul_left B (show k.toNat ≤ 60 by omega); omega)
/-- the orders that a number draws -/
def drawTo (x : Int) (n : Nat) : Nat → List Int × List Int × Int
  | 0 => ([], upto n, x)
  | k + 1 =>
    let s := drawTo x n k
    (s.1 ++ [s.2.1.getD (Int.toNat (s.2.2 % (s.2.1.length : Int))) 0], s.2.1.eraseIdx (Int.toNat (s.2.2 % (s.2.1.length : Int))), s.2.2 / ((n : Int) - k))
def drawI (x : Int) (n : Nat) : List Int := (drawTo x n n).1
def factI : Nat → Int
  | 0 => 1
  | k + 1 => factI k * (k + 1)
theorem factI_6 : ∀ {n : Nat}, n ≤ 6 → 1 ≤ factI n ∧ factI n ≤ 720
  | 0, _ | 1, _ | 2, _ | 3, _ | 4, _ | 5, _ | 6, _ => by decide
def listTo (n : Nat) : Nat → List Int
  | 0 => List.replicate n 0
  | j + 1 => (listTo n j).set (fallsI (drawI j n)) ((listTo n j).getD (fallsI (drawI j n)) 0 + 1)
@[simp] theorem listTo_length (n : Nat) : ∀ j, (listTo n j).length = n
  | 0 => by simp [listTo]
  | j + 1 => by rw [listTo, List.length_set, listTo_length n j]
def listedI (n : Nat) : List Int := listTo n (factI n).toNat
set_option maxRecDepth 100000 in
theorem listed_fin : ∀ n : Fin 6, eulRow (n.1 + 1) = listedI (n.1 + 1) := by decide +kernel
theorem listed_eul {n : Nat} (h1 : 1 ≤ n) (h2 : n ≤ 6) : eulRow n = listedI n := by
  have := listed_fin ⟨n - 1, by omega⟩
  rwa [show n - 1 + 1 = n by omega] at this
theorem drawTo_len (x : Int) (n : Nat) : ∀ k, (drawTo x n k).1.length = k
  | 0 => rfl
  | k + 1 => by rw [drawTo]; simp [drawTo_len x n k]
theorem drawI_length (x : Int) (n : Nat) : (drawI x n).length = n := drawTo_len x n n
theorem falls_count {o : List Int} {n : Int} (h : o.length = Int.toNat n) (h1 : 1 ≤ n) : (List.map (fun i : Nat => (i : Int)) (List.filter (fun i : Nat => decide (o.getD (Int.toNat ((i : Int) + 1)) 0 < o.getD (Int.toNat (i : Int)) 0)) (List.range (Int.toNat (n - 1))))).length = fallsI o := by
  rw [List.length_map, ← fallsI_eq, show n - 1 = (o.length : Int) - 1 by omega]
theorem fallsI_lt {o : List Int} {n : Int} (h : o.length = Int.toNat n) (h1 : 1 ≤ n) : (fallsI o : Int) < n := by
  rw [← falls_count h h1, List.length_map]
  have := List.length_filter_le (fun i : Nat => decide (o.getD (Int.toNat ((i : Int) + 1)) 0 < o.getD (Int.toNat (i : Int)) 0)) (List.range (Int.toNat (n - 1)))
  rw [List.length_range] at this
  omega
end Rc
namespace Rc
theorem gcd_step {a b : Int} : Int.gcd b (a % b) = Int.gcd a b := by
  have h := Int.gcd_add_mul_left_right b (a % b) (a / b)
  rw [Int.emod_add_mul_ediv] at h
  rw [← h, Int.gcd_comm]
theorem gcd_zero' {a : Int} (h : 0 ≤ a) : ((Int.gcd a 0 : Nat) : Int) = a := by
  rw [Int.gcd_zero_right]; omega
theorem gcd_pos' {a b : Int} (h : 1 ≤ b) : 1 ≤ ((Int.gcd a b : Nat) : Int) := by
  have := Int.gcd_pos_of_ne_zero_right a (show b ≠ 0 by omega)
  omega
theorem gcd_le' {a b : Int} (h : 1 ≤ b) : ((Int.gcd a b : Nat) : Int) ≤ b := by
  have : (Int.gcd a b : Int) ∣ b := Int.gcd_dvd_right ..
  exact Int.le_of_dvd (by omega) this
theorem Bd.gcd {a b : Int} {B : Nat} (h : 1 ≤ b) (hb : Bd B b) : Bd B ((Int.gcd a b : Nat) : Int) := ⟨by
  have h1 := hb.lt
  have := gcd_le' (a := a) h
  omega⟩
theorem frac_eq (a b : Int) : a / (Int.gcd a b : Int) * b = a * (b / (Int.gcd a b : Int)) := by
  obtain ⟨x, hx⟩ : (Int.gcd a b : Int) ∣ a := Int.gcd_dvd_left ..
  obtain ⟨y, hy⟩ : (Int.gcd a b : Int) ∣ b := Int.gcd_dvd_right ..
  by_cases h : (Int.gcd a b : Int) = 0
  · rw [h] at hx hy
    have hx0 : a = 0 := by simpa using hx
    have hy0 : b = 0 := by simpa using hy
    simp [hx0, hy0]
  · generalize hg : (Int.gcd a b : Int) = g at *
    rw [hx, hy, Int.mul_ediv_cancel_left _ h, Int.mul_ediv_cancel_left _ h]
    grind
theorem frac_cop {a b : Int} (h : 1 ≤ b) : Int.gcd (a / (Int.gcd a b : Int)) (b / (Int.gcd a b : Int)) = 1 :=
  Int.gcd_ediv_gcd_ediv_gcd (by have := gcd_pos' (a := a) h; omega)
theorem frac_pos {a b : Int} (h : 1 ≤ b) : 1 ≤ b / (Int.gcd a b : Int) := by
  have h1 := gcd_pos' (a := a) h
  exact (Int.le_ediv_iff_mul_le (by omega)).mpr (by have := gcd_le' (a := a) h; omega)
theorem frac_zero {a b : Int} (h0 : 0 ≤ a) (h : 1 ≤ b) : a / (Int.gcd a b : Int) = 0 ↔ a = 0 := by
  constructor
  · intro e
    have := frac_eq a b
    rw [e] at this
    have hp := frac_pos (a := a) h
    have h0' : a * (b / (Int.gcd a b : Int)) = 0 := by simpa using this.symm
    rcases Int.mul_eq_zero.mp h0' with h | h
    · exact h
    · omega
  · intro e; subst e; simp
theorem Bd.div {a b : Int} {B : Nat} (h : Bd B a) (h0 : 0 ≤ a) (hb : 1 ≤ b) : Bd B (a / b) := ⟨by
  have h1 := Int.ediv_le_self b h0
  have h2 := Int.ediv_nonneg h0 (show 0 ≤ b by omega)
  have := h.lt
  omega⟩
theorem Bd.add {a : Nat} {i j : Int} (h : Bd a i) (h' : Bd a j) : Bd (a + 1) (i + j) := ⟨by
  have h1 := h.lt
  have h2 := h'.lt
  have : 2 ^ (a + 1) = 2 * 2 ^ a := by rw [Nat.pow_succ, Nat.mul_comm]
  omega⟩
/-- chances -/
theorem falling_fact (k : Nat) : falling ((k + 1 : Nat) : Int) (k + 1) = ((k : Int) + 1) * falling k k := by
  have key : ∀ k j : Nat, falling ((k + 1 : Nat) : Int) (j + 1) = ((k : Int) + 1) * falling k j := by
    intro k j
    induction j with
    | zero => simp [falling]
    | succ j ih => rw [falling, ih, falling]; grind
  exact key k k
def factN (k : Nat) : Int := falling k k
theorem factN_succ (k : Nat) : factN k * ((k : Int) + 1) = factN (k + 1) := by
  unfold factN; rw [falling_fact, Int.mul_comm]
theorem factN_pos : ∀ k : Nat, 0 < factN k
  | 0 => by decide
  | k + 1 => by rw [← factN_succ]; exact Int.mul_pos (factN_pos k) (by omega)
theorem choose_div {n : Int} {k : Nat} (h0 : 0 ≤ n) (h1 : (k : Int) ≤ n) : falling n k / factN k = chooseZ n k := by
  rw [chooseZ_in (by omega) h1]
  have := choose_falls (n := n) (k := k) (by omega) h1
  rw [Int.toNat_natCast] at this ⊢
  unfold factN
  rw [← this]
  exact Int.mul_ediv_cancel _ (by have := factN_pos k; unfold factN at this; omega)
theorem Bd.factN {k : Nat} (h : k ≤ 30) : Bd 200 (Rc.factN k) := by
  have := Bd.falling (n := k) (B := 5) ⟨by omega⟩ (by omega) (t := k) (by omega)
  exact this.mono (by omega)
theorem chooseZ_nonneg (n k : Int) : 0 ≤ chooseZ n k := by unfold chooseZ; split <;> omega
theorem bin_mono {a b : Nat} (h : a ≤ b) : ∀ k, bin a k ≤ bin b k := by
  induction h with
  | refl => intro k; exact Nat.le_refl _
  | step _ ih =>
    intro k
    cases k with
    | zero => simp
    | succ k => rw [bin_succ]; have := ih (k + 1); omega
theorem chooseZ_mono {a b k : Int} (h : a ≤ b) : chooseZ a k ≤ chooseZ b k := by
  by_cases hk : 0 ≤ k ∧ k ≤ a
  · rw [chooseZ_in hk.1 hk.2, chooseZ_in hk.1 (by omega)]
    exact_mod_cast bin_mono (show a.toNat ≤ b.toNat by omega) k.toNat
  · rw [chooseZ_out (n := a) (by omega)]; exact chooseZ_nonneg _ _
theorem chooseZ_zero_iff {n h r : Int} (hn : 1 ≤ n) (hr : r ≤ n) (hh : 1 ≤ h) : chooseZ (h + n - r) n = 0 ↔ h < r := by
  constructor
  · intro e
    by_cases hc : h < r
    · exact hc
    · exfalso
      rw [chooseZ_in (by omega) (by omega)] at e
      have : 0 < bin (h + n - r).toNat n.toNat := by
        have h1 := bin_mono (show n.toNat ≤ (h + n - r).toNat by omega) n.toNat
        rw [bin_self] at h1; omega
      omega
  · intro hc; exact chooseZ_out (by omega)
/-- the sum by runs -/
def totI (n : Nat) (h : Int) (i : Nat) : Int := ((List.range i).map fun k : Nat => (eulRow n).getD k 0 * chooseZ (h + n - (1 + k)) n).sum
theorem totI_succ (n : Nat) (h : Int) (i : Nat) : totI n h (i + 1) = totI n h i + (eulRow n).getD i 0 * chooseZ (h + n - (1 + i)) n := by
  unfold totI; rw [List.range_succ, List.map_append, List.sum_append]; simp
theorem eulRow_getD {n k : Nat} (h : k < n) : (eulRow n).getD k 0 = (eul n k : Int) := by simp [eulRow, h, List.getD_eq_getElem?_getD]
theorem eulRow_symm {n k : Nat} (h : k < n) : (eulRow n).getD (n - 1 - k) 0 = (eulRow n).getD k 0 := by
  rw [eulRow_getD h, eulRow_getD (by omega)]
  obtain ⟨m, rfl⟩ : ∃ m, n = m + 1 := ⟨n - 1, by omega⟩
  rw [show m + 1 - 1 - k = m - k by omega, ← eul_symm m k (by omega)]
theorem totI_all {n : Nat} {h : Int} (h0 : 0 ≤ h) (h1 : 1 ≤ n) : totI n h n = h ^ n := by
  rw [← worpitzky h0 h1 (fun k => (eulRow n).getD k 0 * chooseZ (h + k) n) (fun _ _ => rfl)]
  unfold totI
  have e : (List.range n).map (fun k : Nat => (eulRow n).getD k 0 * chooseZ (h + n - (1 + k)) n) = ((List.range n).map fun i => n - 1 - i).map (fun k : Nat => (eulRow n).getD k 0 * chooseZ (h + k) n) := by
    rw [List.map_map]
    apply List.map_congr_left
    intro k hk
    have hk := List.mem_range.mp hk
    simp only [Function.comp_apply]
    rw [eulRow_symm hk, show h + n - (1 + (k : Int)) = h + ((n - 1 - k : Nat) : Int) by omega]
  rw [e, range_rev, List.map_reverse, List.sum_reverse]
theorem first_le {n : Nat} {h : Int} (h0 : 0 ≤ h) (h1 : 1 ≤ n) : chooseZ (h + n - 1) n ≤ h ^ n := by
  rw [← totI_all h0 h1]
  have key : ∀ i, chooseZ (h + n - 1) n ≤ totI n h (i + 1) := by
    intro i
    induction i with
    | zero =>
      rw [totI_succ, eulRow_getD (by omega), eul_zero]
      simp [totI]
    | succ i ih =>
      rw [totI_succ]
      have a : 0 ≤ (eulRow n).getD (i + 1) 0 := by
        by_cases hi : i + 1 < n
        · rw [eulRow_getD hi]; omega
        · rw [List.getD_eq_getElem?_getD, List.getElem?_eq_none (by simpa using by omega)]; simp
      have := Int.mul_nonneg a (chooseZ_nonneg (h + n - (1 + ((i + 1 : Nat) : Int))) n)
      omega
  have := key (n - 1)
  rwa [show n - 1 + 1 = n by omega] at this
/-- the row, a number at a time -/
def eulTo (n k : Nat) : List Int := (List.range k).map fun k => (eul n k : Int)
theorem eulTo_next {n k : Nat} {c : Int} (h : c = (eul n k : Int)) : eulTo n k ++ [c] = eulTo n (k + 1) := by
  unfold eulTo; rw [h, List.range_succ, List.map_append]; rfl
theorem eul_mid {m k : Nat} (h : k < m + 1) (h0 : 0 < k) (hk : k ≤ m) : (0 : Int) + ((k : Int) + 1) * (eulRow m).getD k 0 + ((m : Int) + 1 - k) * (eulRow m).getD (k - 1) 0 = (eul (m + 1) k : Int) := by
  obtain ⟨j, rfl⟩ : ∃ j, k = j + 1 := ⟨k - 1, by omega⟩
  rw [eul_ss, Nat.add_sub_cancel, eulRow_getD (show j < m by omega)]
  have e : (eulRow m).getD (j + 1) 0 = (eul m (j + 1) : Int) := by
    by_cases hj : j + 1 < m
    · exact eulRow_getD hj
    · rw [List.getD_eq_getElem?_getD, List.getElem?_eq_none (by simpa using by omega)]
      have : j + 1 = m := by omega
      rw [← this, eul_self]; rfl
  rw [e]
  obtain ⟨d, rfl⟩ : ∃ d, m = j + d := ⟨m - j, by omega⟩
  rw [show j + d - j = d by omega]
  push_cast
  grind
end Rc
namespace Rc
theorem eulRow_out {m k : Nat} (h : m ≤ k) : (eulRow m).getD k 0 = 0 := by
  rw [List.getD_eq_getElem?_getD, List.getElem?_eq_none (by simpa using h)]; rfl
theorem eul_c2 {m k : Nat} (h : ¬ (k : Int) < 2 + (m : Int) - 1) (hk : k < m + 2) (h0 : 0 < (k : Int)) : (0 : Int) + (2 + (m : Int) - k) * (eulRow (m + 1)).getD (Int.toNat ((k : Int) - 1)) 0 = (eul (m + 1 + 1) k : Int) := by
  have e : k = m + 1 := by omega
  subst e
  rw [eul_ss, eul_self, show Int.toNat (((m + 1 : Nat) : Int) - 1) = m by omega, eulRow_getD (by omega), show m + 1 - m = 1 by omega]
  push_cast
  grind
theorem eul_c3 {m k : Nat} (h0 : ¬ 0 < (k : Int)) : (0 : Int) + ((k : Int) + 1) * (eulRow (m + 1)).getD (Int.toNat (k : Int)) 0 = (eul (m + 1 + 1) k : Int) := by
  have e : k = 0 := by omega
  subst e
  rw [show Int.toNat ((0 : Nat) : Int) = 0 by rfl, eulRow_getD (by omega), eul_zero, eul_zero]; rfl
theorem eul_c1 {m k : Nat} (h : (k : Int) < 2 + (m : Int) - 1) (h0 : 0 < (k : Int)) : (0 : Int) + ((k : Int) + 1) * (eulRow (m + 1)).getD (Int.toNat (k : Int)) 0 + (2 + (m : Int) - k) * (eulRow (m + 1)).getD (Int.toNat ((k : Int) - 1)) 0 = (eul (m + 1 + 1) k : Int) := by
  have := eul_mid (m := m + 1) (k := k) (by omega) (by omega) (by omega)
  rw [← this, Int.toNat_natCast, show Int.toNat ((k : Int) - 1) = k - 1 by omega]
  push_cast
  grind
end Rc
namespace Rc
theorem bne_of {p q : Prop} {_ : Decidable p} {_ : Decidable q} (h : p ↔ q) : (decide p != decide q) = false := by
  by_cases hq : q
  · simp [h.mpr hq, hq]
  · have hp : ¬ p := fun e => hq (h.mp e)
    simp [hp, hq]
end Rc
namespace Rc
open PySem PySem.Spec PyProof.Rows L2
theorem log2_lt' {n k : Nat} (h : n < 2 ^ k) : n.log2 ≤ k := by
  by_cases h0 : n = 0
  · subst h0; exact Nat.zero_le _
  · exact Nat.le_of_lt ((Nat.log2_lt h0).mpr h)
theorem cmw {a b : Nat} {i j : Int} (h : Bd a i) (h' : Bd b j) (hs : a + b ≤ 900000) : CMulW i j := by
  have h1 := log2_lt' h.lt
  have h2 := log2_lt' h'.lt
  show i.natAbs.log2 + j.natAbs.log2 < 1000000
  omega
theorem cdw {b : Nat} {i j : Int} (h0 : 0 < j) (h : Bd b j) (hs : b ≤ 8000) : CDivW i j := by
  have h1 := log2_lt' h.lt
  exact ⟨h0, by omega⟩
end Rc
namespace Rc
open PySem PySem.W
/-! laid_by: card k goes to the place spots[k]; the row of falls over all words -/
theorem sortPl_perm (word : List Int) : (sortPl word).Perm (upto word.length) := List.mergeSort_perm _ _
theorem sortPl_length (word : List Int) : (sortPl word).length = word.length := by rw [(sortPl_perm word).length_eq, upto_length]
theorem sortPl_at {word : List Int} {k : Nat} (h : k < word.length) : 0 ≤ (sortPl word).getD k 0 ∧ (sortPl word).getD k 0 < word.length := by
  have hk : k < (sortPl word).length := by rw [sortPl_length]; exact h
  rw [List.getD_eq_getElem?_getD, List.getElem?_eq_getElem hk, Option.getD_some]
  exact mem_upto.mp ((sortPl_perm word).mem_iff.mp (List.getElem_mem hk))
def laidTo (order spots : List Int) : Nat → List Int
  | 0 => order
  | i + 1 => (laidTo order spots i).set (Int.toNat (spots.getD i 0)) (order.getD i 0)
theorem laidTo_length (order spots : List Int) : ∀ i, (laidTo order spots i).length = order.length
  | 0 => rfl
  | i + 1 => by rw [laidTo, List.length_set, laidTo_length order spots i]
def laidW (order word : List Int) : List Int := laidTo order (sortPl word) word.length
theorem laidW_length (order word : List Int) : (laidW order word).length = order.length := laidTo_length ..
/-- the lowest n digits of x to the base b, the lowest first -/
def digTo (b x : Int) : Nat → List Int
  | 0 => []
  | i + 1 => digTo b x i ++ [x / b ^ i % b]
theorem digTo_length (b x : Int) : ∀ n, (digTo b x n).length = n
  | 0 => rfl
  | n + 1 => by rw [digTo, List.length_append, digTo_length b x n]; rfl
theorem digTo_bd {b x : Int} (hb : 1 ≤ b) : ∀ n, ∀ d ∈ digTo b x n, 0 ≤ d ∧ d < b
  | 0, d, h => by cases h
  | n + 1, d, h => by
    rw [digTo, List.mem_append] at h
    rcases h with h | h
    · exact digTo_bd hb n d h
    · rw [List.mem_singleton.mp h]
      exact ⟨Int.emod_nonneg _ (by omega), Int.emod_lt_of_pos _ (by omega)⟩
theorem div_pow_succ {b x : Int} (hb : 1 ≤ b) (i : Nat) : x / b ^ i / b = x / b ^ (i + 1) := by
  rw [Int.pow_succ, Int.ediv_ediv_of_nonneg (Int.pow_nonneg (by omega))]
def bump (row : List Int) (f : Nat) : List Int := row.set f (row.getD f 0 + 1)
theorem bump_length (row : List Int) (f : Nat) : (bump row f).length = row.length := List.length_set ..
/-- the row of falls when the first i words are done -/
def rowL (order : List Int) (b : Int) : Nat → List Int
  | 0 => order.map fun _ => 0
  | i + 1 => bump (rowL order b i) (fallsI (laidW order (digTo b (i : Int) order.length)))
theorem rowL_length (order : List Int) (b : Int) : ∀ i, (rowL order b i).length = order.length
  | 0 => List.length_map _
  | i + 1 => by rw [rowL, bump_length, rowL_length order b i]
theorem bump_sum : ∀ {row : List Int} {f : Nat}, f < row.length → (bump row f).sum = row.sum + 1
  | x :: r, 0, _ => by simp [bump]; omega
  | x :: r, f + 1, h => by
    have := bump_sum (row := r) (f := f) (by simpa using h)
    simp only [bump, List.set_cons_succ, List.getD_cons_succ, List.sum_cons] at this ⊢
    omega
theorem fallsI_lt' {o : List Int} (h1 : 1 ≤ o.length) : fallsI o < o.length := by
  have e := fallsI_eq o
  have := List.length_filter_le (fun i : Nat => decide (o.getD (Int.toNat ((i : Int) + 1)) 0 < o.getD (Int.toNat (i : Int)) 0)) (List.range (Int.toNat ((o.length : Int) - 1)))
  rw [List.length_range, e] at this
  omega
theorem rowL_sum {order : List Int} {b : Int} (h1 : 1 ≤ order.length) : ∀ i, (rowL order b i).sum = (i : Int)
  | 0 => by
    show (order.map fun _ => (0 : Int)).sum = 0
    clear h1
    induction order with
    | nil => rfl
    | cons x r ih => rw [List.map_cons, List.sum_cons, ih]; rfl
  | i + 1 => by
    have hf := fallsI_lt' (o := laidW order (digTo b (i : Int) order.length)) (by rw [laidW_length]; exact h1)
    rw [laidW_length] at hf
    rw [rowL, bump_sum (by rw [rowL_length]; exact hf), rowL_sum h1 i]
    push_cast
    rfl
theorem pow_mono {b : Int} (hb : 1 ≤ b) {i n : Nat} (h : i ≤ n) : b ^ i ≤ b ^ n := by
  obtain ⟨k, rfl⟩ := Nat.exists_eq_add_of_le h
  rw [Int.pow_add]
  have h1 : 1 ≤ b ^ k := Int.pow_pos (by omega)
  have h2 : 0 ≤ b ^ i := Int.pow_nonneg (by omega)
  calc b ^ i = b ^ i * 1 := (Int.mul_one _).symm
    _ ≤ b ^ i * b ^ k := Int.mul_le_mul_of_nonneg_left h1 h2
theorem base_mono {b c : Int} (h0 : 0 ≤ c) (h : c ≤ b) : ∀ n : Nat, c ^ n ≤ b ^ n
  | 0 => by rw [Int.pow_zero, Int.pow_zero]; exact Int.le_refl _
  | n + 1 => by
    rw [Int.pow_succ, Int.pow_succ]
    exact Int.mul_le_mul (base_mono h0 h n) h h0 (Int.pow_nonneg (by omega))
theorem most_six {n : Int} (h : 1 ≤ n ∧ n ≤ 6) : n = 1 ∨ n = 2 ∨ n = 3 ∨ n = 4 ∨ n = 5 ∨ n = 6 := by omega
theorem most_bd {n : Int} (h : 1 ≤ n ∧ n ≤ 6) : 4 ≤ ([4096, 64, 16, 8, 5, 4] : List Int).getD (Int.toNat (n - 1)) 0 ∧ ([4096, 64, 16, 8, 5, 4] : List Int).getD (Int.toNat (n - 1)) 0 ≤ 4096 := by
  rcases most_six h with rfl | rfl | rfl | rfl | rfl | rfl <;> decide
theorem most_over {n b : Int} {k : Nat} (h : 1 ≤ n ∧ n ≤ 6) (hk : (k : Int) = n) (hb : ([4096, 64, 16, 8, 5, 4] : List Int).getD (Int.toNat (n - 1)) 0 + 1 ≤ b) : 4096 < b ^ k := by
  have e : k = Int.toNat n := by omega
  subst e
  refine Int.lt_of_lt_of_le ?_ (base_mono (by have := most_bd h; omega) hb _)
  rcases most_six h with rfl | rfl | rfl | rfl | rfl | rfl <;> decide
theorem most_told {n : Int} {k : Nat} (h : 3 ≤ n ∧ n ≤ 6) (hk : (k : Int) = n) : ([4096, 64, 16, 8, 5, 4] : List Int).getD (Int.toNat (n - 1)) 0 ^ k = ([4096, 4096, 3125, 4096] : List Int).getD (Int.toNat (n - 3)) 0 ∧ ([4096, 4096, 3125, 4096] : List Int).getD (Int.toNat (n - 3)) 0 ≤ 4096 := by
  have e : k = Int.toNat n := by omega
  subst e
  rcases (show n = 3 ∨ n = 4 ∨ n = 5 ∨ n = 6 by omega) with rfl | rfl | rfl | rfl <;> decide
end Rc
namespace Rc
open PySem PySem.Spec PyProof.Rows L2 Evl

local macro_rules | `(tactic| walk_at "sca") => `(tactic| first | assumption | exact Sca.ints _ | exact Sca.bls _ | rfl | decide | (simp_all; done))
local macro_rules | `(tactic| walk_at "side") => `(tactic| first | omega | assumption | (simp only [List.length_map, List.length_range, List.length_append, List.length_cons, List.length_nil, cutL_length]; omega) | (simp only [List.length_map, List.length_range, List.length_append, List.length_cons, List.length_nil] at *; omega) | (simp at *; omega))
local macro_rules | `(tactic| walk_at "size") => `(tactic| first | (refine Evl.sz_lt ?_; simp only [List.length_map, List.length_range, List.length_append, List.length_cons, List.length_nil, cutL_length, List.length_set, List.length_replicate, List.length_reverse]; omega) | (refine Evl.sz_of ?_; simp only [List.length_map, List.length_range, List.length_append, List.length_cons, List.length_nil, cutL_length, List.length_set, List.length_replicate, List.length_reverse]; omega) | (refine Evl.sz_lt ?_; simp; omega) | (refine Evl.sz_of ?_; simp; omega))
local macro_rules | `(tactic| walk_at "tsize") => `(tactic| (refine Evl.sz_lt ?_; simp only [List.length_map, List.length_append, List.length_cons, List.length_nil]; first | omega | (rw [snd_len (by assumption)]; omega)))
local macro_rules | `(tactic| walk_at "csize") => `(tactic| first | (refine Evl.sz_lt ?_; simp only [List.length_map, List.length_take, List.length_range]; omega) | (refine Evl.sz_lt ?_; simp only [List.length_map]; refine Nat.lt_of_le_of_lt (List.length_filter_le _ _) ?_; simp only [List.length_take, List.length_range]; omega))
local macro_rules | `(tactic| walk_at "inv") => `(tactic| first | omega | assumption | rfl | (simp only [List.length_append, List.length_cons, List.length_nil, List.length_set]; omega) | (simp; omega) | simp_all)
local macro_rules | `(tactic| walk_at "post") => `(tactic| first | rfl | assumption | omega | (simp_all; done) | (simp_all; omega))
local macro_rules | `(tactic| walk_at "mul") => `(tactic| first | exact .inl (by omega) | exact .inr (by omega))
local macro_rules | `(tactic| walk_at "txl") => `(tactic| first | omega | (simp only [List.length_append, List.length_cons, List.length_nil]; omega) | (simp only [List.length_append, List.length_cons, List.length_nil] at *; omega) | (simp; omega))
local macro_rules | `(tactic| walk_at "log") => `(tactic| exact log_lt (by omega))
local macro_rules | `(tactic| walk_at "div") => `(tactic| exact ⟨by omega, by omega⟩)
local macro_rules | `(tactic| walk_at "widediv") => `(tactic| first | exact ⟨by omega, wl_of (by omega) (by omega)⟩)
local macro_rules | `(tactic| walk_at "rgok") => `(tactic| exact ⟨by omega, by omega, by omega, by omega, by omega⟩)
local macro_rules | `(tactic| walk_at "rgc") => `(tactic| omega)
local macro_rules | `(tactic| walk_at "comp") => `(tactic| first | (simp_all; done) | (simp_all; omega) | grind)
def topS (i : Nat) : Stmt := PySem.Challenge.pw_riftcarry_k66_too_many_words.main.body.getD i (.Pass ⟨0, 0, 0, 0⟩)
abbrev s_law_big : Stmt := topS 16
abbrev s_law_order : Stmt := topS 19
abbrev s_falls : Stmt := topS 10
abbrev s_laid_by : Stmt := topS 13
abbrev s_falls_from : Stmt := topS 14
abbrev s_law_told : Stmt := topS 21
abbrev s_law_alone : Stmt := topS 18
abbrev s_law_refused : Stmt := topS 20
abbrev s_law : Stmt := topS 22
abbrev q_lam : Str := (("laid_by" : Str) ++ (".<locals>." : Str)) ++ ("<lambda>" : Str)
structure Txt (K : PySem.W.Frag) (mg : Str → Option Value) (base : Heap) where
  c_lam : Addr
  P_lam : Addr
  TB_lam : LamX.TabB base mg c_lam P_lam
  f_law_big : Addr
  fd_law_big : FuncData
  F_law_big : Fun K "_law_big" "_law_big" s_law_big f_law_big fd_law_big
  g_law_big : mg "_law_big" = some (.ref f_law_big)
  b_law_big : Binds K fd_law_big ["_law_script", "_law_k"] []
  f_law_order : Addr
  fd_law_order : FuncData
  F_law_order : Fun K "_law_order" "_law_order" s_law_order f_law_order fd_law_order
  g_law_order : mg "_law_order" = some (.ref f_law_order)
  b_law_order : Binds K fd_law_order ["_law_n", "_law_cell"] []
  f_falls : Addr
  fd_falls : FuncData
  F_falls : Fun K "falls" "falls" s_falls f_falls fd_falls
  g_falls : mg "falls" = some (.ref f_falls)
  b_falls : Binds K fd_falls ["order"] []
  f_laid_by : Addr
  fd_laid_by : FuncData
  F_laid_by : Fun K "laid_by" "laid_by" s_laid_by f_laid_by fd_laid_by
  FC_laid_by : FunC K c_lam "laid_by" "laid_by" s_laid_by f_laid_by fd_laid_by
  g_laid_by : mg "laid_by" = some (.ref f_laid_by)
  b_laid_by : Binds K fd_laid_by ["order", "word"] []
  f_falls_from : Addr
  fd_falls_from : FuncData
  F_falls_from : Fun K "falls_from" "falls_from" s_falls_from f_falls_from fd_falls_from
  g_falls_from : mg "falls_from" = some (.ref f_falls_from)
  b_falls_from : Binds K fd_falls_from ["order", "b"] []
  f_law_told : Addr
  fd_law_told : FuncData
  F_law_told : Fun K "_law_told" "_law_told" s_law_told f_law_told fd_law_told
  g_law_told : mg "_law_told" = some (.ref f_law_told)
  b_law_told : Binds K fd_law_told ["_law_order_here", "_law_b", "_law_words"] []
  f_law_alone : Addr
  fd_law_alone : FuncData
  F_law_alone : Fun K "_law_alone" "_law_alone" s_law_alone f_law_alone fd_law_alone
  g_law_alone : mg "_law_alone" = some (.ref f_law_alone)
  b_law_alone : Binds K fd_law_alone ["_law_e"] []
  f_law_refused : Addr
  fd_law_refused : FuncData
  F_law_refused : Fun K "_law_refused" "_law_refused" s_law_refused f_law_refused fd_law_refused
  g_law_refused : mg "_law_refused" = some (.ref f_law_refused)
  b_law_refused : Binds K fd_law_refused ["_law_order_here", "_law_b"] []
  f_law : Addr
  fd_law : FuncData
  F_law : Fun K "law" "law" s_law f_law fd_law
  g_law : mg "law" = some (.ref f_law)
  b_law : Binds K fd_law ["_law_script"] []
  C_RiftError : Addr
  X_RiftError : ExcT K mg "RiftError" C_RiftError
  C_NoPack : Addr
  X_NoPack : ExcT K mg "NoPack" C_NoPack
  C_NoMarks : Addr
  X_NoMarks : ExcT K mg "NoMarks" C_NoMarks
  C_NoRiffle : Addr
  X_NoRiffle : ExcT K mg "NoRiffle" C_NoRiffle
  C_NoWay : Addr
  X_NoWay : ExcT K mg "NoWay" C_NoWay
  C_TooMany : Addr
  X_TooMany : ExcT K mg "TooMany" C_TooMany
  C_NoFigures : Addr
  X_NoFigures : ExcT K mg "NoFigures" C_NoFigures
  C_NoText : Addr
  X_NoText : ExcT K mg "NoText" C_NoText
  S_TooMany_NoFigures : PySem.W.subIn K (.ref C_TooMany) (.ref C_NoFigures) = some false
  N_TooMany_NoFigures : C_TooMany ≠ C_NoFigures
  S_TooMany_NoMarks : PySem.W.subIn K (.ref C_TooMany) (.ref C_NoMarks) = some false
  N_TooMany_NoMarks : C_TooMany ≠ C_NoMarks
  S_TooMany_NoPack : PySem.W.subIn K (.ref C_TooMany) (.ref C_NoPack) = some false
  N_TooMany_NoPack : C_TooMany ≠ C_NoPack
  S_TooMany_NoRiffle : PySem.W.subIn K (.ref C_TooMany) (.ref C_NoRiffle) = some false
  N_TooMany_NoRiffle : C_TooMany ≠ C_NoRiffle
  S_TooMany_NoText : PySem.W.subIn K (.ref C_TooMany) (.ref C_NoText) = some false
  N_TooMany_NoText : C_TooMany ≠ C_NoText
  S_TooMany_NoWay : PySem.W.subIn K (.ref C_TooMany) (.ref C_NoWay) = some false
  N_TooMany_NoWay : C_TooMany ≠ C_NoWay
  S_TooMany_RiftError : PySem.W.subIn K (.ref C_TooMany) (.ref C_RiftError) = some true
  S_TooMany_TooMany : PySem.W.subIn K (.ref C_TooMany) (.ref C_TooMany) = some true
  u_MOST : Value
  c_MOST : mg "MOST" = some u_MOST
  r_MOST : RelV (.int 4096) u_MOST
  m_ValueError : mg "ValueError" = none
  m_isinstance : mg "isinstance" = none
  m_len : mg "len" = none
  m_list : mg "list" = none
  m_min : mg "min" = none
  m_range : mg "range" = none
  m_sorted : mg "sorted" = none
  m_sum : mg "sum" = none
section
variable {P : Program} {w : World} {K : PySem.W.Frag} {mg : Str → Option Value} {base : Heap}
def sp_law_big (K : PySem.W.Frag) : Sp := fun vs H Q _ => ∃ (a_script : Addr) (script : List Int) (k : Int), vs = [V.ref a_script, V.int k] ∧ SqL K H a_script (List.map V.int script) ∧ (0 ≤ k ∧ k < 1000) ∧ (∀ (H1 : Hp) (res : Int), (True) → Same H H1 → Q (V.int res) H1)
theorem sc_law_big : FnScope ["_law_script", "_law_k", "_law_cell", "_law_number", "_law_j", "_law_step"] ["_law_script", "_law_k"] (defScope s_law_big) := ⟨rfl, rfl, rfl, by decide +kernel, rfl, by decide +kernel, by decide +kernel⟩
theorem ok_law_big (T : Txt K mg base) : FnOk P w K mg base CX0 1 T.f_law_big T.fd_law_big ["_law_script", "_law_k"] (sp_law_big K) := by
  refine T.F_law_big.ok sc_law_big (fun vs H Q E h => ?_) (fun cdv A outer s H vs Q E hr h => ?_)
  · obtain ⟨a_script, script, k, rfl, _⟩ := h; rfl
  · obtain ⟨a_script, script, k, rfl, h_script, pre0, q⟩ := h
    have fr := Fr.nil H
    refine ⟨_, (pss_cons (ps_set (i := 2) sc_law_big.nd rfl (Or.inl rfl) (pe_op op_add pe_int (pv 1)))
          (pss_cut (ps_if (pt_cmpR op_ltS (pv 1) (pe_callB (show CallR _ _ (rLenL K) from call_lenL) (by rfl) T.m_len (by decide +kernel) (pa_cons (pv 0) pa_nil)) (nomark _)) (pss_one (ps_set (i := 2) sc_law_big.nd rfl (Or.inl rfl) (pe_ix (show IxR _ (rIxL K) from ix_list) (pv 0) (pv 1) (fun _ _ => rfl)))) pss_nil)
          (pss_cons (ps_if (PW.pt (pw_or (pt_cmpR op_ltS (pv 2) pe_int (nomark _)) (pw_or1 (pt_cmpR op_geS (pv 2) (pe_op op_powL pe_int pe_int) (nomark _))))) (pss_one (ps_ret (pv 2))) pss_nil)
          (pss_cons (ps_set (i := 3) sc_law_big.nd rfl (Or.inl rfl) pe_int)
          (pss_cons (ps_for PassesOwn.never rfl (pi_range1 (by rfl) T.m_range (pa_cons pe_int pa_nil)) (pg_name (i := 4) sc_law_big.nd rfl (Or.inl rfl)) (pss_cons (ps_set (i := 5) sc_law_big.nd rfl (Or.inl rfl) (pe_op op_mod (pe_op op_mul (pe_op op_mod (pe_op op_add (pe_op op_mul (pv 2) pe_int) (pe_op op_mul (pe_op op_mul (pe_op op_add (pv 4) pe_int) (pe_op op_add (pe_op op_add (pv 1) (pv 4)) pe_int)) pe_int)) pe_int) pe_int) pe_int))
          (pss_one (ps_set (i := 3) sc_law_big.nd rfl (Or.inl rfl) (pe_op op_add (pe_op op_mulW (pv 3) pe_int) (pe_op op_mod (pe_op op_mul (pv 5) (pe_op op_add (pv 4) pe_int)) pe_int))))))
          (pss_one (ps_ret (pv 3)))))))), ?_⟩
    refine ⟨_, rfl, _, _, rfl, rfl, ?_⟩
    refine ⟨fun σ H1 => ∃ (cell_1 : Int), σ = [some (V.ref a_script), some (V.int k), some (V.int cell_1), none, none, none] ∧ Fr H H1 [], ?_, ?_⟩
    · refine ⟨_, rfl, _, rfl, _, _, _, rfl, (fr.same.seq h_script), (List.length_map _), _, _, rfl, rfl, ?_, ?_⟩
      · intro h2
        refine ⟨_, rfl, ?_⟩
        refine iteT ?_
        refine ⟨_, rfl, _, rfl, _, _, _, _, rfl, rfl, (fr.same.seq h_script), (atD 0 ?_ ?_), ?_⟩
        · walk_at "side"
        · walk_at "side"
        refine ⟨(List.getD script (Int.toNat k) 0), rfl, fr⟩
      · intro h2
        refine ⟨_, rfl, ?_⟩
        refine iteF ?_
        refine ⟨(7 + k), rfl, fr⟩
    rintro s_4 H_3 ⟨cell_1, rfl, fr⟩
    refine ⟨_, rfl, _, _, rfl, rfl, ?_, ?_⟩
    · intro h5
      refine ⟨_, rfl, ?_⟩
      refine iteT ?_
      refine iteT ?_
      refine ⟨_, rfl, ?_⟩
      exact q _ cell_1 (by trivial) fr.same
    · intro h5
      refine ⟨_, rfl, ?_⟩
      refine iteF ?_
      refine ⟨_, rfl, _, _, 1000000000000000000, rfl, rfl, ⟨by decide, by decide, by decide⟩, (by decide), _, _, rfl, rfl, ?_, ?_⟩
      · intro h6
        refine ⟨_, rfl, ?_⟩
        refine iteT ?_
        refine ⟨_, rfl, ?_⟩
        exact q _ cell_1 (by trivial) fr.same
      · intro h6
        refine ⟨_, rfl, ?_⟩
        refine iteF ?_
        refine ⟨_, rfl, ?_, ?_, ?_⟩
        · walk_at "side"
        · walk_at "side"
        refine for_it (walkR (n := (Int.toNat 7))) (fun (i : Nat) σ H1 => ∃ (number_7 : Int) (y_8 : Option V) (y_9 : Option V), σ = [some (V.ref a_script), some (V.int k), some (V.int cell_1), some (V.int number_7), y_8, y_9] ∧ Fr H H1 [] ∧ (Bd (41 * i + 1) number_7)) ?_ ?_ ?_ ?_
        · refine ⟨1, _, _, rfl, fr, ?_⟩
          · exact Bd.one 0
        · rintro i σ H1 hi ⟨number_7, y_8, y_9, rfl, fr, hb⟩
          exact trivial
        · rintro i_10 x_12 s_15 H_13 H_14 hi_11 ⟨number_7, y_8, y_9, rfl, fr, hb⟩ ⟨rfl, rfl⟩
          refine ⟨_, rfl, _, _, rfl, rfl, (.inr (by decide)), _, rfl, _, _, rfl, rfl, _, rfl, _, rfl, _, _, rfl, rfl, _, _, rfl, rfl, _, _, rfl, rfl, ?_, _, _, rfl, rfl, (.inr (by decide)), _, _, rfl, rfl, _, _, rfl, rfl, (show (0 : Int) < _ by decide), _, _, rfl, rfl, (.inr (by decide)), _, _, rfl, rfl, (show (0 : Int) < _ by decide), ?_⟩
          · walk_at "mul"
          refine ⟨_, rfl, _, _, rfl, rfl, ?_, _, rfl, _, rfl, _, _, rfl, rfl, _, _, rfl, rfl, ?_, _, _, rfl, rfl, (show (0 : Int) < _ by decide), _, _, rfl, rfl, ?_⟩
          · exact cmw hb (show Bd 40 _ from ⟨by omega⟩) (by omega)
          · walk_at "mul"
          refine ⟨((number_7 * 2147483647) + (((((((cell_1 * 48271) + ((((i_10 : Int) + 3) * ((k + (i_10 : Int)) + 5)) * 69621)) % 2147483647) * 16807) % 2147483629) * ((i_10 : Int) + 2)) % 2147483647)), _, _, rfl, fr, ?_⟩
          · exact ((hb.mul (show Bd 40 2147483647 from ⟨by decide⟩)).add ((show Bd 40 _ from ⟨by omega⟩ : Bd 40 _).mono (by omega))).mono (by omega)
        rintro s_17 H_16 ⟨number_7, y_8, y_9, rfl, fr, hb⟩
        refine ⟨_, rfl, ?_⟩
        exact q _ number_7 (by trivial) fr.same
def sp_law_order (K : PySem.W.Frag) : Sp := fun vs H Q _ => ∃ (n : Int) (cell : Int), vs = [V.int n, V.int cell] ∧ (1 ≤ n ∧ n ≤ 6) ∧ (∀ (H1 : Hp) (rA : Addr) (res : List Int), (IsOrd res) → ((res.length : Int) = n) → Same H H1 → H rA = none → H1 rA = some (.lst (List.map V.int res)) → Q (V.ref rA) H1)
theorem sc_law_order : FnScope ["_law_n", "_law_cell", "_law_left", "_law_order_here", "_law_k"] ["_law_n", "_law_cell"] (defScope s_law_order) := ⟨rfl, rfl, rfl, by decide +kernel, rfl, by decide +kernel, by decide +kernel⟩
theorem ok_law_order (T : Txt K mg base) : FnOk P w K mg base CX0 1 T.f_law_order T.fd_law_order ["_law_n", "_law_cell"] (sp_law_order K) := by
  refine T.F_law_order.ok sc_law_order (fun vs H Q E h => ?_) (fun cdv A outer s H vs Q E hr h => ?_)
  · obtain ⟨n, cell, rfl, _⟩ := h; rfl
  · obtain ⟨n, cell, rfl, pre0, q⟩ := h
    have fr := Fr.nil H
    refine ⟨_, (pss_cons (ps_set (i := 2) sc_law_order.nd rfl (Or.inl rfl) (pe_listRg rfl (by rfl) T.m_list (prg_1 (by rfl) T.m_range (pv 0))))
          (pss_cons (ps_set (i := 3) sc_law_order.nd rfl (Or.inl rfl) (pe_lst pa_nil))
          (pss_cons (ps_for PassesOwn.never rfl (pi_range1 (by rfl) T.m_range (pa_cons (pv 0) pa_nil)) (pg_name (i := 4) sc_law_order.nd rfl (Or.inl rfl)) (pss_cons (ps_expr (pe_bmK (K := K) (pe_bm PySem.F.plainAttrs_list PySem.F.slot_list_append PySem.F.type_list_append mt_append (pv 3) (pa_cons (pe_bmK (K := K) (pe_bm PySem.F.plainAttrs_list PySem.F.slot_list_pop PySem.F.type_list_pop mt_popAt (pv 2) (pa_cons (pe_op op_mod (pv 1) (pe_callB (show CallR _ _ (rLenL K) from call_lenL) (by rfl) T.m_len (by decide +kernel) (pa_cons (pv 2) pa_nil))) pa_nil))) pa_nil))))
          (pss_one (ps_set (i := 1) sc_law_order.nd rfl (Or.inl rfl) (pe_op op_fdiv (pv 1) (pe_op op_sub (pv 0) (pv 4)))))))
          (pss_one (ps_ret (pv 3)))))), ?_⟩
    refine ⟨_, rfl, _, rfl, ?_, fun l_1 nl_2 => ?_⟩
    · walk_at "rgok"
    have fr : Fr H _ [(l_1, (.lst (List.map V.int ((rangeI n))) : HO))] := (fr.new nl_2).cast (lst_rng _)
    refine ⟨(Evl.sz_of (show 0 ≤ 100000 by decide)), fun l_3 nl_4 => ?_⟩
    have fr : Fr H _ [(l_3, (.lst [] : HO)), (l_1, (.lst (List.map V.int ((rangeI n))) : HO))] := fr.new nl_4
    have fr : Fr H _ [(l_3, (.lst (List.map V.int ([])) : HO)), (l_1, (.lst (List.map V.int ((rangeI n))) : HO))] := fr
    refine ⟨_, rfl, _, rfl, ?_, ?_, ?_⟩
    · walk_at "side"
    · walk_at "side"
    refine for_it (walkR (n := (Int.toNat n))) (fun (i : Nat) σ H1 => ∃ (cell_5 : Int) (left_6 : List Int) (order_7 : List Int) (y_8 : Option V), σ = [some (V.int n), some (V.int cell_5), some (V.ref l_1), some (V.ref l_3), y_8] ∧ Fr H H1 [(l_3, (.lst (List.map V.int order_7) : HO)), (l_1, (.lst (List.map V.int left_6) : HO))] ∧ (order_7.length = i) ∧ ((order_7 ++ left_6).Perm (upto (Int.toNat n))) ∧ ((left_6.length : Int) = n - i)) ?_ ?_ ?_ ?_
    · refine ⟨cell, (rangeI n), [], _, rfl, fr, ?_, ?_, ?_⟩
      · walk_at "inv"
      · exact List.Perm.refl _
      · simp [rangeI]; omega
    · rintro i σ H1 hi ⟨cell_5, left_6, order_7, y_8, rfl, fr, hl, hp, hll⟩
      exact trivial
    · rintro i_9 x_11 s_14 H_12 H_13 hi_10 ⟨cell_5, left_6, order_7, y_8, rfl, fr, hl, hp, hll⟩ ⟨rfl, rfl⟩
      have hmm1 := Int.emod_nonneg cell_5 (show (left_6.length : Int) ≠ 0 by omega)
      have hmm2 := Int.emod_lt_of_pos cell_5 (show 0 < (left_6.length : Int) by omega)
      refine ⟨_, rfl, (.inl ⟨rfl, _, (SqL.of fr.at0)⟩), _, rfl, (.inl ⟨rfl, _, (SqL.of fr.at1)⟩), _, rfl, _, rfl, _, _, _, rfl, (SqL.of fr.at1), (List.length_map _), _, _, rfl, rfl, ?_, _, _, _, _, _, rfl, rfl, fr.at1, ?_, ?_, (popix ?_ ?_), (popat 0 ?_), ?_⟩
      · walk_at "side"
      · walk_at "side"
      · walk_at "side"
      · walk_at "side"
      · walk_at "side"
      · walk_at "side"
      have fr : Fr H _ [(l_3, (.lst (List.map V.int order_7) : HO)), (l_1, (.lst (List.map V.int ((List.eraseIdx left_6 (Int.toNat ((cell_5 % (left_6.length : Int))))))) : HO))] := Fr.wrk fr 1 rfl (lst_erase _ _ _)
      refine ⟨_, _, _, rfl, rfl, fr.at0, ?_, ?_⟩
      · walk_at "size"
      have fr : Fr H _ [(l_3, (.lst (List.map V.int ((order_7 ++ [(List.getD left_6 (Int.toNat ((cell_5 % (left_6.length : Int)))) 0)]))) : HO)), (l_1, (.lst (List.map V.int ((List.eraseIdx left_6 (Int.toNat ((cell_5 % (left_6.length : Int))))))) : HO))] := Fr.wrk fr 0 rfl (lst_app V.int _ _)
      refine ⟨_, rfl, _, rfl, _, rfl, _, _, rfl, rfl, _, _, rfl, rfl, ?_, ?_⟩
      · walk_at "div"
      refine ⟨(cell_5 / (n - (i_9 : Int))), (List.eraseIdx left_6 (Int.toNat ((cell_5 % (left_6.length : Int))))), (order_7 ++ [(List.getD left_6 (Int.toNat ((cell_5 % (left_6.length : Int)))) 0)]), _, rfl, fr, ?_, ?_, ?_⟩
      · walk_at "inv"
      · exact take_perm hp (by omega)
      · rw [List.length_eraseIdx, if_pos (by omega)]; omega
    rintro s_16 H_15 ⟨cell_5, left_6, order_7, y_8, rfl, fr, hl, hp, hll⟩
    refine ⟨_, rfl, ?_⟩
    exact q _ _ order_7 (by have := hp; have h0 : left_6 = [] := List.eq_nil_of_length_eq_zero (by omega); rw [h0, List.append_nil] at this; exact isOrd_of this) (by omega) fr.same fr.n0 fr.at0
def sp_law_alone_e {K : PySem.W.Frag} {mg : Str → Option Value} {base : Heap} (T : Txt K mg base) : Addr → Addr → Sp := fun a D vs H Q _ => (D = T.C_TooMany) ∧ vs = [V.ref a] ∧ (∀ (H1 : Hp) (res : Bool), (res = true) → Same H H1 → Q (V.bl res) H1)
theorem sc_law_alone_e : FnScope ["_law_e", "_law_hits"] ["_law_e"] (defScope s_law_alone) := ⟨rfl, rfl, rfl, by decide +kernel, rfl, by decide +kernel, by decide +kernel⟩
theorem ok_law_alone_e (T : Txt K mg base) : FnE P w K mg base 1 T.f_law_alone T.fd_law_alone ["_law_e"] (sp_law_alone_e T) := by
  refine Rc.Fun.okE T.F_law_alone sc_law_alone_e (fun a D vs H Q E h => ?_) (fun cdv A outer s H vs Q E p D hot hr h => ?_)
  · obtain ⟨_, rfl, _⟩ := h; rfl
  · obtain ⟨hD, rfl, q⟩ := h
    have fr := Fr.nil H
    refine ⟨_, (pss_cons (ps_set (i := 1) sc_law_alone_e.nd rfl (Or.inl rfl) (pe_lst (pa_cons (pe_callB (show CallR _ _ (rIsP K p.1 (.ref D) none) from call_isP (a := p.1) (oe := p.2) hot.cl hot.dt List.mem_cons_self) (by rfl) T.m_isinstance (by decide +kernel) (pa_cons (pv 0) (pa_cons (pe_glob rfl T.X_NoPack.g (show RelV (.ref T.C_NoPack) (.ref T.C_NoPack) from rfl)) pa_nil))) (pa_cons (pe_callB (show CallR _ _ (rIsP K p.1 (.ref D) none) from call_isP (a := p.1) (oe := p.2) hot.cl hot.dt List.mem_cons_self) (by rfl) T.m_isinstance (by decide +kernel) (pa_cons (pv 0) (pa_cons (pe_glob rfl T.X_NoMarks.g (show RelV (.ref T.C_NoMarks) (.ref T.C_NoMarks) from rfl)) pa_nil))) (pa_cons (pe_callB (show CallR _ _ (rIsP K p.1 (.ref D) none) from call_isP (a := p.1) (oe := p.2) hot.cl hot.dt List.mem_cons_self) (by rfl) T.m_isinstance (by decide +kernel) (pa_cons (pv 0) (pa_cons (pe_glob rfl T.X_NoRiffle.g (show RelV (.ref T.C_NoRiffle) (.ref T.C_NoRiffle) from rfl)) pa_nil))) (pa_cons (pe_callB (show CallR _ _ (rIsP K p.1 (.ref D) none) from call_isP (a := p.1) (oe := p.2) hot.cl hot.dt List.mem_cons_self) (by rfl) T.m_isinstance (by decide +kernel) (pa_cons (pv 0) (pa_cons (pe_glob rfl T.X_NoWay.g (show RelV (.ref T.C_NoWay) (.ref T.C_NoWay) from rfl)) pa_nil))) pa_nil))))))
          (pss_cons (ps_set (i := 1) sc_law_alone_e.nd rfl (Or.inl rfl) (pe_op op_cat (pv 1) (pe_lst (pa_cons (pe_callB (show CallR _ _ (rIsP K p.1 (.ref D) none) from call_isP (a := p.1) (oe := p.2) hot.cl hot.dt List.mem_cons_self) (by rfl) T.m_isinstance (by decide +kernel) (pa_cons (pv 0) (pa_cons (pe_glob rfl T.X_TooMany.g (show RelV (.ref T.C_TooMany) (.ref T.C_TooMany) from rfl)) pa_nil))) (pa_cons (pe_callB (show CallR _ _ (rIsP K p.1 (.ref D) none) from call_isP (a := p.1) (oe := p.2) hot.cl hot.dt List.mem_cons_self) (by rfl) T.m_isinstance (by decide +kernel) (pa_cons (pv 0) (pa_cons (pe_glob rfl T.X_NoFigures.g (show RelV (.ref T.C_NoFigures) (.ref T.C_NoFigures) from rfl)) pa_nil))) (pa_cons (pe_callB (show CallR _ _ (rIsP K p.1 (.ref D) none) from call_isP (a := p.1) (oe := p.2) hot.cl hot.dt List.mem_cons_self) (by rfl) T.m_isinstance (by decide +kernel) (pa_cons (pv 0) (pa_cons (pe_glob rfl T.X_NoText.g (show RelV (.ref T.C_NoText) (.ref T.C_NoText) from rfl)) pa_nil))) pa_nil))))))
          (pss_one (ps_ret (pe_and (pe_splS (pe_cmp (pc_eqI (pe_bmK (K := K) (pe_bm PySem.F.plainAttrs_list PySem.F.slot_list_count PySem.F.type_list_count (show MtR _ _ (rCntB K) from mt_lcountB) (pv 1) (pa_cons pe_bl pa_nil))) pe_int))) (pe_one (pe_callB (show CallR _ _ (rIsP K p.1 (.ref D) none) from call_isP (a := p.1) (oe := p.2) hot.cl hot.dt List.mem_cons_self) (by rfl) T.m_isinstance (by decide +kernel) (pa_cons (pv 0) (pa_cons (pe_bltn (v := .ty "ValueError") (by rfl) T.m_ValueError (by decide +kernel) rfl) pa_nil))))))))), ?_⟩
    subst hD
    · refine ⟨_, rfl, _, _, _, _, rfl, rfl, T.X_TooMany.c, rfl, rel_ref, (T.X_NoPack.kit T.S_TooMany_NoPack (fun _ => T.N_TooMany_NoPack)), _, rfl, _, _, _, _, rfl, rfl, T.X_TooMany.c, rfl, rel_ref, (T.X_NoMarks.kit T.S_TooMany_NoMarks (fun _ => T.N_TooMany_NoMarks)), _, rfl, _, _, _, _, rfl, rfl, T.X_TooMany.c, rfl, rel_ref, (T.X_NoRiffle.kit T.S_TooMany_NoRiffle (fun _ => T.N_TooMany_NoRiffle)), _, rfl, _, _, _, _, rfl, rfl, T.X_TooMany.c, rfl, rel_ref, (T.X_NoWay.kit T.S_TooMany_NoWay (fun _ => T.N_TooMany_NoWay)), (Evl.sz_of (show 4 ≤ 100000 by decide)), fun l_1 nl_2 => ?_⟩
      have fr : Fr H _ [(l_1, (.lst (List.map V.bl ([false, false, false, false])) : HO))] := fr.new nl_2
      refine ⟨_, rfl, _, rfl, _, _, _, _, rfl, rfl, T.X_TooMany.c, rfl, rel_ref, (T.X_TooMany.kit T.S_TooMany_TooMany (fun z => nomatch z)), _, rfl, _, _, _, _, rfl, rfl, T.X_TooMany.c, rfl, rel_ref, (T.X_NoFigures.kit T.S_TooMany_NoFigures (fun _ => T.N_TooMany_NoFigures)), _, rfl, _, _, _, _, rfl, rfl, T.X_TooMany.c, rfl, rel_ref, (T.X_NoText.kit T.S_TooMany_NoText (fun _ => T.N_TooMany_NoText)), (Evl.sz_of (show 3 ≤ 100000 by decide)), fun l_3 nl_4 => ?_⟩
      have fr : Fr H _ [(l_3, (.lst (List.map V.bl ([true, false, false])) : HO)), (l_1, (.lst (List.map V.bl ([false, false, false, false])) : HO))] := fr.new nl_4
      refine ⟨_, _, _, _, rfl, rfl, fr.at1, fr.at0, ?_, fun l_5 nl_6 => ?_⟩
      · walk_at "size"
      have fr : Fr H _ [(l_5, (.lst (List.map V.bl ((([false, false, false, false]) ++ ([true, false, false])))) : HO)), (l_3, (.lst (List.map V.bl ([true, false, false])) : HO)), (l_1, (.lst (List.map V.bl ([false, false, false, false])) : HO))] := (fr.new nl_6).cast (lst_cat _ _ _)
      have fr : Fr H _ [(l_5, (.lst (List.map V.bl ((([false, false, false, false]) ++ ([true, false, false])))) : HO)), (l_1, (.lst (List.map V.bl ([false, false, false, false])) : HO))] := Fr.dk fr 1
      have fr : Fr H _ [(l_5, (.lst (List.map V.bl ((([false, false, false, false]) ++ ([true, false, false])))) : HO))] := Fr.dk fr 1
      refine ⟨_, rfl, (.inl ⟨rfl, _, (SqL.of fr.at0)⟩), _, _, _, rfl, rfl, (SqL.of fr.at0), _, _, rfl, rfl, _, rfl, ?_, ?_⟩
      · intro h7
        replace h7 := of_decide_eq_true h7
        refine ⟨_, rfl, ?_⟩
        refine iteT ?_
        refine ⟨_, rfl, _, _, _, _, rfl, rfl, T.X_TooMany.c, rfl, rel_ty, T.X_TooMany.kve, ?_⟩
        exact q _ true (by rfl) fr.same
      · intro h7
        replace h7 := of_decide_eq_false h7
        exfalso
        exact h7 rfl
def sp_falls (K : PySem.W.Frag) : Sp := fun vs H Q _ => ∃ (a_order : Addr) (order : List Int), vs = [V.ref a_order] ∧ H a_order = some (.lst (List.map V.int order)) ∧ (1 ≤ order.length ∧ order.length ≤ 1000) ∧ (∀ (H1 : Hp) (res : Int), (res = (fallsI order : Int)) → Same H H1 → Q (V.int res) H1)
theorem sc_falls : FnScope ["order", "place"] ["order"] (defScope s_falls) := ⟨rfl, rfl, rfl, by decide +kernel, rfl, by decide +kernel, by decide +kernel⟩
theorem ok_falls (T : Txt K mg base) : FnOk P w K mg base CX0 1 T.f_falls T.fd_falls ["order"] (sp_falls K) := by
  refine T.F_falls.ok sc_falls (fun vs H Q E h => ?_) (fun cdv A outer s H vs Q E hr h => ?_)
  · obtain ⟨a_order, order, rfl, _⟩ := h; rfl
  · obtain ⟨a_order, order, rfl, h_order, pre0, q⟩ := h
    have fr := Fr.nil H
    refine ⟨_, (pss_one (ps_ret (pe_callB (show CallR _ _ (rLenL K) from call_lenL) (by rfl) T.m_len (by decide +kernel) (pa_cons (pe_lc (own := [("place", 1)]) (g := gName 1) rfl sc_falls.nd (pi_range1 (by rfl) T.m_range (pa_cons (pe_op op_sub (pe_callB (show CallR _ _ (rLenL K) from call_lenL) (by rfl) T.m_len (by decide +kernel) (pa_cons (pv 0) pa_nil)) pe_int) pa_nil)) (blkOk_by (N := ["order", "place"]) (sc := (defScope s_falls)) (by decide +kernel)) (fun _ _ _ _ _ => pg_name (i := 1) sc_falls.nd rfl (Or.inl rfl)) (fun _ _ _ _ _ => pts_one (pt_cmpR op_ltS (pe_ix (show IxR _ (rIxL K) from ix_list) (pv 0) (pe_op op_add (pv 1) pe_int) (fun _ _ => rfl)) (pe_ix (show IxR _ (rIxL K) from ix_list) (pv 0) (pv 1) (fun _ _ => rfl)) (nomark _))) (fun _ _ _ _ _ => (pv 1))) pa_nil)))), ?_⟩
    refine ⟨_, rfl, _, _, _, rfl, (SqL.of (fr.same _ _ h_order)), (List.length_map _), _, _, rfl, rfl, _, rfl, ?_, ?_, ?_⟩
    · walk_at "side"
    · walk_at "side"
    intro D_1 nD_2
    refine lc_it (walkR (n := (Int.toNat (((order.length : Int) - 1))))) (fun (i : Nat) H1 => Fr H H1 [(D_1, (.lst (List.map V.int ((List.map (fun i : Nat => (i : Int)) (List.filter (fun i : Nat => decide ((List.getD order (Int.toNat (((i : Int) + 1))) 0) < (List.getD order (Int.toNat ((i : Int))) 0))) (List.range i))))) : HO))]) (fr.new nD_2) (fun i H1 hi fr => trivial) ?_ ?_
    · rintro i_4 x_8 H_6 H_7 hi_5 fr ⟨rfl, rfl⟩
      refine ⟨rfl, _, rfl, _, rfl, _, _, rfl, rfl, _, _, _, _, rfl, rfl, (SqL.of (fr.same _ _ h_order)), (atD 0 ?_ ?_), _, rfl, _, rfl, _, _, _, _, rfl, rfl, (SqL.of (fr.same _ _ h_order)), (atD 0 ?_ ?_), _, _, rfl, rfl, ?_, ?_⟩
      · omega
      · omega
      · omega
      · omega
      · intro h9
        refine ⟨_, rfl, ?_⟩
        refine iteT ?_
        refine ⟨_, rfl, _, (Fr.atk fr 0 rfl), ?_, ?_⟩
        · walk_at "csize"
        exact (Fr.wr fr).cast (lc_r_t (by walk_at "comp"))
      · intro h9
        refine ⟨_, rfl, ?_⟩
        refine iteF ?_
        exact fr.cast (lc_r_f (by walk_at "comp"))
    intro H_10 fr
    have fr : Fr H _ [(D_1, (.lst (List.map V.int ((List.map (fun i : Nat => (i : Int)) (List.filter (fun i : Nat => decide ((List.getD order (Int.toNat (((i : Int) + 1))) 0) < (List.getD order (Int.toNat ((i : Int))) 0))) (List.range (Int.toNat (((order.length : Int) - 1)))))))) : HO))] := fr
    refine ⟨_, _, _, rfl, (SqL.of fr.at0), (List.length_map _), ?_⟩
    exact q _ ((((List.map (fun i : Nat => (i : Int)) (List.filter (fun i : Nat => decide ((List.getD order (Int.toNat (((i : Int) + 1))) 0) < (List.getD order (Int.toNat ((i : Int))) 0))) (List.range (Int.toNat (((order.length : Int) - 1))))))).length : Int)) (by rw [List.length_map, ← fallsI_eq]) fr.same
def sp_laid_by {K : PySem.W.Frag} {mg : Str → Option Value} {base : Heap} (T : Txt K mg base) : Sp := fun vs H Q _ => ∃ (a_order : Addr) (order : List Int) (a_word : Addr) (word : List Int) (lam : LT) (Hm : Hp), vs = [V.ref a_order, V.ref a_word] ∧ Lent Hm H ([] ++ List.flatten [ctOwn T.P_lam q_lam lam]) ∧ Hm a_order = some (.lst (List.map V.int order)) ∧ Hm a_word = some (.lst (List.map V.int word)) ∧ (order.length = word.length ∧ word.length ≤ 60) ∧ (∀ (H1 : Hp) (lam' : LT) (rA : Addr) (res : List Int), (res = laidW order word) → Fr Hm H1 ([(rA, (.lst (List.map V.int res) : HO))] ++ List.flatten [ctOwn T.P_lam q_lam lam']) → Q (V.ref rA) H1)
theorem sc_laid_by : FnScope ["order", "word", "spots", "new", "k"] ["order", "word"] (defScope s_laid_by) := ⟨rfl, rfl, rfl, by decide +kernel, rfl, by decide +kernel, by decide +kernel⟩
theorem ok_laid_by (T : Txt K mg base) : FnOk P w K mg base CX0 4 T.f_laid_by T.fd_laid_by ["order", "word"] (sp_laid_by T) := by
  refine T.FC_laid_by.ok sc_laid_by (fun vs H Q E h => ?_) (fun A outer s H vs Q E hr h => ?_)
  · obtain ⟨a_order, order, a_word, word, lam, Hm, rfl, _⟩ := h; rfl
  · obtain ⟨a_order, order, a_word, word, lam, Hm, rfl, hl, h_order, h_word, pre0, q⟩ := h
    have fr : Fr Hm _ ([] ++ List.flatten [ctOwn T.P_lam q_lam lam]) := hl.fr
    refine ⟨_, (pss_cons (ps_set (i := 2) sc_laid_by.nd rfl (Or.inl rfl) (pe_sortPlaces (k := 0) (j := 1) rfl (by rfl) T.m_sorted (by rfl) T.m_range (by rfl) T.m_len T.TB_lam rfl (hr.mono (by decide)) (lamP_by (show lamPB (defScope s_laid_by) _ _ = true by decide +kernel)) (by decide +kernel) (by decide) rfl (Or.inr (Or.inl rfl)) rfl (fun _ _ _ _ _ _ => rfl)))
          (pss_cons (ps_set (i := 3) sc_laid_by.nd rfl (Or.inl rfl) (pe_callTy (show CallR _ _ (rListL K) from call_listL) (by rfl) T.m_list (by decide +kernel) (pa_cons (pv 0) pa_nil)))
          (pss_cons (ps_for PassesOwn.never rfl (pi_range1 (by rfl) T.m_range (pa_cons (pe_callB (show CallR _ _ (rLenL K) from call_lenL) (by rfl) T.m_len (by decide +kernel) (pa_cons (pv 2) pa_nil)) pa_nil)) (pg_name (i := 4) sc_laid_by.nd rfl (Or.inl rfl)) (pss_one (ps_asg (pe_ix (show IxR _ (rIxL K) from ix_list) (pv 0) (pv 4) (fun _ _ => rfl)) (pg_sub (pv 3) (pe_ix (show IxR _ (rIxL K) from ix_list) (pv 2) (pv 4) (fun _ _ => rfl)) set_list))))
          (pss_one (ps_ret (pv 3)))))), ?_⟩
    refine ⟨a_word, word, lam, rfl, (fr.same _ _ h_word), ?_, (Fr.ltAt (pre := []) (ts := []) fr), fun H_1 hst_2 p_3 np_4 => ?_⟩
    · omega
    obtain ⟨k_5, fr⟩ := Fr.lam (pre := []) (ts := []) fr hst_2
    have fr : Fr Hm _ ([(p_3, (.lst (List.map V.int ((sortPl word))) : HO))] ++ List.flatten [ctOwn T.P_lam q_lam k_5]) := fr.new np_4
    have hsl := sortPl_length word
    refine ⟨_, rfl, _, _, rfl, (.inl (SqL.of (fr.same _ _ h_order))), fun l_6 nl_7 => ?_⟩
    have fr : Fr Hm _ ([(l_6, (.lst (List.map V.int order) : HO)), (p_3, (.lst (List.map V.int ((sortPl word))) : HO))] ++ List.flatten [ctOwn T.P_lam q_lam k_5]) := fr.new nl_7
    refine ⟨_, rfl, _, _, _, rfl, (SqL.of fr.at1), (List.length_map _), _, rfl, ?_, ?_, ?_⟩
    · walk_at "side"
    · walk_at "side"
    refine for_it (walkR (n := ((sortPl word)).length)) (fun (i : Nat) σ H1 => ∃ (new_8 : List Int) (y_9 : Option V), σ = [some (V.ref a_order), some (V.ref a_word), some (V.ref p_3), some (V.ref l_6), y_9] ∧ Fr Hm H1 ([(l_6, (.lst (List.map V.int new_8) : HO)), (p_3, (.lst (List.map V.int ((sortPl word))) : HO))] ++ List.flatten [ctOwn T.P_lam q_lam k_5]) ∧ (new_8 = laidTo order (sortPl word) i)) ?_ ?_ ?_ ?_
    · refine ⟨order, _, rfl, fr, ?_⟩
      · rfl
    · rintro i σ H1 hi ⟨new_8, y_9, rfl, fr, hnew⟩
      exact trivial
    · rintro i_10 x_12 s_15 H_13 H_14 hi_11 ⟨new_8, y_9, rfl, fr, hnew⟩ ⟨rfl, rfl⟩
      have hsp := sortPl_at (word := word) (k := i_10) (by omega)
      have hnl : new_8.length = order.length := by rw [hnew, laidTo_length]
      refine ⟨_, rfl, _, rfl, _, _, _, _, rfl, rfl, (SqL.of (fr.same _ _ h_order)), (atD 0 ?_ ?_), _, rfl, _, rfl, _, rfl, _, _, _, _, rfl, rfl, (SqL.of fr.at1), (atD 0 ?_ ?_), _, _, _, _, rfl, rfl, fr.at0, (ixDm ?_ ?_), ?_⟩
      · walk_at "side"
      · walk_at "side"
      · walk_at "side"
      · walk_at "side"
      · walk_at "side"
      · walk_at "side"
      have fr : Fr Hm _ ([(l_6, (.lst (List.map V.int ((List.set new_8 (Int.toNat ((List.getD ((sortPl word)) (Int.toNat ((i_10 : Int))) 0))) ((List.getD order (Int.toNat ((i_10 : Int))) 0))))) : HO)), (p_3, (.lst (List.map V.int ((sortPl word))) : HO))] ++ List.flatten [ctOwn T.P_lam q_lam k_5]) := Fr.wrk fr 0 rfl (lst_set _ _ _ _)
      refine ⟨(List.set new_8 (Int.toNat ((List.getD ((sortPl word)) (Int.toNat ((i_10 : Int))) 0))) ((List.getD order (Int.toNat ((i_10 : Int))) 0))), _, rfl, fr, ?_⟩
      · rw [hnew]; rfl
    rintro s_17 H_16 ⟨new_8, y_9, rfl, fr, hnew⟩
    refine ⟨_, rfl, ?_⟩
    have fr : Fr Hm _ ([(l_6, (.lst (List.map V.int new_8) : HO))] ++ List.flatten [ctOwn T.P_lam q_lam k_5]) := Fr.dk fr 1
    exact q _ k_5 l_6 new_8 (by rw [hnew, hsl]; rfl)  fr
def sp_falls_from_x {K : PySem.W.Frag} {mg : Str → Option Value} {base : Heap} (T : Txt K mg base) : Sp := fun vs H Q E => ∃ (a_order : Addr) (order : List Int) (b : Int), vs = [V.ref a_order, V.int b] ∧ H a_order = some (.lst (List.map V.int order)) ∧ (1 ≤ order.length ∧ order.length ≤ 6) ∧ (1 ≤ b ∧ b ≤ 10 ^ 13) ∧ (4096 < b ^ order.length) ∧ (∀ (H1 : Hp) (rA : Addr) (res : List Int), (False) → Same H H1 → H rA = none → H1 rA = some (.lst (List.map V.int res)) → Q (V.ref rA) H1) ∧ (∀ (H1 : Hp), Same H H1 → E (.ref T.C_TooMany) none H1)
theorem sc_falls_from_x : FnScope ["order", "b", "many", "card", "row", "number", "word", "rest"] ["order", "b"] (defScope s_falls_from) := ⟨rfl, rfl, rfl, by decide +kernel, rfl, by decide +kernel, by decide +kernel⟩
theorem ok_falls_from_x (T : Txt K mg base) : FnOk P w K mg base (L2.CX P w) 5 T.f_falls_from T.fd_falls_from ["order", "b"] (sp_falls_from_x T) := by
  refine T.F_falls_from.okX sc_falls_from_x (fun vs H Q E h => ?_) (fun cdv A outer s H vs Q E hr h => ?_)
  · obtain ⟨a_order, order, b, rfl, _⟩ := h; rfl
  · obtain ⟨a_order, order, b, rfl, h_order, pre0, pre1, pre2, q, qe0⟩ := h
    have fr := Fr.nil H
    refine ⟨_, (pss_cons (ps_set (i := 2) sc_falls_from_x.nd rfl (Or.inl rfl) pe_int)
          (pss_cons (ps_for (passes_of rfl) rfl (pi_list (pv 0)) (pg_name (i := 3) sc_falls_from_x.nd rfl (Or.inl rfl)) (pss_cons (ps_set (i := 2) sc_falls_from_x.nd rfl (Or.inl rfl) (pe_op op_mul (pv 2) (pv 1)))
          (pss_one (ps_if (pt_cmpR op_gtS (pv 2) (pe_glob rfl T.c_MOST T.r_MOST) (nomark _)) (pss_one (ps_raise rfl (takes_of rfl rfl rfl rfl) (pmk_own PySem.F.excBase_ValueError T.X_TooMany.ex T.X_TooMany.g T.X_TooMany.kp (raises_own T.X_TooMany.c.hs T.X_TooMany.ty) rfl))) pss_nil))))
          (pss_cons (ps_setLc (i := 4) (own := [("card", 3)]) (g := gName 3) (tt := tYes) rfl sc_falls_from_x.nd rfl rfl (sw_true rfl rfl rfl (by decide +kernel)) (pi_list (pv 0)) (blkOk_by (N := ["order", "b", "many", "card", "row", "number", "word", "rest"]) (sc := (defScope s_falls_from)) (by decide +kernel)) (fun _ _ _ _ _ => pg_name (i := 3) sc_falls_from_x.nd rfl (Or.inl rfl)) (fun _ _ _ _ _ => pts_nil) (fun _ _ _ _ _ => pe_int))
          (pss_cons (ps_for (passes_of rfl) rfl (pi_range1 (by rfl) T.m_range (pa_cons (pv 2) pa_nil)) (pg_name (i := 5) sc_falls_from_x.nd rfl (Or.inl rfl)) (pss_cons (ps_set (i := 6) sc_falls_from_x.nd rfl (Or.inl rfl) (pe_lst pa_nil))
          (pss_cons (ps_set (i := 7) sc_falls_from_x.nd rfl (Or.inl rfl) (pv 5))
          (pss_cons (ps_for (passes_of rfl) rfl (pi_list (pv 0)) (pg_name (i := 3) sc_falls_from_x.nd rfl (Or.inl rfl)) (pss_cons (ps_expr (pe_bmK (K := K) (pe_bm PySem.F.plainAttrs_list PySem.F.slot_list_append PySem.F.type_list_append mt_append (pv 6) (pa_cons (pe_op op_mod (pv 7) (pv 1)) pa_nil))))
          (pss_one (ps_set (i := 7) sc_falls_from_x.nd rfl (Or.inl rfl) (pe_op op_fdiv (pv 7) (pv 1))))))
          (pss_one (ps_augS (pv 4) (pe_call (ok_falls T) (hr.mono (by decide)) (by rfl) T.g_falls T.F_falls.kp T.b_falls .nil pass0 (pa_cons (pe_call (ok_laid_by T) (hr.mono (by decide)) (by rfl) T.g_laid_by T.F_laid_by.kp T.b_laid_by .nil pass0 (pa_cons (pv 0) (pa_cons (pv 6) pa_nil))) pa_nil)) get_list pe_int ip_add set_list))))))
          (pss_one (ps_ret (pv 4))))))), ?_⟩
    refine ⟨_, rfl, _, rfl, ⟨_, (SqL.of (fr.same _ _ h_order))⟩, ?_⟩
    refine for_it (walkL V.int order) (fun (i : Nat) σ H1 => ∃ (many_1 : Int) (y_2 : Option V), σ = [some (V.ref a_order), some (V.int b), some (V.int many_1), y_2, none, none, none, none] ∧ Fr H H1 [] ∧ (many_1 = b ^ i) ∧ (1 ≤ many_1 ∧ many_1 ≤ 4096)) ?_ ?_ ?_ ?_
    · refine ⟨1, _, rfl, fr, ?_, ?_⟩
      · exact (Int.pow_zero _).symm
      · walk_at "inv"
    · rintro i σ H1 hi ⟨many_1, y_2, rfl, fr, hm, hmb⟩
      exact (fr.same _ _ h_order)
    · rintro i_3 x_5 s_8 H_6 H_7 hi_4 ⟨many_1, y_2, rfl, fr, hm, hmb⟩ ⟨rfl, y_9, hy_10, rfl⟩
      have hps : many_1 * b = b ^ (i_3 + 1) := by rw [hm, Int.pow_succ]
      have hpp : 0 < b ^ (i_3 + 1) := Int.pow_pos (by omega)
      refine ⟨_, rfl, _, rfl, _, _, rfl, rfl, ?_, ?_⟩
      · walk_at "mul"
      refine ⟨_, rfl, _, _, rfl, rfl, ?_, ?_⟩
      · intro h11
        refine ⟨_, rfl, ?_⟩
        refine iteT ?_
        exact qe0 _  fr.same
      · intro h11
        refine ⟨_, rfl, ?_⟩
        refine iteF ?_
        refine ⟨(many_1 * b), _, rfl, fr, ?_, ?_⟩
        · exact hps
        · omega
    rintro s_13 H_12 ⟨many_1, y_2, rfl, fr, hm, hmb⟩
    exfalso
    omega
def sp_law_refused (K : PySem.W.Frag) : Sp := fun vs H Q _ => ∃ (a_order : Addr) (order : List Int) (b : Int), vs = [V.ref a_order, V.int b] ∧ H a_order = some (.lst (List.map V.int order)) ∧ (1 ≤ order.length ∧ order.length ≤ 6) ∧ (1 ≤ b ∧ b ≤ 10 ^ 13) ∧ (4096 < b ^ order.length) ∧ (∀ (H1 : Hp) (res : Bool), (res = true) → Same H H1 → Q (V.bl res) H1)
theorem sc_law_refused : FnScope ["_law_order_here", "_law_b", "_law_refused_here", "_law_e"] ["_law_order_here", "_law_b"] (defScope s_law_refused) := ⟨rfl, rfl, rfl, by decide +kernel, rfl, by decide +kernel, by decide +kernel⟩
theorem ok_law_refused (T : Txt K mg base) : FnOk P w K mg base CX0 6 T.f_law_refused T.fd_law_refused ["_law_order_here", "_law_b"] (sp_law_refused K) := by
  refine T.F_law_refused.ok sc_law_refused (fun vs H Q E h => ?_) (fun cdv A outer s H vs Q E hr h => ?_)
  · obtain ⟨a_order, order, b, rfl, _⟩ := h; rfl
  · obtain ⟨a_order, order, b, rfl, h_order, pre0, pre1, pre2, q⟩ := h
    have fr := Fr.nil H
    refine ⟨_, (pss_cons (ps_set (i := 2) sc_law_refused.nd rfl (Or.inl rfl) pe_bl)
          (pss_cons (ps_try_as (i := 3) (Wout := fun _ _ _ _ => False) rfl rfl sc_law_refused.nd rfl rfl ⟨rfl, by decide, .inl T.X_RiftError.g⟩ takes0 (fun W xpn xxe xtk _ => (pss_one (ps_expr (pe_callS (ok_falls_from_x T) (hr.mono (by decide)) (by rfl) T.g_falls_from T.F_falls_from.kp T.b_falls_from (fun σ => passAt xtk σ) (pa_cons (pv 0) (pa_cons (pv 1) pa_nil)))))) (fun xa xoe xcls xd xpn xhz xhf => (pss_one (ps_set (i := 2) sc_law_refused.nd rfl (Or.inl rfl) (pe_and (pe_splS (pe_callB (show CallR _ _ (rIsP K xa xcls xd) from call_isP xhz xhf List.mem_cons_self) (by rfl) T.m_isinstance (by decide +kernel) (pa_cons (pv 3) (pa_cons (pe_glob rfl T.X_TooMany.g (show RelV (.ref T.C_TooMany) (.ref T.C_TooMany) from rfl)) pa_nil)))) (pe_one (pe_callE xhz xhf (ok_law_alone_e T) (roomS (hr.mono (by decide))) (by rfl) T.g_law_alone T.F_law_alone.kp T.b_law_alone (pa_cons (pv 3) pa_nil))))))))
          (pss_one (ps_ret (pv 2))))), ?_⟩
    refine ⟨_, rfl, _, rfl, a_order, order, b, rfl, (fr.same _ _ h_order), ?_, ?_, ?_, ?_, ?_⟩
    · exact pre0
    · exact pre1
    · exact pre2
    · intro H_1 p_5 falls_from_2 hp_4 sm_3 np_6 ep_7
      exfalso
      exact hp_4
    · intro H_8  sm_9
      have fr : Fr H _ [] := fr.call sm_9
      refine ⟨true, T.X_RiftError.exm T.S_TooMany_RiftError, fun _ ax_10 _ => ?_, fun q => nomatch q⟩
      refine ⟨_, rfl, _, _, _, _, rfl, rfl, T.X_TooMany.c, rfl, rel_ref, (T.X_TooMany.kit T.S_TooMany_TooMany (fun z => nomatch z)), _, rfl, fun _ => ?_, (fun h => nomatch h)⟩
      refine ⟨_, rfl, ?_⟩
      refine iteT ?_
      refine ⟨_, rfl, rfl, _, rfl, rfl, rfl, fun H_11 law_alone_12 hp_14 sm_13 => ?_⟩
      have fr : Fr H _ [] := fr.call sm_13
      subst hp_14
      refine ⟨_, rfl, ?_⟩
      exact q _ true (by rfl) fr.same
def sp_falls_from {K : PySem.W.Frag} {mg : Str → Option Value} {base : Heap} (T : Txt K mg base) : Sp := fun vs H Q _ => ∃ (a_order : Addr) (order : List Int) (b : Int) (lam : LT) (Hm : Hp), vs = [V.ref a_order, V.int b] ∧ Lent Hm H ([] ++ List.flatten [ctOwn T.P_lam q_lam lam]) ∧ Hm a_order = some (.lst (List.map V.int order)) ∧ (1 ≤ order.length ∧ order.length ≤ 6) ∧ (1 ≤ b ∧ b ≤ 10 ^ 13) ∧ (b ^ order.length ≤ 4096) ∧ (∀ (H1 : Hp) (lam' : LT) (rA : Addr) (res : List Int), (res = rowL order b (Int.toNat (b ^ order.length))) → Fr Hm H1 ([(rA, (.lst (List.map V.int res) : HO))] ++ List.flatten [ctOwn T.P_lam q_lam lam']) → Q (V.ref rA) H1)
theorem sc_falls_from : FnScope ["order", "b", "many", "card", "row", "number", "word", "rest"] ["order", "b"] (defScope s_falls_from) := ⟨rfl, rfl, rfl, by decide +kernel, rfl, by decide +kernel, by decide +kernel⟩
theorem ok_falls_from (T : Txt K mg base) : FnOk P w K mg base CX0 5 T.f_falls_from T.fd_falls_from ["order", "b"] (sp_falls_from T) := by
  refine T.F_falls_from.ok sc_falls_from (fun vs H Q E h => ?_) (fun cdv A outer s H vs Q E hr h => ?_)
  · obtain ⟨a_order, order, b, lam, Hm, rfl, _⟩ := h; rfl
  · obtain ⟨a_order, order, b, lam, Hm, rfl, hl, h_order, pre0, pre1, pre2, q⟩ := h
    have fr : Fr Hm _ ([] ++ List.flatten [ctOwn T.P_lam q_lam lam]) := hl.fr
    have hb4 := pow_mono (b := b) (by omega) (show 1 ≤ order.length by omega)
    rw [Int.pow_succ, Int.pow_zero, Int.one_mul] at hb4
    refine ⟨_, (pss_cons (ps_set (i := 2) sc_falls_from.nd rfl (Or.inl rfl) pe_int)
          (pss_cons (ps_for PassesOwn.never rfl (pi_list (pv 0)) (pg_name (i := 3) sc_falls_from.nd rfl (Or.inl rfl)) (pss_cons (ps_set (i := 2) sc_falls_from.nd rfl (Or.inl rfl) (pe_op op_mul (pv 2) (pv 1)))
          (pss_one (ps_if (pt_cmpR op_gtS (pv 2) (pe_glob rfl T.c_MOST T.r_MOST) (nomark _)) pss_never pss_nil))))
          (pss_cons (ps_setLc (i := 4) (own := [("card", 3)]) (g := gName 3) (tt := tYes) rfl sc_falls_from.nd rfl rfl (sw_true rfl rfl rfl (by decide +kernel)) (pi_list (pv 0)) (blkOk_by (N := ["order", "b", "many", "card", "row", "number", "word", "rest"]) (sc := (defScope s_falls_from)) (by decide +kernel)) (fun _ _ _ _ _ => pg_name (i := 3) sc_falls_from.nd rfl (Or.inl rfl)) (fun _ _ _ _ _ => pts_nil) (fun _ _ _ _ _ => pe_int))
          (pss_cons (ps_for PassesOwn.never rfl (pi_range1 (by rfl) T.m_range (pa_cons (pv 2) pa_nil)) (pg_name (i := 5) sc_falls_from.nd rfl (Or.inl rfl)) (pss_cons (ps_set (i := 6) sc_falls_from.nd rfl (Or.inl rfl) (pe_lst pa_nil))
          (pss_cons (ps_set (i := 7) sc_falls_from.nd rfl (Or.inl rfl) (pv 5))
          (pss_cons (ps_for PassesOwn.never rfl (pi_list (pv 0)) (pg_name (i := 3) sc_falls_from.nd rfl (Or.inl rfl)) (pss_cons (ps_expr (pe_bmK (K := K) (pe_bm PySem.F.plainAttrs_list PySem.F.slot_list_append PySem.F.type_list_append mt_append (pv 6) (pa_cons (pe_op op_mod (pv 7) (pv 1)) pa_nil))))
          (pss_one (ps_set (i := 7) sc_falls_from.nd rfl (Or.inl rfl) (pe_op op_fdiv (pv 7) (pv 1))))))
          (pss_one (ps_augS (pv 4) (pe_call (ok_falls T) (hr.mono (by decide)) (by rfl) T.g_falls T.F_falls.kp T.b_falls .nil pass0 (pa_cons (pe_call (ok_laid_by T) (hr.mono (by decide)) (by rfl) T.g_laid_by T.F_laid_by.kp T.b_laid_by .nil pass0 (pa_cons (pv 0) (pa_cons (pv 6) pa_nil))) pa_nil)) get_list pe_int ip_add set_list))))))
          (pss_one (ps_ret (pv 4))))))), ?_⟩
    refine ⟨_, rfl, _, rfl, ⟨_, (SqL.of (fr.same _ _ h_order))⟩, ?_⟩
    refine for_it (walkL V.int order) (fun (i : Nat) σ H1 => ∃ (many_1 : Int) (y_2 : Option V), σ = [some (V.ref a_order), some (V.int b), some (V.int many_1), y_2, none, none, none, none] ∧ Fr Hm H1 ([] ++ List.flatten [ctOwn T.P_lam q_lam lam]) ∧ (many_1 = b ^ i) ∧ (1 ≤ many_1 ∧ many_1 ≤ 4096)) ?_ ?_ ?_ ?_
    · refine ⟨1, _, rfl, fr, ?_, ?_⟩
      · exact (Int.pow_zero _).symm
      · walk_at "inv"
    · rintro i σ H1 hi ⟨many_1, y_2, rfl, fr, hm, hmb⟩
      exact (fr.same _ _ h_order)
    · rintro i_3 x_5 s_8 H_6 H_7 hi_4 ⟨many_1, y_2, rfl, fr, hm, hmb⟩ ⟨rfl, y_9, hy_10, rfl⟩
      have hpm := pow_mono (b := b) (by omega) (show i_3 + 1 ≤ order.length by omega)
      have hps : many_1 * b = b ^ (i_3 + 1) := by rw [hm, Int.pow_succ]
      have hpp : 0 < b ^ (i_3 + 1) := Int.pow_pos (by omega)
      refine ⟨_, rfl, _, rfl, _, _, rfl, rfl, ?_, ?_⟩
      · walk_at "mul"
      refine ⟨_, rfl, _, _, rfl, rfl, ?_, ?_⟩
      · intro h11
        exfalso
        omega
      · intro h11
        refine ⟨_, rfl, ?_⟩
        refine iteF ?_
        refine ⟨(many_1 * b), _, rfl, fr, ?_, ?_⟩
        · exact hps
        · omega
    rintro s_13 H_12 ⟨many_1, y_2, rfl, fr, hm, hmb⟩
    refine ⟨_, rfl, _, rfl, ⟨_, (SqL.of (fr.same _ _ h_order))⟩, ?_⟩
    intro D_14 nD_15
    refine lc_it (walkL V.int order) (fun (i : Nat) H1 => Fr Hm H1 ([(D_14, (.lst (List.map V.int ((List.map (fun y : Int => 0) (List.take i order)))) : HO))] ++ List.flatten [ctOwn T.P_lam q_lam lam])) (fr.new nD_15) (fun i H1 hi fr => (fr.same _ _ h_order)) ?_ ?_
    · rintro i_17 x_21 H_19 H_20 hi_18 fr ⟨rfl, y_22, hy_23, rfl⟩
      refine ⟨rfl, ?_⟩
      refine ⟨_, (Fr.atk fr 0 rfl), ?_, ?_⟩
      · walk_at "csize"
      exact (Fr.wr fr).cast (lc_l hy_23)
    intro H_24 fr
    have fr : Fr Hm _ ([(D_14, (.lst (List.map V.int ((List.map (fun y : Int => 0) order))) : HO))] ++ List.flatten [ctOwn T.P_lam q_lam lam]) := fr.cast (by rw [List.take_length])
    refine ⟨_, rfl, _, rfl, ?_, ?_, ?_⟩
    · walk_at "side"
    · walk_at "side"
    refine for_it (walkR (n := (Int.toNat many_1))) (fun (i : Nat) σ H1 => ∃ (k_25 : LT) (y_26 : Option V) (row_27 : List Int) (y_28 : Option V) (y_29 : Option V) (y_30 : Option V), σ = [some (V.ref a_order), some (V.int b), some (V.int many_1), y_26, some (V.ref D_14), y_28, y_29, y_30] ∧ Fr Hm H1 ([(D_14, (.lst (List.map V.int row_27) : HO))] ++ List.flatten [ctOwn T.P_lam q_lam k_25]) ∧ (row_27 = rowL order b i)) ?_ ?_ ?_ ?_
    · refine ⟨lam, _, (List.map (fun y : Int => 0) order), _, _, _, rfl, fr, ?_⟩
      · rfl
    · rintro i σ H1 hi ⟨k_25, y_26, row_27, y_28, y_29, y_30, rfl, fr, hrow⟩
      exact trivial
    · rintro i_31 x_33 s_36 H_34 H_35 hi_32 ⟨k_25, y_26, row_27, y_28, y_29, y_30, rfl, fr, hrow⟩ ⟨rfl, rfl⟩
      have hrl : row_27.length = order.length := by rw [hrow, rowL_length]
      refine ⟨(Evl.sz_of (show 0 ≤ 100000 by decide)), fun l_37 nl_38 => ?_⟩
      have fr : Fr Hm _ ([(l_37, (.lst [] : HO)), (D_14, (.lst (List.map V.int row_27) : HO))] ++ List.flatten [ctOwn T.P_lam q_lam k_25]) := fr.new nl_38
      have fr : Fr Hm _ ([(l_37, (.lst (List.map V.int ([])) : HO)), (D_14, (.lst (List.map V.int row_27) : HO))] ++ List.flatten [ctOwn T.P_lam q_lam k_25]) := fr
      refine ⟨_, rfl, ?_⟩
      refine ⟨_, rfl, _, rfl, ⟨_, (SqL.of (fr.same _ _ h_order))⟩, ?_⟩
      refine for_it (walkL V.int order) (fun (i : Nat) σ H1 => ∃ (y_39 : Option V) (word_40 : List Int) (rest_41 : Int), σ = [some (V.ref a_order), some (V.int b), some (V.int many_1), y_39, some (V.ref D_14), some (V.int ((i_31 : Int))), some (V.ref l_37), some (V.int rest_41)] ∧ Fr Hm H1 ([(l_37, (.lst (List.map V.int word_40) : HO)), (D_14, (.lst (List.map V.int row_27) : HO))] ++ List.flatten [ctOwn T.P_lam q_lam k_25]) ∧ (word_40 = digTo b ((i_31 : Int)) i) ∧ (rest_41 = ((i_31 : Int)) / b ^ i) ∧ (word_40.length = i)) ?_ ?_ ?_ ?_
      · refine ⟨_, [], (i_31 : Int), rfl, fr, ?_, ?_, ?_⟩
        · rfl
        · rw [Int.pow_zero, Int.ediv_one]
        · walk_at "inv"
      · rintro i σ H1 hi ⟨y_39, word_40, rest_41, rfl, fr, hw, hr, hwl⟩
        exact (fr.same _ _ h_order)
      · rintro i_42 x_44 s_47 H_45 H_46 hi_43 ⟨y_39, word_40, rest_41, rfl, fr, hw, hr, hwl⟩ ⟨rfl, y_48, hy_49, rfl⟩
        refine ⟨_, rfl, (.inl ⟨rfl, _, (SqL.of fr.at0)⟩), _, rfl, _, rfl, _, _, rfl, rfl, ?_, _, _, _, rfl, rfl, fr.at0, ?_, ?_⟩
        · walk_at "side"
        · walk_at "size"
        have fr : Fr Hm _ ([(l_37, (.lst (List.map V.int ((word_40 ++ [(rest_41 % b)]))) : HO)), (D_14, (.lst (List.map V.int row_27) : HO))] ++ List.flatten [ctOwn T.P_lam q_lam k_25]) := Fr.wrk fr 0 rfl (lst_app V.int _ _)
        refine ⟨_, rfl, _, rfl, _, _, rfl, rfl, ?_, ?_⟩
        · walk_at "div"
        refine ⟨_, (word_40 ++ [(rest_41 % b)]), (rest_41 / b), rfl, fr, ?_, ?_, ?_⟩
        · rw [hw, hr]; rfl
        · rw [hr]; exact div_pow_succ (by omega) _
        · walk_at "inv"
      rintro s_51 H_50 ⟨y_39, word_40, rest_41, rfl, fr, hw, hr, hwl⟩
      refine ⟨_, rfl, _, rfl, _, rfl, ?_⟩
      have frF_52 := Fr.split (bpre := []) (pre := [(l_37, (.lst (List.map V.int word_40) : HO)), (D_14, (.lst (List.map V.int row_27) : HO))]) (bts := [ctOwn T.P_lam q_lam k_25]) (ts := []) fr
      have fr : Fr Hm _ [(l_37, (.lst (List.map V.int word_40) : HO)), (D_14, (.lst (List.map V.int row_27) : HO))] := Fr.mn frF_52
      refine ⟨a_order, order, l_37, word_40, k_25, _, rfl, (Fr.lent frF_52), (fr.same _ _ h_order), fr.at0, ?_, fun H_53 k_55 p_56 laid_by_57 hp_58 ff_54 => ?_⟩
      · walk_at "side"
      have fr : Fr Hm _ ([(p_56, (.lst (List.map V.int laid_by_57) : HO)), (l_37, (.lst (List.map V.int word_40) : HO)), (D_14, (.lst (List.map V.int row_27) : HO))] ++ List.flatten [ctOwn T.P_lam q_lam k_55]) := Fr.back2 (bpre := []) (pre := [(l_37, (.lst (List.map V.int word_40) : HO)), (D_14, (.lst (List.map V.int row_27) : HO))]) (bts := [ctOwn T.P_lam q_lam k_25]) (ts := []) (bpre' := [(p_56, (.lst (List.map V.int laid_by_57) : HO))]) (bts' := [ctOwn T.P_lam q_lam k_55]) frF_52 ff_54
      subst hp_58
      have hwl2 := laidW_length order word_40
      have hfl := fallsI_lt' (o := laidW order word_40) (by omega)
      refine ⟨p_56, (((laidW order word_40))), rfl, fr.at0, ?_, fun H_59 falls_60 hp_62 sm_61 => ?_⟩
      · walk_at "side"
      have fr : Fr Hm _ ([(p_56, (.lst (List.map V.int ((laidW order word_40))) : HO)), (l_37, (.lst (List.map V.int word_40) : HO)), (D_14, (.lst (List.map V.int row_27) : HO))] ++ List.flatten [ctOwn T.P_lam q_lam k_55]) := fr.call sm_61
      subst hp_62
      refine ⟨_, _, _, _, rfl, rfl, (SqL.of fr.at2), (atD 0 ?_ ?_), _, _, rfl, rfl, _, _, _, _, rfl, rfl, fr.at2, (ixDm ?_ ?_), ?_⟩
      · walk_at "side"
      · walk_at "side"
      · walk_at "side"
      · walk_at "side"
      have fr : Fr Hm _ ([(p_56, (.lst (List.map V.int ((laidW order word_40))) : HO)), (l_37, (.lst (List.map V.int word_40) : HO)), (D_14, (.lst (List.map V.int ((List.set row_27 (Int.toNat ((((fallsI (((laidW order word_40))) : Int))))) ((List.getD row_27 (Int.toNat ((((fallsI (((laidW order word_40))) : Int))))) 0) + 1)))) : HO))] ++ List.flatten [ctOwn T.P_lam q_lam k_55]) := Fr.wrk fr 2 rfl (lst_set _ _ _ _)
      have fr : Fr Hm _ ([(l_37, (.lst (List.map V.int word_40) : HO)), (D_14, (.lst (List.map V.int ((List.set row_27 (Int.toNat ((((fallsI (((laidW order word_40))) : Int))))) ((List.getD row_27 (Int.toNat ((((fallsI (((laidW order word_40))) : Int))))) 0) + 1)))) : HO))] ++ List.flatten [ctOwn T.P_lam q_lam k_55]) := Fr.dk fr 0
      have fr : Fr Hm _ ([(D_14, (.lst (List.map V.int ((List.set row_27 (Int.toNat ((((fallsI (((laidW order word_40))) : Int))))) ((List.getD row_27 (Int.toNat ((((fallsI (((laidW order word_40))) : Int))))) 0) + 1)))) : HO))] ++ List.flatten [ctOwn T.P_lam q_lam k_55]) := Fr.dk fr 0
      refine ⟨k_55, _, (List.set row_27 (Int.toNat ((((fallsI (((laidW order word_40))) : Int))))) ((List.getD row_27 (Int.toNat ((((fallsI (((laidW order word_40))) : Int))))) 0) + 1)), _, _, _, rfl, fr, ?_⟩
      · rw [hrow, hw]; rfl
    rintro s_64 H_63 ⟨k_25, y_26, row_27, y_28, y_29, y_30, rfl, fr, hrow⟩
    refine ⟨_, rfl, ?_⟩
    exact q _ k_25 D_14 row_27 (by rw [hrow, hm])  fr
def sp_law_told {K : PySem.W.Frag} {mg : Str → Option Value} {base : Heap} (T : Txt K mg base) : Sp := fun vs H Q _ => ∃ (a_order : Addr) (order : List Int) (b : Int) (words : Int) (lam : LT) (Hm : Hp), vs = [V.ref a_order, V.int b, V.int words] ∧ Lent Hm H ([] ++ List.flatten [ctOwn T.P_lam q_lam lam]) ∧ Hm a_order = some (.lst (List.map V.int order)) ∧ (1 ≤ order.length ∧ order.length ≤ 6) ∧ (1 ≤ b ∧ b ≤ 10 ^ 13) ∧ (b ^ order.length = words ∧ words ≤ 4096) ∧ (∀ (H1 : Hp) (lam' : LT) (res : Bool), (res = true) → Fr Hm H1 ([] ++ List.flatten [ctOwn T.P_lam q_lam lam']) → Q (V.bl res) H1)
theorem sc_law_told : FnScope ["_law_order_here", "_law_b", "_law_words", "_law_found"] ["_law_order_here", "_law_b", "_law_words"] (defScope s_law_told) := ⟨rfl, rfl, rfl, by decide +kernel, rfl, by decide +kernel, by decide +kernel⟩
theorem ok_law_told (T : Txt K mg base) : FnOk P w K mg base CX0 6 T.f_law_told T.fd_law_told ["_law_order_here", "_law_b", "_law_words"] (sp_law_told T) := by
  refine T.F_law_told.ok sc_law_told (fun vs H Q E h => ?_) (fun cdv A outer s H vs Q E hr h => ?_)
  · obtain ⟨a_order, order, b, words, lam, Hm, rfl, _⟩ := h; rfl
  · obtain ⟨a_order, order, b, words, lam, Hm, rfl, hl, h_order, pre0, pre1, pre2, q⟩ := h
    have fr : Fr Hm _ ([] ++ List.flatten [ctOwn T.P_lam q_lam lam]) := hl.fr
    refine ⟨_, (pss_cons (ps_set (i := 3) sc_law_told.nd rfl (Or.inl rfl) (pe_call (ok_falls_from T) (hr.mono (by decide)) (by rfl) T.g_falls_from T.F_falls_from.kp T.b_falls_from .nil pass0 (pa_cons (pe_callTy (show CallR _ _ (rListL K) from call_listL) (by rfl) T.m_list (by decide +kernel) (pa_cons (pv 0) pa_nil)) (pa_cons (pv 1) pa_nil))))
          (pss_one (ps_ret (pe_and (pe_splS (pe_callB (show CallR _ _ (rIsi K) from call_isi) (by rfl) T.m_isinstance (by decide +kernel) (pa_cons (pv 3) (pa_cons (pe_bltn (v := .ty "list") (by rfl) T.m_list (by decide +kernel) rfl) pa_nil)))) (pe_and (pe_splS (pe_cmp (pc_eqI (pe_callB (show CallR _ _ (rLenL K) from call_lenL) (by rfl) T.m_len (by decide +kernel) (pa_cons (pv 3) pa_nil)) (pe_callB (show CallR _ _ (rLenL K) from call_lenL) (by rfl) T.m_len (by decide +kernel) (pa_cons (pv 0) pa_nil))))) (pe_one (pe_cmp (pc_eqI (pe_callB (show CallR _ _ (rSum K) from cr_sum rfl) (by rfl) T.m_sum (by decide +kernel) (pa_cons (pv 3) pa_nil)) (pv 2))))))))), ?_⟩
    refine ⟨_, rfl, _, _, rfl, (.inl (SqL.of (fr.same _ _ h_order))), fun l_1 nl_2 => ?_⟩
    have fr : Fr Hm _ ([(l_1, (.lst (List.map V.int order) : HO))] ++ List.flatten [ctOwn T.P_lam q_lam lam]) := fr.new nl_2
    refine ⟨_, rfl, ?_⟩
    have frF_3 := Fr.split (bpre := []) (pre := [(l_1, (.lst (List.map V.int order) : HO))]) (bts := [ctOwn T.P_lam q_lam lam]) (ts := []) fr
    have fr : Fr Hm _ [(l_1, (.lst (List.map V.int order) : HO))] := Fr.mn frF_3
    refine ⟨l_1, order, b, lam, _, rfl, (Fr.lent frF_3), fr.at0, ?_, ?_, ?_, fun H_4 k_6 p_7 falls_from_8 hp_9 ff_5 => ?_⟩
    · exact pre0
    · exact pre1
    · omega
    have fr : Fr Hm _ ([(p_7, (.lst (List.map V.int falls_from_8) : HO)), (l_1, (.lst (List.map V.int order) : HO))] ++ List.flatten [ctOwn T.P_lam q_lam k_6]) := Fr.back2 (bpre := []) (pre := [(l_1, (.lst (List.map V.int order) : HO))]) (bts := [ctOwn T.P_lam q_lam lam]) (ts := []) (bpre' := [(p_7, (.lst (List.map V.int falls_from_8) : HO))]) (bts' := [ctOwn T.P_lam q_lam k_6]) frF_3 ff_5
    subst hp_9
    have hrl := rowL_length order b (Int.toNat (b ^ order.length))
    have hrs := rowL_sum (b := b) pre0.1 (Int.toNat (b ^ order.length))
    have hpp : 0 < b ^ order.length := Int.pow_pos (by omega)
    have fr : Fr Hm _ ([(p_7, (.lst (List.map V.int ((rowL order b (Int.toNat (b ^ order.length))))) : HO))] ++ List.flatten [ctOwn T.P_lam q_lam k_6]) := Fr.dk fr 1
    refine ⟨_, rfl, _, _, _, _, _, rfl, (ClsV.ty _), (.base (.lst fr.at0)), (kit_ty (r := true) (by decide +kernel)), _, rfl, fun _ => ?_, (fun h => nomatch h)⟩
    refine ⟨_, rfl, ?_⟩
    refine iteT ?_
    refine ⟨_, rfl, _, _, _, rfl, (SqL.of fr.at0), (List.length_map _), _, rfl, _, _, _, rfl, (SqL.of (fr.same _ _ h_order)), (List.length_map _), _, _, rfl, rfl, _, rfl, ?_, ?_⟩
    · intro h10
      replace h10 := of_decide_eq_true h10
      refine ⟨_, rfl, ?_⟩
      refine iteT ?_
      refine ⟨_, rfl, _, _, rfl, (SqL.of fr.at0), _, rfl, _, _, rfl, rfl, ?_⟩
      have fr : Fr Hm _ ([] ++ List.flatten [ctOwn T.P_lam q_lam k_6]) := Fr.dk fr 0
      exact q _ k_6 (decide ((List.sum (((rowL order b (Int.toNat (b ^ order.length)))))) = words)) (by first | rfl | (exfalso; omega) | exact decide_eq_true (by omega))  fr
    · intro h10
      replace h10 := of_decide_eq_false h10
      refine ⟨_, rfl, ?_⟩
      refine iteF ?_
      have fr : Fr Hm _ ([] ++ List.flatten [ctOwn T.P_lam q_lam k_6]) := Fr.dk fr 0
      exact q _ k_6 false (by first | rfl | (exfalso; omega) | exact decide_eq_true (by omega))  fr
def sp_law {K : PySem.W.Frag} {mg : Str → Option Value} {base : Heap} (T : Txt K mg base) : Sp := fun vs H Q _ => ∃ (a_script : Addr) (script : List Int) (lam : LT) (Hm : Hp), vs = [V.ref a_script] ∧ Lent Hm H ([] ++ List.flatten [ctOwn T.P_lam q_lam lam]) ∧ SqL K Hm a_script (List.map V.int script) ∧ (script.length ≤ 63) ∧ (∀ (H1 : Hp) (lam' : LT) (res : Bool), (res = true) → Fr Hm H1 ([] ++ List.flatten [ctOwn T.P_lam q_lam lam']) → Q (V.bl res) H1)
theorem sc_law : FnScope ["_law_script", "_law_most", "_law_k", "_law_cell", "_law_other", "_law_n", "_law_order_here", "_law_b", "_law_handed"] ["_law_script"] (defScope s_law) := ⟨rfl, rfl, rfl, by decide +kernel, rfl, by decide +kernel, by decide +kernel⟩
theorem ok_law (T : Txt K mg base) : FnOk P w K mg base CX0 7 T.f_law T.fd_law ["_law_script"] (sp_law T) := by
  refine T.F_law.ok sc_law (fun vs H Q E h => ?_) (fun cdv A outer s H vs Q E hr h => ?_)
  · obtain ⟨a_script, script, lam, Hm, rfl, _⟩ := h; rfl
  · obtain ⟨a_script, script, lam, Hm, rfl, hl, h_script, pre0, q⟩ := h
    have fr : Fr Hm _ ([] ++ List.flatten [ctOwn T.P_lam q_lam lam]) := hl.fr
    refine ⟨_, (pss_cons (ps_set (i := 1) sc_law.nd rfl (Or.inl rfl) (pe_lst (pa_cons pe_int (pa_cons pe_int (pa_cons pe_int (pa_cons pe_int (pa_cons pe_int (pa_cons pe_int pa_nil))))))))
          (pss_cons (ps_for PassesOwn.never rfl (pi_range3 (by rfl) T.m_range (pa_cons pe_int (pa_cons (pe_op op_add (pe_callB (call_minI rfl) (by rfl) T.m_min (by decide +kernel) (pa_cons pe_int (pa_cons (pe_callB (show CallR _ _ (rLenL K) from call_lenL) (by rfl) T.m_len (by decide +kernel) (pa_cons (pv 0) pa_nil)) pa_nil))) pe_int) (pa_cons pe_int pa_nil)))) (pg_name (i := 2) sc_law.nd rfl (Or.inl rfl)) (pss_cons (ps_set (i := 3) sc_law.nd rfl (Or.inl rfl) (pe_call (ok_law_big T) (hr.mono (by decide)) (by rfl) T.g_law_big T.F_law_big.kp T.b_law_big .nil pass0 (pa_cons (pv 0) (pa_cons (pv 2) pa_nil))))
          (pss_cons (ps_set (i := 4) sc_law.nd rfl (Or.inl rfl) (pe_call (ok_law_big T) (hr.mono (by decide)) (by rfl) T.g_law_big T.F_law_big.kp T.b_law_big .nil pass0 (pa_cons (pv 0) (pa_cons (pe_op op_add (pv 2) pe_int) pa_nil))))
          (pss_cons (ps_set (i := 5) sc_law.nd rfl (Or.inl rfl) (pe_op op_add pe_int (pe_op op_mod (pv 3) pe_int)))
          (pss_cons (ps_set (i := 6) sc_law.nd rfl (Or.inl rfl) (pe_call (ok_law_order T) (hr.mono (by decide)) (by rfl) T.g_law_order T.F_law_order.kp T.b_law_order .nil pass0 (pa_cons (pv 5) (pa_cons (pe_op op_fdiv (pv 3) pe_int) pa_nil))))
          (pss_cons (ps_set (i := 7) sc_law.nd rfl (Or.inl rfl) (pe_op op_add (pe_ix (show IxR _ (rIxL K) from ix_list) (pv 1) (pe_op op_sub (pv 5) pe_int) (fun _ _ => rfl)) pe_int))
          (pss_cut (ps_if (pt_cmpR op_eqS (pe_op op_mod (pv 4) pe_int) pe_int (nomark _)) (pss_one (ps_set (i := 7) sc_law.nd rfl (Or.inl rfl) (pe_op op_add (pv 7) (pe_op op_mod (pe_op op_fdiv (pv 4) pe_int) pe_int)))) pss_nil)
          (pss_cut (ps_if (pt_cmpR op_eqS (pe_op op_mod (pv 4) pe_int) pe_int (nomark _)) (pss_one (ps_set (i := 7) sc_law.nd rfl (Or.inl rfl) (pe_op op_add (pv 7) (pe_op op_mod (pe_op op_fdiv (pv 4) pe_int) (pe_op op_sub (pe_op op_powL pe_int pe_int) pe_int))))) pss_nil)
          (pss_cons (ps_set (i := 8) sc_law.nd rfl (Or.inl rfl) (pe_callTy (show CallR _ _ (rListL K) from call_listL) (by rfl) T.m_list (by decide +kernel) (pa_cons (pv 6) pa_nil)))
          (pss_one (ps_if (PW.pt (pw_or (pt_not (pt_valS (pe_call (ok_law_refused T) (hr.mono (by decide)) (by rfl) T.g_law_refused T.F_law_refused.kp T.b_law_refused .nil pass0 (pa_cons (pv 8) (pa_cons (pv 7) pa_nil))))) (pw_or1 (pt_cmpR (opS (show OpR _ _ (rNeX K) from op_neX (hu64 hr))) (pv 8) (pv 6) (nomark _))))) (pss_one (ps_ret pe_bl)) pss_nil)))))))))))
          (pss_cons (ps_set (i := 3) sc_law.nd rfl (Or.inl rfl) (pe_call (ok_law_big T) (hr.mono (by decide)) (by rfl) T.g_law_big T.F_law_big.kp T.b_law_big .nil pass0 (pa_cons (pv 0) (pa_cons pe_int pa_nil))))
          (pss_cons (ps_if (pt_cmpR op_eqS (pe_op op_mod (pe_op op_fdiv (pv 3) pe_int) pe_int) pe_int (nomark _)) (pss_cons (ps_set (i := 5) sc_law.nd rfl (Or.inl rfl) (pe_op op_add pe_int (pe_op op_mod (pe_op op_fdiv (pv 3) pe_int) pe_int)))
          (pss_one (ps_ret (pe_call (ok_law_told T) (hr.mono (by decide)) (by rfl) T.g_law_told T.F_law_told.kp T.b_law_told .nil pass0 (pa_cons (pe_call (ok_law_order T) (hr.mono (by decide)) (by rfl) T.g_law_order T.F_law_order.kp T.b_law_order .nil pass0 (pa_cons (pv 5) (pa_cons (pe_op op_fdiv (pv 3) pe_int) pa_nil))) (pa_cons (pe_ix (show IxR _ (rIxL K) from ix_list) (pv 1) (pe_op op_sub (pv 5) pe_int) (fun _ _ => rfl)) (pa_cons (pe_ix (show IxR _ (rIxL K) from ix_list) (pe_lst (pa_cons pe_int (pa_cons pe_int (pa_cons pe_int (pa_cons pe_int pa_nil))))) (pe_op op_sub (pv 5) pe_int) (fun _ _ => rfl)) pa_nil))))))) pss_nil)
          (pss_one (ps_ret pe_bl)))))), ?_⟩
    refine ⟨(Evl.sz_of (show 6 ≤ 100000 by decide)), fun l_1 nl_2 => ?_⟩
    have fr : Fr Hm _ ([(l_1, (.lst (List.map V.int ([4096, 64, 16, 8, 5, 4])) : HO))] ++ List.flatten [ctOwn T.P_lam q_lam lam]) := fr.new nl_2
    refine ⟨_, rfl, _, _, _, rfl, (fr.same.seq h_script), (List.length_map _), _, _, rfl, _, _, rfl, rfl, _, _, _, (Int.toNat ((((min 20 ((script.length : Int))) + 1) + 1) / 2)), rfl, (rgc2 ?_ ?_), ?_⟩
    · walk_at "side"
    · walk_at "side"
    refine for_it (walk_rangeC (lo := 0) (c := 2) (n := (Int.toNat ((((min 20 ((script.length : Int))) + 1) + 1) / 2)))) (fun (i : Nat) σ H1 => ∃ (y_3 : Option V) (y_4 : Option V) (y_5 : Option V) (y_6 : Option V) (y_7 : Option V) (y_8 : Option V) (y_9 : Option V), σ = [some (V.ref a_script), some (V.ref l_1), y_3, y_4, y_5, y_6, y_7, y_8, y_9] ∧ Fr Hm H1 ([(l_1, (.lst (List.map V.int ([4096, 64, 16, 8, 5, 4])) : HO))] ++ List.flatten [ctOwn T.P_lam q_lam lam])) ?_ ?_ ?_ ?_
    · refine ⟨_, _, _, _, _, _, _, rfl, fr⟩
    · rintro i σ H1 hi ⟨y_3, y_4, y_5, y_6, y_7, y_8, y_9, rfl, fr⟩
      exact trivial
    · rintro i_10 x_12 s_15 H_13 H_14 hi_11 ⟨y_3, y_4, y_5, y_6, y_7, y_8, y_9, rfl, fr⟩ ⟨rfl, rfl⟩
      refine ⟨_, rfl, _, rfl, a_script, script, ((0 + (i_10 : Int) * 2)), rfl, (fr.same.seq h_script), ?_, fun H_16 big_17 hp_19 sm_18 => ?_⟩
      · omega
      have fr : Fr Hm _ ([(l_1, (.lst (List.map V.int ([4096, 64, 16, 8, 5, 4])) : HO))] ++ List.flatten [ctOwn T.P_lam q_lam lam]) := fr.call sm_18
      refine ⟨_, rfl, _, rfl, _, _, rfl, rfl, a_script, script, (((0 + (i_10 : Int) * 2) + 1)), rfl, (fr.same.seq h_script), ?_, fun H_20 big_21 hp_23 sm_22 => ?_⟩
      · omega
      have fr : Fr Hm _ ([(l_1, (.lst (List.map V.int ([4096, 64, 16, 8, 5, 4])) : HO))] ++ List.flatten [ctOwn T.P_lam q_lam lam]) := fr.call sm_22
      refine ⟨_, rfl, _, _, rfl, rfl, (show (0 : Int) < _ by decide), _, _, rfl, rfl, ?_⟩
      have hmo := most_bd (n := ((1 + (big_17 % 6)))) (by omega)
      refine ⟨_, rfl, _, rfl, _, _, rfl, rfl, ⟨by decide, by decide⟩, ((1 + (big_17 % 6))), ((big_17 / 6)), rfl, ?_, fun H_24 p_29 order_25 hp_27 hp_28 sm_26 np_30 ep_31 => ?_⟩
      · omega
      have fr : Fr Hm _ ([(p_29, (.lst (List.map V.int order_25) : HO)), (l_1, (.lst (List.map V.int ([4096, 64, 16, 8, 5, 4])) : HO))] ++ List.flatten [ctOwn T.P_lam q_lam lam]) := fr.cnew sm_26 np_30 ep_31
      refine ⟨_, rfl, _, rfl, _, _, rfl, rfl, _, _, _, _, rfl, rfl, (SqL.of fr.at1), (atD 0 ?_ ?_), _, _, rfl, rfl, ?_⟩
      · walk_at "side"
      · walk_at "side"
      refine ⟨fun σ H1 => ∃ (b_32 : Int), σ = [some (V.ref a_script), some (V.ref l_1), some (V.int ((0 + (i_10 : Int) * 2))), some (V.int big_17), some (V.int big_21), some (V.int ((1 + (big_17 % 6)))), some (V.ref p_29), some (V.int b_32), y_9] ∧ Fr Hm H1 ([(p_29, (.lst (List.map V.int order_25) : HO)), (l_1, (.lst (List.map V.int ([4096, 64, 16, 8, 5, 4])) : HO))] ++ List.flatten [ctOwn T.P_lam q_lam lam]) ∧ (([4096, 64, 16, 8, 5, 4] : List Int).getD (Int.toNat (((1 + (big_17 % 6))) - 1)) 0 + 1 ≤ b_32 ∧ b_32 ≤ 5000), ?_, ?_⟩
      · refine ⟨_, rfl, _, _, rfl, rfl, (show (0 : Int) < _ by decide), _, _, rfl, rfl, ?_, ?_⟩
        · intro h33
          refine ⟨_, rfl, ?_⟩
          refine iteT ?_
          refine ⟨_, rfl, _, rfl, _, _, rfl, rfl, ⟨by decide, by decide⟩, _, _, rfl, rfl, (show (0 : Int) < _ by decide), _, _, rfl, rfl, ?_⟩
          refine ⟨(((List.getD ([4096, 64, 16, 8, 5, 4]) (Int.toNat (((1 + (big_17 % 6)) - 1))) 0) + 1) + ((big_21 / 3) % 9)), rfl, fr, ?_⟩
          · omega
        · intro h33
          refine ⟨_, rfl, ?_⟩
          refine iteF ?_
          refine ⟨((List.getD ([4096, 64, 16, 8, 5, 4]) (Int.toNat (((1 + (big_17 % 6)) - 1))) 0) + 1), rfl, fr, ?_⟩
          · omega
      rintro s_35 H_34 ⟨b_32, rfl, fr, hb⟩
      refine ⟨fun σ H1 => ∃ (b_36 : Int), σ = [some (V.ref a_script), some (V.ref l_1), some (V.int ((0 + (i_10 : Int) * 2))), some (V.int big_17), some (V.int big_21), some (V.int ((1 + (big_17 % 6)))), some (V.ref p_29), some (V.int b_36), y_9] ∧ Fr Hm H1 ([(p_29, (.lst (List.map V.int order_25) : HO)), (l_1, (.lst (List.map V.int ([4096, 64, 16, 8, 5, 4])) : HO))] ++ List.flatten [ctOwn T.P_lam q_lam lam]) ∧ (([4096, 64, 16, 8, 5, 4] : List Int).getD (Int.toNat (((1 + (big_17 % 6))) - 1)) 0 + 1 ≤ b_36 ∧ b_36 ≤ 10 ^ 13), ?_, ?_⟩
      · refine ⟨_, rfl, _, _, rfl, rfl, (show (0 : Int) < _ by decide), _, _, rfl, rfl, ?_, ?_⟩
        · intro h37
          refine ⟨_, rfl, ?_⟩
          refine iteT ?_
          refine ⟨_, rfl, _, rfl, _, _, rfl, rfl, ⟨by decide, by decide⟩, _, _, 1000000000000, rfl, rfl, ⟨by decide, by decide, by decide⟩, (by decide), _, _, rfl, rfl, _, _, rfl, rfl, (show (0 : Int) < _ by decide), _, _, rfl, rfl, ?_⟩
          refine ⟨(b_32 + ((big_21 / 3) % (1000000000000 - 4096))), rfl, fr, ?_⟩
          · omega
        · intro h37
          refine ⟨_, rfl, ?_⟩
          refine iteF ?_
          refine ⟨b_32, rfl, fr, ?_⟩
          · omega
      rintro s_39 H_38 ⟨b_36, rfl, fr, hb⟩
      refine ⟨_, rfl, _, _, rfl, (.inl (SqL.of fr.at0)), fun l_40 nl_41 => ?_⟩
      have fr : Fr Hm _ ([(l_40, (.lst (List.map V.int order_25) : HO)), (p_29, (.lst (List.map V.int order_25) : HO)), (l_1, (.lst (List.map V.int ([4096, 64, 16, 8, 5, 4])) : HO))] ++ List.flatten [ctOwn T.P_lam q_lam lam]) := fr.new nl_41
      refine ⟨_, rfl, _, rfl, l_40, order_25, b_36, rfl, fr.at0, ?_, ?_, ?_, fun H_42 refused_43 hp_45 sm_44 => ?_⟩
      · omega
      · omega
      · exact most_over (n := ((1 + (big_17 % 6)))) (by omega) (by omega) hb.1
      have fr : Fr Hm _ ([(l_40, (.lst (List.map V.int order_25) : HO)), (p_29, (.lst (List.map V.int order_25) : HO)), (l_1, (.lst (List.map V.int ([4096, 64, 16, 8, 5, 4])) : HO))] ++ List.flatten [ctOwn T.P_lam q_lam lam]) := fr.call sm_44
      subst hp_45
      refine ⟨_, rfl, fun _ => ?_, (fun h => nomatch h)⟩
      refine iteF ?_
      refine ⟨_, rfl, _, rfl, _, _, true, (dp_ints fr.at0), (dp_ints fr.at1), (Okd.sh (okd_ints _)), (Okd.sh (okd_ints _)), (PySem.SeqAt.eqv_refl _ (Okd.cn (okd_ints _))), _, rfl, (fun h => nomatch h), fun _ => ?_⟩
      refine ⟨_, rfl, ?_⟩
      refine iteF ?_
      have fr : Fr Hm _ ([(p_29, (.lst (List.map V.int order_25) : HO)), (l_1, (.lst (List.map V.int ([4096, 64, 16, 8, 5, 4])) : HO))] ++ List.flatten [ctOwn T.P_lam q_lam lam]) := Fr.dk fr 0
      have fr : Fr Hm _ ([(l_1, (.lst (List.map V.int ([4096, 64, 16, 8, 5, 4])) : HO))] ++ List.flatten [ctOwn T.P_lam q_lam lam]) := Fr.dk fr 0
      refine ⟨_, _, _, _, _, _, _, rfl, fr⟩
    rintro s_47 H_46 ⟨y_3, y_4, y_5, y_6, y_7, y_8, y_9, rfl, fr⟩
    refine ⟨_, rfl, a_script, script, 0, rfl, (fr.same.seq h_script), ?_, fun H_48 big_49 hp_51 sm_50 => ?_⟩
    · omega
    have fr : Fr Hm _ ([(l_1, (.lst (List.map V.int ([4096, 64, 16, 8, 5, 4])) : HO))] ++ List.flatten [ctOwn T.P_lam q_lam lam]) := fr.call sm_50
    refine ⟨_, rfl, _, _, rfl, rfl, ⟨by decide, by decide⟩, _, _, rfl, rfl, (show (0 : Int) < _ by decide), _, _, rfl, rfl, ?_, ?_⟩
    · intro h52
      refine ⟨_, rfl, ?_⟩
      refine iteT ?_
      refine ⟨_, rfl, _, _, rfl, rfl, ⟨by decide, by decide⟩, _, _, rfl, rfl, (show (0 : Int) < _ by decide), _, _, rfl, rfl, ?_⟩
      have hmo := most_bd (n := ((3 + ((big_49 / 56) % 4)))) (by omega)
      refine ⟨_, rfl, _, rfl, _, _, rfl, rfl, ⟨by decide, by decide⟩, ((3 + ((big_49 / 56) % 4))), ((big_49 / 224)), rfl, ?_, fun H_53 p_58 order_54 hp_56 hp_57 sm_55 np_59 ep_60 => ?_⟩
      · omega
      have fr : Fr Hm _ ([(p_58, (.lst (List.map V.int order_54) : HO)), (l_1, (.lst (List.map V.int ([4096, 64, 16, 8, 5, 4])) : HO))] ++ List.flatten [ctOwn T.P_lam q_lam lam]) := fr.cnew sm_55 np_59 ep_60
      refine ⟨_, rfl, _, rfl, _, _, rfl, rfl, _, _, _, _, rfl, rfl, (SqL.of fr.at1), (atD 0 ?_ ?_), (Evl.sz_of (show 4 ≤ 100000 by decide)), fun l_61 nl_62 => ?_⟩
      · walk_at "side"
      · walk_at "side"
      have fr : Fr Hm _ ([(l_61, (.lst (List.map V.int ([4096, 4096, 3125, 4096])) : HO)), (p_58, (.lst (List.map V.int order_54) : HO)), (l_1, (.lst (List.map V.int ([4096, 64, 16, 8, 5, 4])) : HO))] ++ List.flatten [ctOwn T.P_lam q_lam lam]) := fr.new nl_62
      refine ⟨_, rfl, _, _, rfl, rfl, _, _, _, _, rfl, rfl, (SqL.of fr.at0), (atD 0 ?_ ?_), ?_⟩
      · walk_at "side"
      · walk_at "side"
      have frF_63 := Fr.split (bpre := []) (pre := [(l_61, (.lst (List.map V.int ([4096, 4096, 3125, 4096])) : HO)), (p_58, (.lst (List.map V.int order_54) : HO)), (l_1, (.lst (List.map V.int ([4096, 64, 16, 8, 5, 4])) : HO))]) (bts := [ctOwn T.P_lam q_lam lam]) (ts := []) fr
      have fr : Fr Hm _ [(l_61, (.lst (List.map V.int ([4096, 4096, 3125, 4096])) : HO)), (p_58, (.lst (List.map V.int order_54) : HO)), (l_1, (.lst (List.map V.int ([4096, 64, 16, 8, 5, 4])) : HO))] := Fr.mn frF_63
      refine ⟨p_58, order_54, ((List.getD ([4096, 64, 16, 8, 5, 4]) (Int.toNat (((3 + ((big_49 / 56) % 4)) - 1))) 0)), ((List.getD ([4096, 4096, 3125, 4096]) (Int.toNat (((3 + ((big_49 / 56) % 4)) - 3))) 0)), lam, _, rfl, (Fr.lent frF_63), fr.at1, ?_, ?_, ?_, fun H_64 k_66 told_67 hp_68 ff_65 => ?_⟩
      · omega
      · omega
      · exact most_told (n := ((3 + ((big_49 / 56) % 4)))) (by omega) (by omega)
      have fr : Fr Hm _ ([(l_61, (.lst (List.map V.int ([4096, 4096, 3125, 4096])) : HO)), (p_58, (.lst (List.map V.int order_54) : HO)), (l_1, (.lst (List.map V.int ([4096, 64, 16, 8, 5, 4])) : HO))] ++ List.flatten [ctOwn T.P_lam q_lam k_66]) := Fr.back2 (bpre := []) (pre := [(l_61, (.lst (List.map V.int ([4096, 4096, 3125, 4096])) : HO)), (p_58, (.lst (List.map V.int order_54) : HO)), (l_1, (.lst (List.map V.int ([4096, 64, 16, 8, 5, 4])) : HO))]) (bts := [ctOwn T.P_lam q_lam lam]) (ts := []) (bpre' := []) (bts' := [ctOwn T.P_lam q_lam k_66]) frF_63 ff_65
      subst hp_68
      have fr : Fr Hm _ ([(p_58, (.lst (List.map V.int order_54) : HO)), (l_1, (.lst (List.map V.int ([4096, 64, 16, 8, 5, 4])) : HO))] ++ List.flatten [ctOwn T.P_lam q_lam k_66]) := Fr.dk fr 0
      have fr : Fr Hm _ ([(l_1, (.lst (List.map V.int ([4096, 64, 16, 8, 5, 4])) : HO))] ++ List.flatten [ctOwn T.P_lam q_lam k_66]) := Fr.dk fr 0
      have fr : Fr Hm _ ([] ++ List.flatten [ctOwn T.P_lam q_lam k_66]) := Fr.dk fr 0
      exact q _ k_66 true (by rfl)  fr
    · intro h52
      refine ⟨_, rfl, ?_⟩
      refine iteF ?_
      have fr : Fr Hm _ ([] ++ List.flatten [ctOwn T.P_lam q_lam lam]) := Fr.dk fr 0
      exact q _ lam true (by rfl)  fr
end
theorem all_mk {l : PySem.W.OpenLaw} {w : World} {K : PySem.W.Frag} {h : Heap} {mg : Str → Option Value} {fa : Addr} {flaw_big : Addr} {odlaw_big anlaw_big : Option Addr} {sllaw_big : Array (Option Value)} {oclaw_big kVlaw_big dclaw_big pmlaw_big cdlaw_big ctlaw_big : Value} {flaw_order : Addr} {odlaw_order anlaw_order : Option Addr} {sllaw_order : Array (Option Value)} {oclaw_order kVlaw_order dclaw_order pmlaw_order cdlaw_order ctlaw_order : Value} {ffalls : Addr} {odfalls anfalls : Option Addr} {slfalls : Array (Option Value)} {ocfalls kVfalls dcfalls pmfalls cdfalls ctfalls : Value} {flaid_by : Addr} {odlaid_by anlaid_by : Option Addr} {sllaid_by : Array (Option Value)} {oclaid_by kVlaid_by dclaid_by pmlaid_by cdlaid_by ctlaid_by : Value} {ffalls_from : Addr} {odfalls_from anfalls_from : Option Addr} {slfalls_from : Array (Option Value)} {ocfalls_from kVfalls_from dcfalls_from pmfalls_from cdfalls_from ctfalls_from : Value} {flaw_told : Addr} {odlaw_told anlaw_told : Option Addr} {sllaw_told : Array (Option Value)} {oclaw_told kVlaw_told dclaw_told pmlaw_told cdlaw_told ctlaw_told : Value} {flaw_alone : Addr} {odlaw_alone anlaw_alone : Option Addr} {sllaw_alone : Array (Option Value)} {oclaw_alone kVlaw_alone dclaw_alone pmlaw_alone cdlaw_alone ctlaw_alone : Value} {flaw_refused : Addr} {odlaw_refused anlaw_refused : Option Addr} {sllaw_refused : Array (Option Value)} {oclaw_refused kVlaw_refused dclaw_refused pmlaw_refused cdlaw_refused ctlaw_refused : Value} {flaw : Addr} {odlaw anlaw : Option Addr} {sllaw : Array (Option Value)} {oclaw kVlaw dclaw pmlaw cdlaw ctlaw : Value} {t_MOST : Tok} {CRiftError : Addr} {CNoPack : Addr} {CNoMarks : Addr} {CNoRiffle : Addr} {CNoWay : Addr} {CTooMany : Addr} {CNoFigures : Addr} {CNoText : Addr} {cL PL : Addr} {eC : Value} {eD : Option Addr} {eV : Array Value} {eS : Array (Option Value)} (X : K.In h) (G : h.Ns mainGlobals mg) (hfa : mg "law" = some (.ref fa)) (yT : ∀ c P, PySem.W.tabIn K "laid_by" = some (c, P) → PySem.W.CodeHd h c P ∧ h.get? P = some { cls := .none, data := .fields #[] })
    (alaw_big : PySem.W.nsIn K mainGlobals "_law_big" = some (some (.ref flaw_big))) (llaw_big : K.lookup flaw_big = some ⟨oclaw_big, odlaw_big, .func (PySem.W.fnOf "_law_big" "_law_big" (defArgs s_law_big) (defBody s_law_big) (defScope s_law_big) .none kVlaw_big dclaw_big pmlaw_big anlaw_big cdlaw_big ctlaw_big), sllaw_big⟩) (claw_big : PySem.W.codeIn K cdlaw_big "_law_big" = true) (klaw_big : PySem.W.keepIn K (.ref flaw_big) = true)
    (alaw_order : PySem.W.nsIn K mainGlobals "_law_order" = some (some (.ref flaw_order))) (llaw_order : K.lookup flaw_order = some ⟨oclaw_order, odlaw_order, .func (PySem.W.fnOf "_law_order" "_law_order" (defArgs s_law_order) (defBody s_law_order) (defScope s_law_order) .none kVlaw_order dclaw_order pmlaw_order anlaw_order cdlaw_order ctlaw_order), sllaw_order⟩) (claw_order : PySem.W.codeIn K cdlaw_order "_law_order" = true) (klaw_order : PySem.W.keepIn K (.ref flaw_order) = true)
    (afalls : PySem.W.nsIn K mainGlobals "falls" = some (some (.ref ffalls))) (lfalls : K.lookup ffalls = some ⟨ocfalls, odfalls, .func (PySem.W.fnOf "falls" "falls" (defArgs s_falls) (defBody s_falls) (defScope s_falls) .none kVfalls dcfalls pmfalls anfalls cdfalls ctfalls), slfalls⟩) (cfalls : PySem.W.codeIn K cdfalls "falls" = true) (kfalls : PySem.W.keepIn K (.ref ffalls) = true)
    (alaid_by : PySem.W.nsIn K mainGlobals "laid_by" = some (some (.ref flaid_by))) (llaid_by : K.lookup flaid_by = some ⟨oclaid_by, odlaid_by, .func (PySem.W.fnOf "laid_by" "laid_by" (defArgs s_laid_by) (defBody s_laid_by) (defScope s_laid_by) .none kVlaid_by dclaid_by pmlaid_by anlaid_by cdlaid_by ctlaid_by), sllaid_by⟩) (claid_by : PySem.W.codeIn K cdlaid_by "laid_by" = true) (klaid_by : PySem.W.keepIn K (.ref flaid_by) = true)
    (afalls_from : PySem.W.nsIn K mainGlobals "falls_from" = some (some (.ref ffalls_from))) (lfalls_from : K.lookup ffalls_from = some ⟨ocfalls_from, odfalls_from, .func (PySem.W.fnOf "falls_from" "falls_from" (defArgs s_falls_from) (defBody s_falls_from) (defScope s_falls_from) .none kVfalls_from dcfalls_from pmfalls_from anfalls_from cdfalls_from ctfalls_from), slfalls_from⟩) (cfalls_from : PySem.W.codeIn K cdfalls_from "falls_from" = true) (kfalls_from : PySem.W.keepIn K (.ref ffalls_from) = true)
    (alaw_told : PySem.W.nsIn K mainGlobals "_law_told" = some (some (.ref flaw_told))) (llaw_told : K.lookup flaw_told = some ⟨oclaw_told, odlaw_told, .func (PySem.W.fnOf "_law_told" "_law_told" (defArgs s_law_told) (defBody s_law_told) (defScope s_law_told) .none kVlaw_told dclaw_told pmlaw_told anlaw_told cdlaw_told ctlaw_told), sllaw_told⟩) (claw_told : PySem.W.codeIn K cdlaw_told "_law_told" = true) (klaw_told : PySem.W.keepIn K (.ref flaw_told) = true)
    (alaw_alone : PySem.W.nsIn K mainGlobals "_law_alone" = some (some (.ref flaw_alone))) (llaw_alone : K.lookup flaw_alone = some ⟨oclaw_alone, odlaw_alone, .func (PySem.W.fnOf "_law_alone" "_law_alone" (defArgs s_law_alone) (defBody s_law_alone) (defScope s_law_alone) .none kVlaw_alone dclaw_alone pmlaw_alone anlaw_alone cdlaw_alone ctlaw_alone), sllaw_alone⟩) (claw_alone : PySem.W.codeIn K cdlaw_alone "_law_alone" = true) (klaw_alone : PySem.W.keepIn K (.ref flaw_alone) = true)
    (alaw_refused : PySem.W.nsIn K mainGlobals "_law_refused" = some (some (.ref flaw_refused))) (llaw_refused : K.lookup flaw_refused = some ⟨oclaw_refused, odlaw_refused, .func (PySem.W.fnOf "_law_refused" "_law_refused" (defArgs s_law_refused) (defBody s_law_refused) (defScope s_law_refused) .none kVlaw_refused dclaw_refused pmlaw_refused anlaw_refused cdlaw_refused ctlaw_refused), sllaw_refused⟩) (claw_refused : PySem.W.codeIn K cdlaw_refused "_law_refused" = true) (klaw_refused : PySem.W.keepIn K (.ref flaw_refused) = true)
    (alaw : PySem.W.nsIn K mainGlobals "law" = some (some (.ref flaw))) (llaw : K.lookup flaw = some ⟨oclaw, odlaw, .func (PySem.W.fnOf "law" "law" (defArgs s_law) (defBody s_law) (defScope s_law) .none kVlaw dclaw pmlaw anlaw cdlaw ctlaw), sllaw⟩) (claw : PySem.W.codeIn K cdlaw "law" = true) (klaw : PySem.W.keepIn K (.ref flaw) = true)
    (z_MOST : PySem.W.nsIn K mainGlobals "MOST" = some (some (.int 4096 t_MOST)))
    (z_ValueError : PySem.W.nsIn K mainGlobals "ValueError" = some none)
    (z_isinstance : PySem.W.nsIn K mainGlobals "isinstance" = some none)
    (z_len : PySem.W.nsIn K mainGlobals "len" = some none)
    (z_list : PySem.W.nsIn K mainGlobals "list" = some none)
    (z_min : PySem.W.nsIn K mainGlobals "min" = some none)
    (z_range : PySem.W.nsIn K mainGlobals "range" = some none)
    (z_sorted : PySem.W.nsIn K mainGlobals "sorted" = some none)
    (z_sum : PySem.W.nsIn K mainGlobals "sum" = some none)
    (xaRiftError : PySem.W.nsIn K mainGlobals "RiftError" = some (some (.ref CRiftError)))
    (xkRiftError : PySem.W.keepIn K (.ref CRiftError) = true)
    (xeRiftError : PySem.W.excIn K CRiftError [.type "ValueError", .type "Exception", .type "BaseException", .type "object"] "ValueError.__new__" = true)
    (xhgRiftError : PySem.W.findIn K (.ref CRiftError) "__getattribute__" = some (some (.builtin "BaseException.__getattribute__")))
    (xhkRiftError : PySem.W.findIn K (.ref CRiftError) "__getattr__" = some none)
    (xhsRiftError : PySem.W.subIn K (.ref CRiftError) (.type "BaseException") = some true)
    (xhdRiftError : PySem.W.hasDictIn K CRiftError = true)
    (xhaRiftError : PySem.W.findIn K (.ref CRiftError) "__class__" = some (some (.builtin "object.__class__")))
    (xhnRiftError : PySem.W.specialIn K (.builtin "object.__class__") "__get__" = some (some (.builtin "getset_descriptor.__get__")))
    (xhtRiftError : PySem.W.takesIn K (.builtin "object.__class__") = some true)
    (xhmRiftError : PySem.W.mroIn K CRiftError (.type "object") = some true)
    (xtyRiftError : PySem.W.typeIn K (.ref CRiftError) = some (.type "type"))
    (xveRiftError : PySem.W.subIn K (.ref CRiftError) (.type "ValueError") = some true)
    (xaNoPack : PySem.W.nsIn K mainGlobals "NoPack" = some (some (.ref CNoPack)))
    (xkNoPack : PySem.W.keepIn K (.ref CNoPack) = true)
    (xeNoPack : PySem.W.excIn K CNoPack [.type "ValueError", .type "Exception", .type "BaseException", .type "object"] "ValueError.__new__" = true)
    (xhgNoPack : PySem.W.findIn K (.ref CNoPack) "__getattribute__" = some (some (.builtin "BaseException.__getattribute__")))
    (xhkNoPack : PySem.W.findIn K (.ref CNoPack) "__getattr__" = some none)
    (xhsNoPack : PySem.W.subIn K (.ref CNoPack) (.type "BaseException") = some true)
    (xhdNoPack : PySem.W.hasDictIn K CNoPack = true)
    (xhaNoPack : PySem.W.findIn K (.ref CNoPack) "__class__" = some (some (.builtin "object.__class__")))
    (xhnNoPack : PySem.W.specialIn K (.builtin "object.__class__") "__get__" = some (some (.builtin "getset_descriptor.__get__")))
    (xhtNoPack : PySem.W.takesIn K (.builtin "object.__class__") = some true)
    (xhmNoPack : PySem.W.mroIn K CNoPack (.type "object") = some true)
    (xtyNoPack : PySem.W.typeIn K (.ref CNoPack) = some (.type "type"))
    (xveNoPack : PySem.W.subIn K (.ref CNoPack) (.type "ValueError") = some true)
    (xaNoMarks : PySem.W.nsIn K mainGlobals "NoMarks" = some (some (.ref CNoMarks)))
    (xkNoMarks : PySem.W.keepIn K (.ref CNoMarks) = true)
    (xeNoMarks : PySem.W.excIn K CNoMarks [.type "ValueError", .type "Exception", .type "BaseException", .type "object"] "ValueError.__new__" = true)
    (xhgNoMarks : PySem.W.findIn K (.ref CNoMarks) "__getattribute__" = some (some (.builtin "BaseException.__getattribute__")))
    (xhkNoMarks : PySem.W.findIn K (.ref CNoMarks) "__getattr__" = some none)
    (xhsNoMarks : PySem.W.subIn K (.ref CNoMarks) (.type "BaseException") = some true)
    (xhdNoMarks : PySem.W.hasDictIn K CNoMarks = true)
    (xhaNoMarks : PySem.W.findIn K (.ref CNoMarks) "__class__" = some (some (.builtin "object.__class__")))
    (xhnNoMarks : PySem.W.specialIn K (.builtin "object.__class__") "__get__" = some (some (.builtin "getset_descriptor.__get__")))
    (xhtNoMarks : PySem.W.takesIn K (.builtin "object.__class__") = some true)
    (xhmNoMarks : PySem.W.mroIn K CNoMarks (.type "object") = some true)
    (xtyNoMarks : PySem.W.typeIn K (.ref CNoMarks) = some (.type "type"))
    (xveNoMarks : PySem.W.subIn K (.ref CNoMarks) (.type "ValueError") = some true)
    (xaNoRiffle : PySem.W.nsIn K mainGlobals "NoRiffle" = some (some (.ref CNoRiffle)))
    (xkNoRiffle : PySem.W.keepIn K (.ref CNoRiffle) = true)
    (xeNoRiffle : PySem.W.excIn K CNoRiffle [.type "ValueError", .type "Exception", .type "BaseException", .type "object"] "ValueError.__new__" = true)
    (xhgNoRiffle : PySem.W.findIn K (.ref CNoRiffle) "__getattribute__" = some (some (.builtin "BaseException.__getattribute__")))
    (xhkNoRiffle : PySem.W.findIn K (.ref CNoRiffle) "__getattr__" = some none)
    (xhsNoRiffle : PySem.W.subIn K (.ref CNoRiffle) (.type "BaseException") = some true)
    (xhdNoRiffle : PySem.W.hasDictIn K CNoRiffle = true)
    (xhaNoRiffle : PySem.W.findIn K (.ref CNoRiffle) "__class__" = some (some (.builtin "object.__class__")))
    (xhnNoRiffle : PySem.W.specialIn K (.builtin "object.__class__") "__get__" = some (some (.builtin "getset_descriptor.__get__")))
    (xhtNoRiffle : PySem.W.takesIn K (.builtin "object.__class__") = some true)
    (xhmNoRiffle : PySem.W.mroIn K CNoRiffle (.type "object") = some true)
    (xtyNoRiffle : PySem.W.typeIn K (.ref CNoRiffle) = some (.type "type"))
    (xveNoRiffle : PySem.W.subIn K (.ref CNoRiffle) (.type "ValueError") = some true)
    (xaNoWay : PySem.W.nsIn K mainGlobals "NoWay" = some (some (.ref CNoWay)))
    (xkNoWay : PySem.W.keepIn K (.ref CNoWay) = true)
    (xeNoWay : PySem.W.excIn K CNoWay [.type "ValueError", .type "Exception", .type "BaseException", .type "object"] "ValueError.__new__" = true)
    (xhgNoWay : PySem.W.findIn K (.ref CNoWay) "__getattribute__" = some (some (.builtin "BaseException.__getattribute__")))
    (xhkNoWay : PySem.W.findIn K (.ref CNoWay) "__getattr__" = some none)
    (xhsNoWay : PySem.W.subIn K (.ref CNoWay) (.type "BaseException") = some true)
    (xhdNoWay : PySem.W.hasDictIn K CNoWay = true)
    (xhaNoWay : PySem.W.findIn K (.ref CNoWay) "__class__" = some (some (.builtin "object.__class__")))
    (xhnNoWay : PySem.W.specialIn K (.builtin "object.__class__") "__get__" = some (some (.builtin "getset_descriptor.__get__")))
    (xhtNoWay : PySem.W.takesIn K (.builtin "object.__class__") = some true)
    (xhmNoWay : PySem.W.mroIn K CNoWay (.type "object") = some true)
    (xtyNoWay : PySem.W.typeIn K (.ref CNoWay) = some (.type "type"))
    (xveNoWay : PySem.W.subIn K (.ref CNoWay) (.type "ValueError") = some true)
    (xaTooMany : PySem.W.nsIn K mainGlobals "TooMany" = some (some (.ref CTooMany)))
    (xkTooMany : PySem.W.keepIn K (.ref CTooMany) = true)
    (xeTooMany : PySem.W.excIn K CTooMany [.type "ValueError", .type "Exception", .type "BaseException", .type "object"] "ValueError.__new__" = true)
    (xhgTooMany : PySem.W.findIn K (.ref CTooMany) "__getattribute__" = some (some (.builtin "BaseException.__getattribute__")))
    (xhkTooMany : PySem.W.findIn K (.ref CTooMany) "__getattr__" = some none)
    (xhsTooMany : PySem.W.subIn K (.ref CTooMany) (.type "BaseException") = some true)
    (xhdTooMany : PySem.W.hasDictIn K CTooMany = true)
    (xhaTooMany : PySem.W.findIn K (.ref CTooMany) "__class__" = some (some (.builtin "object.__class__")))
    (xhnTooMany : PySem.W.specialIn K (.builtin "object.__class__") "__get__" = some (some (.builtin "getset_descriptor.__get__")))
    (xhtTooMany : PySem.W.takesIn K (.builtin "object.__class__") = some true)
    (xhmTooMany : PySem.W.mroIn K CTooMany (.type "object") = some true)
    (xtyTooMany : PySem.W.typeIn K (.ref CTooMany) = some (.type "type"))
    (xveTooMany : PySem.W.subIn K (.ref CTooMany) (.type "ValueError") = some true)
    (xaNoFigures : PySem.W.nsIn K mainGlobals "NoFigures" = some (some (.ref CNoFigures)))
    (xkNoFigures : PySem.W.keepIn K (.ref CNoFigures) = true)
    (xeNoFigures : PySem.W.excIn K CNoFigures [.type "ValueError", .type "Exception", .type "BaseException", .type "object"] "ValueError.__new__" = true)
    (xhgNoFigures : PySem.W.findIn K (.ref CNoFigures) "__getattribute__" = some (some (.builtin "BaseException.__getattribute__")))
    (xhkNoFigures : PySem.W.findIn K (.ref CNoFigures) "__getattr__" = some none)
    (xhsNoFigures : PySem.W.subIn K (.ref CNoFigures) (.type "BaseException") = some true)
    (xhdNoFigures : PySem.W.hasDictIn K CNoFigures = true)
    (xhaNoFigures : PySem.W.findIn K (.ref CNoFigures) "__class__" = some (some (.builtin "object.__class__")))
    (xhnNoFigures : PySem.W.specialIn K (.builtin "object.__class__") "__get__" = some (some (.builtin "getset_descriptor.__get__")))
    (xhtNoFigures : PySem.W.takesIn K (.builtin "object.__class__") = some true)
    (xhmNoFigures : PySem.W.mroIn K CNoFigures (.type "object") = some true)
    (xtyNoFigures : PySem.W.typeIn K (.ref CNoFigures) = some (.type "type"))
    (xveNoFigures : PySem.W.subIn K (.ref CNoFigures) (.type "ValueError") = some true)
    (xaNoText : PySem.W.nsIn K mainGlobals "NoText" = some (some (.ref CNoText)))
    (xkNoText : PySem.W.keepIn K (.ref CNoText) = true)
    (xeNoText : PySem.W.excIn K CNoText [.type "ValueError", .type "Exception", .type "BaseException", .type "object"] "ValueError.__new__" = true)
    (xhgNoText : PySem.W.findIn K (.ref CNoText) "__getattribute__" = some (some (.builtin "BaseException.__getattribute__")))
    (xhkNoText : PySem.W.findIn K (.ref CNoText) "__getattr__" = some none)
    (xhsNoText : PySem.W.subIn K (.ref CNoText) (.type "BaseException") = some true)
    (xhdNoText : PySem.W.hasDictIn K CNoText = true)
    (xhaNoText : PySem.W.findIn K (.ref CNoText) "__class__" = some (some (.builtin "object.__class__")))
    (xhnNoText : PySem.W.specialIn K (.builtin "object.__class__") "__get__" = some (some (.builtin "getset_descriptor.__get__")))
    (xhtNoText : PySem.W.takesIn K (.builtin "object.__class__") = some true)
    (xhmNoText : PySem.W.mroIn K CNoText (.type "object") = some true)
    (xtyNoText : PySem.W.typeIn K (.ref CNoText) = some (.type "type"))
    (xveNoText : PySem.W.subIn K (.ref CNoText) (.type "ValueError") = some true)
    (yTooManyNoFigures : PySem.W.subIn K (.ref CTooMany) (.ref CNoFigures) = some false)
    (zTooManyNoFigures : CTooMany ≠ CNoFigures)
    (yTooManyNoMarks : PySem.W.subIn K (.ref CTooMany) (.ref CNoMarks) = some false)
    (zTooManyNoMarks : CTooMany ≠ CNoMarks)
    (yTooManyNoPack : PySem.W.subIn K (.ref CTooMany) (.ref CNoPack) = some false)
    (zTooManyNoPack : CTooMany ≠ CNoPack)
    (yTooManyNoRiffle : PySem.W.subIn K (.ref CTooMany) (.ref CNoRiffle) = some false)
    (zTooManyNoRiffle : CTooMany ≠ CNoRiffle)
    (yTooManyNoText : PySem.W.subIn K (.ref CTooMany) (.ref CNoText) = some false)
    (zTooManyNoText : CTooMany ≠ CNoText)
    (yTooManyNoWay : PySem.W.subIn K (.ref CTooMany) (.ref CNoWay) = some false)
    (zTooManyNoWay : CTooMany ≠ CNoWay)
    (yTooManyRiftError : PySem.W.subIn K (.ref CTooMany) (.ref CRiftError) = some true)
    (yTooManyTooMany : PySem.W.subIn K (.ref CTooMany) (.ref CTooMany) = some true)
    (yC : cdlaid_by = .ref cL) (yK : K.lookup cL = some ⟨eC, eD, .fields eV, eS⟩) (yV : eV[11]? = some (.ref PL)) (yN : K.lookup PL = none) :
    LamX.LawAtS l w K CX0 7 63 "_law_script" mg fa h := by
  have e := hfa.symm.trans (PySem.W.mg_of X G alaw)
  cases e
  refine lawAt_of (fd := PySem.W.fnOf "law" "law" (defArgs s_law) (defBody s_law) (defScope s_law) .none kVlaw dclaw pmlaw anlaw cdlaw ctlaw) (yT _ _ (tabIn_of alaid_by llaid_by yC yK yV)) yN (fun s v => .of_eq rfl) (fun base _ _ TB => ?_)
  exact ⟨_, ok_law (P := l.prog) (w := w) (base := base) (K := K) (mg := mg) { c_lam := cL, P_lam := PL, TB_lam := TB, FC_laid_by := ⟨fun_mk (st := s_laid_by) llaid_by claid_by klaid_by, yC⟩, f_law_big := flaw_big, fd_law_big := _, F_law_big := fun_mk (st := s_law_big) llaw_big claw_big klaw_big, g_law_big := PySem.W.mg_of X G alaw_big, b_law_big := ((fun_mk (st := s_law_big) llaw_big claw_big klaw_big).binds (ps := ["_law_script", "_law_k"]) (fun _ _ _ _ _ _ us hl => match us, hl with | [_, _], _ => rfl)), f_law_order := flaw_order, fd_law_order := _, F_law_order := fun_mk (st := s_law_order) llaw_order claw_order klaw_order, g_law_order := PySem.W.mg_of X G alaw_order, b_law_order := ((fun_mk (st := s_law_order) llaw_order claw_order klaw_order).binds (ps := ["_law_n", "_law_cell"]) (fun _ _ _ _ _ _ us hl => match us, hl with | [_, _], _ => rfl)), f_falls := ffalls, fd_falls := _, F_falls := fun_mk (st := s_falls) lfalls cfalls kfalls, g_falls := PySem.W.mg_of X G afalls, b_falls := ((fun_mk (st := s_falls) lfalls cfalls kfalls).binds (ps := ["order"]) (fun _ _ _ _ _ _ us hl => match us, hl with | [_], _ => rfl)), f_laid_by := flaid_by, fd_laid_by := _, F_laid_by := fun_mk (st := s_laid_by) llaid_by claid_by klaid_by, g_laid_by := PySem.W.mg_of X G alaid_by, b_laid_by := ((fun_mk (st := s_laid_by) llaid_by claid_by klaid_by).binds (ps := ["order", "word"]) (fun _ _ _ _ _ _ us hl => match us, hl with | [_, _], _ => rfl)), f_falls_from := ffalls_from, fd_falls_from := _, F_falls_from := fun_mk (st := s_falls_from) lfalls_from cfalls_from kfalls_from, g_falls_from := PySem.W.mg_of X G afalls_from, b_falls_from := ((fun_mk (st := s_falls_from) lfalls_from cfalls_from kfalls_from).binds (ps := ["order", "b"]) (fun _ _ _ _ _ _ us hl => match us, hl with | [_, _], _ => rfl)), f_law_told := flaw_told, fd_law_told := _, F_law_told := fun_mk (st := s_law_told) llaw_told claw_told klaw_told, g_law_told := PySem.W.mg_of X G alaw_told, b_law_told := ((fun_mk (st := s_law_told) llaw_told claw_told klaw_told).binds (ps := ["_law_order_here", "_law_b", "_law_words"]) (fun _ _ _ _ _ _ us hl => match us, hl with | [_, _, _], _ => rfl)), f_law_alone := flaw_alone, fd_law_alone := _, F_law_alone := fun_mk (st := s_law_alone) llaw_alone claw_alone klaw_alone, g_law_alone := PySem.W.mg_of X G alaw_alone, b_law_alone := ((fun_mk (st := s_law_alone) llaw_alone claw_alone klaw_alone).binds (ps := ["_law_e"]) (fun _ _ _ _ _ _ us hl => match us, hl with | [_], _ => rfl)), f_law_refused := flaw_refused, fd_law_refused := _, F_law_refused := fun_mk (st := s_law_refused) llaw_refused claw_refused klaw_refused, g_law_refused := PySem.W.mg_of X G alaw_refused, b_law_refused := ((fun_mk (st := s_law_refused) llaw_refused claw_refused klaw_refused).binds (ps := ["_law_order_here", "_law_b"]) (fun _ _ _ _ _ _ us hl => match us, hl with | [_, _], _ => rfl)), f_law := fa, fd_law := _, F_law := fun_mk (st := s_law) llaw claw klaw, g_law := PySem.W.mg_of X G alaw, b_law := ((fun_mk (st := s_law) llaw claw klaw).binds (ps := ["_law_script"]) (fun _ _ _ _ _ _ us hl => match us, hl with | [_], _ => rfl)), u_MOST := _, c_MOST := PySem.W.mg_of X G z_MOST, r_MOST := ⟨_, rfl⟩, m_ValueError := PySem.W.mg_none_of X G z_ValueError, m_isinstance := PySem.W.mg_none_of X G z_isinstance, m_len := PySem.W.mg_none_of X G z_len, m_list := PySem.W.mg_none_of X G z_list, m_min := PySem.W.mg_none_of X G z_min, m_range := PySem.W.mg_none_of X G z_range, m_sorted := PySem.W.mg_none_of X G z_sorted, m_sum := PySem.W.mg_none_of X G z_sum, C_RiftError := CRiftError, X_RiftError := ⟨PySem.W.mg_of X G xaRiftError, xkRiftError, xeRiftError, ⟨xhgRiftError, xhkRiftError, xhsRiftError, xhdRiftError, xhaRiftError, xhnRiftError, xhtRiftError, xhmRiftError⟩, xtyRiftError, xveRiftError⟩, C_NoPack := CNoPack, X_NoPack := ⟨PySem.W.mg_of X G xaNoPack, xkNoPack, xeNoPack, ⟨xhgNoPack, xhkNoPack, xhsNoPack, xhdNoPack, xhaNoPack, xhnNoPack, xhtNoPack, xhmNoPack⟩, xtyNoPack, xveNoPack⟩, C_NoMarks := CNoMarks, X_NoMarks := ⟨PySem.W.mg_of X G xaNoMarks, xkNoMarks, xeNoMarks, ⟨xhgNoMarks, xhkNoMarks, xhsNoMarks, xhdNoMarks, xhaNoMarks, xhnNoMarks, xhtNoMarks, xhmNoMarks⟩, xtyNoMarks, xveNoMarks⟩, C_NoRiffle := CNoRiffle, X_NoRiffle := ⟨PySem.W.mg_of X G xaNoRiffle, xkNoRiffle, xeNoRiffle, ⟨xhgNoRiffle, xhkNoRiffle, xhsNoRiffle, xhdNoRiffle, xhaNoRiffle, xhnNoRiffle, xhtNoRiffle, xhmNoRiffle⟩, xtyNoRiffle, xveNoRiffle⟩, C_NoWay := CNoWay, X_NoWay := ⟨PySem.W.mg_of X G xaNoWay, xkNoWay, xeNoWay, ⟨xhgNoWay, xhkNoWay, xhsNoWay, xhdNoWay, xhaNoWay, xhnNoWay, xhtNoWay, xhmNoWay⟩, xtyNoWay, xveNoWay⟩, C_TooMany := CTooMany, X_TooMany := ⟨PySem.W.mg_of X G xaTooMany, xkTooMany, xeTooMany, ⟨xhgTooMany, xhkTooMany, xhsTooMany, xhdTooMany, xhaTooMany, xhnTooMany, xhtTooMany, xhmTooMany⟩, xtyTooMany, xveTooMany⟩, C_NoFigures := CNoFigures, X_NoFigures := ⟨PySem.W.mg_of X G xaNoFigures, xkNoFigures, xeNoFigures, ⟨xhgNoFigures, xhkNoFigures, xhsNoFigures, xhdNoFigures, xhaNoFigures, xhnNoFigures, xhtNoFigures, xhmNoFigures⟩, xtyNoFigures, xveNoFigures⟩, C_NoText := CNoText, X_NoText := ⟨PySem.W.mg_of X G xaNoText, xkNoText, xeNoText, ⟨xhgNoText, xhkNoText, xhsNoText, xhdNoText, xhaNoText, xhnNoText, xhtNoText, xhmNoText⟩, xtyNoText, xveNoText⟩, S_TooMany_NoFigures := yTooManyNoFigures, N_TooMany_NoFigures := zTooManyNoFigures, S_TooMany_NoMarks := yTooManyNoMarks, N_TooMany_NoMarks := zTooManyNoMarks, S_TooMany_NoPack := yTooManyNoPack, N_TooMany_NoPack := zTooManyNoPack, S_TooMany_NoRiffle := yTooManyNoRiffle, N_TooMany_NoRiffle := zTooManyNoRiffle, S_TooMany_NoText := yTooManyNoText, N_TooMany_NoText := zTooManyNoText, S_TooMany_NoWay := yTooManyNoWay, N_TooMany_NoWay := zTooManyNoWay, S_TooMany_RiftError := yTooManyRiftError, S_TooMany_TooMany := yTooManyTooMany }, fun H a ns Q E hl hP hS hq => ⟨a, ns, LT.nil, minus H [PL], rfl, lent_tbl (q := q_lam) hP, sqL_minus hS hP, hl, fun H1 k2 res e fr => by rw [e]; exact hq H1⟩⟩
end Rc
open PySem PySem.W PyProof.Rows
set_option maxHeartbeats 0 in
theorem PySem.Challenge.cw_riftcarry_k66_too_many_words_holds : PySem.Challenge.rw_riftcarry_k66_too_many_words.Holds := by
  w_on; o_law; k_head; (case hw => w_witness2)
  k_fill
  refine Rc.walk_ofLam (l := PySem.Challenge.rw_riftcarry_k66_too_many_words) (n := 63) (k := 7) (x := "_law_script") (x0 := "laid_by") (CX := fun _ => L2.CX0) rfl (by decide) rfl ⟨rfl, by decide, by decide⟩ rfl (fun w h Y => by first | exact PySem.W.km_in_of Y | exact PySem.W.kIn_of Y) ?F (fun _ _ _ _ _ h => h)
  case F =>
    intro w mg fa h KX G hmg yT
    refine' Rc.all_mk KX G hmg yT ?alaw_big ?llaw_big ?claw_big ?klaw_big ?alaw_order ?llaw_order ?claw_order ?klaw_order ?afalls ?lfalls ?cfalls ?kfalls ?alaid_by ?llaid_by ?claid_by ?klaid_by ?afalls_from ?lfalls_from ?cfalls_from ?kfalls_from ?alaw_told ?llaw_told ?claw_told ?klaw_told ?alaw_alone ?llaw_alone ?claw_alone ?klaw_alone ?alaw_refused ?llaw_refused ?claw_refused ?klaw_refused ?alaw ?llaw ?claw ?klaw ?z_MOST ?z_ValueError ?z_isinstance ?z_len ?z_list ?z_min ?z_range ?z_sorted ?z_sum ?xaRiftError ?xkRiftError ?xeRiftError ?xhgRiftError ?xhkRiftError ?xhsRiftError ?xhdRiftError ?xhaRiftError ?xhnRiftError ?xhtRiftError ?xhmRiftError ?xtyRiftError ?xveRiftError ?xaNoPack ?xkNoPack ?xeNoPack ?xhgNoPack ?xhkNoPack ?xhsNoPack ?xhdNoPack ?xhaNoPack ?xhnNoPack ?xhtNoPack ?xhmNoPack ?xtyNoPack ?xveNoPack ?xaNoMarks ?xkNoMarks ?xeNoMarks ?xhgNoMarks ?xhkNoMarks ?xhsNoMarks ?xhdNoMarks ?xhaNoMarks ?xhnNoMarks ?xhtNoMarks ?xhmNoMarks ?xtyNoMarks ?xveNoMarks ?xaNoRiffle ?xkNoRiffle ?xeNoRiffle ?xhgNoRiffle ?xhkNoRiffle ?xhsNoRiffle ?xhdNoRiffle ?xhaNoRiffle ?xhnNoRiffle ?xhtNoRiffle ?xhmNoRiffle ?xtyNoRiffle ?xveNoRiffle ?xaNoWay ?xkNoWay ?xeNoWay ?xhgNoWay ?xhkNoWay ?xhsNoWay ?xhdNoWay ?xhaNoWay ?xhnNoWay ?xhtNoWay ?xhmNoWay ?xtyNoWay ?xveNoWay ?xaTooMany ?xkTooMany ?xeTooMany ?xhgTooMany ?xhkTooMany ?xhsTooMany ?xhdTooMany ?xhaTooMany ?xhnTooMany ?xhtTooMany ?xhmTooMany ?xtyTooMany ?xveTooMany ?xaNoFigures ?xkNoFigures ?xeNoFigures ?xhgNoFigures ?xhkNoFigures ?xhsNoFigures ?xhdNoFigures ?xhaNoFigures ?xhnNoFigures ?xhtNoFigures ?xhmNoFigures ?xtyNoFigures ?xveNoFigures ?xaNoText ?xkNoText ?xeNoText ?xhgNoText ?xhkNoText ?xhsNoText ?xhdNoText ?xhaNoText ?xhnNoText ?xhtNoText ?xhmNoText ?xtyNoText ?xveNoText ?yTooManyNoFigures ?zTooManyNoFigures ?yTooManyNoMarks ?zTooManyNoMarks ?yTooManyNoPack ?zTooManyNoPack ?yTooManyNoRiffle ?zTooManyNoRiffle ?yTooManyNoText ?zTooManyNoText ?yTooManyNoWay ?zTooManyNoWay ?yTooManyRiftError ?yTooManyTooMany ?yC ?yK ?yV ?yN
    (case alaw_big => k_is); (case llaw_big => k_is); (case claw_big => k_is); (case klaw_big => k_is); (case alaw_order => k_is); (case llaw_order => k_is); (case claw_order => k_is); (case klaw_order => k_is); (case afalls => k_is); (case lfalls => k_is); (case cfalls => k_is); (case kfalls => k_is); (case alaid_by => k_is); (case llaid_by => k_is); (case claid_by => k_is); (case klaid_by => k_is); (case afalls_from => k_is); (case lfalls_from => k_is); (case cfalls_from => k_is); (case kfalls_from => k_is); (case alaw_told => k_is); (case llaw_told => k_is); (case claw_told => k_is); (case klaw_told => k_is); (case alaw_alone => k_is); (case llaw_alone => k_is); (case claw_alone => k_is); (case klaw_alone => k_is); (case alaw_refused => k_is); (case llaw_refused => k_is); (case claw_refused => k_is); (case klaw_refused => k_is); (case alaw => k_is); (case llaw => k_is); (case claw => k_is); (case klaw => k_is); (case z_MOST => k_is); (case z_ValueError => k_is); (case z_isinstance => k_is); (case z_len => k_is); (case z_list => k_is); (case z_min => k_is); (case z_range => k_is); (case z_sorted => k_is); (case z_sum => k_is); (case xaRiftError => k_is); (case xkRiftError => k_is); (case xeRiftError => k_exc); (case xhgRiftError => k_is); (case xhkRiftError => k_is); (case xhsRiftError => k_is); (case xhdRiftError => k_is); (case xhaRiftError => k_is); (case xhnRiftError => k_is); (case xhtRiftError => k_is); (case xhmRiftError => k_is); (case xtyRiftError => k_is); (case xveRiftError => k_is); (case xaNoPack => k_is); (case xkNoPack => k_is); (case xeNoPack => k_exc); (case xhgNoPack => k_is); (case xhkNoPack => k_is); (case xhsNoPack => k_is); (case xhdNoPack => k_is); (case xhaNoPack => k_is); (case xhnNoPack => k_is); (case xhtNoPack => k_is); (case xhmNoPack => k_is); (case xtyNoPack => k_is); (case xveNoPack => k_is); (case xaNoMarks => k_is); (case xkNoMarks => k_is); (case xeNoMarks => k_exc); (case xhgNoMarks => k_is); (case xhkNoMarks => k_is); (case xhsNoMarks => k_is); (case xhdNoMarks => k_is); (case xhaNoMarks => k_is); (case xhnNoMarks => k_is); (case xhtNoMarks => k_is); (case xhmNoMarks => k_is); (case xtyNoMarks => k_is); (case xveNoMarks => k_is); (case xaNoRiffle => k_is); (case xkNoRiffle => k_is); (case xeNoRiffle => k_exc); (case xhgNoRiffle => k_is); (case xhkNoRiffle => k_is); (case xhsNoRiffle => k_is); (case xhdNoRiffle => k_is); (case xhaNoRiffle => k_is); (case xhnNoRiffle => k_is); (case xhtNoRiffle => k_is); (case xhmNoRiffle => k_is); (case xtyNoRiffle => k_is); (case xveNoRiffle => k_is); (case xaNoWay => k_is); (case xkNoWay => k_is); (case xeNoWay => k_exc); (case xhgNoWay => k_is); (case xhkNoWay => k_is); (case xhsNoWay => k_is); (case xhdNoWay => k_is); (case xhaNoWay => k_is); (case xhnNoWay => k_is); (case xhtNoWay => k_is); (case xhmNoWay => k_is); (case xtyNoWay => k_is); (case xveNoWay => k_is); (case xaTooMany => k_is); (case xkTooMany => k_is); (case xeTooMany => k_exc); (case xhgTooMany => k_is); (case xhkTooMany => k_is); (case xhsTooMany => k_is); (case xhdTooMany => k_is); (case xhaTooMany => k_is); (case xhnTooMany => k_is); (case xhtTooMany => k_is); (case xhmTooMany => k_is); (case xtyTooMany => k_is); (case xveTooMany => k_is); (case xaNoFigures => k_is); (case xkNoFigures => k_is); (case xeNoFigures => k_exc); (case xhgNoFigures => k_is); (case xhkNoFigures => k_is); (case xhsNoFigures => k_is); (case xhdNoFigures => k_is); (case xhaNoFigures => k_is); (case xhnNoFigures => k_is); (case xhtNoFigures => k_is); (case xhmNoFigures => k_is); (case xtyNoFigures => k_is); (case xveNoFigures => k_is); (case xaNoText => k_is); (case xkNoText => k_is); (case xeNoText => k_exc); (case xhgNoText => k_is); (case xhkNoText => k_is); (case xhsNoText => k_is); (case xhdNoText => k_is); (case xhaNoText => k_is); (case xhnNoText => k_is); (case xhtNoText => k_is); (case xhmNoText => k_is); (case xtyNoText => k_is); (case xveNoText => k_is); (case yTooManyNoFigures => k_is); (case zTooManyNoFigures => decide); (case yTooManyNoMarks => k_is); (case zTooManyNoMarks => decide); (case yTooManyNoPack => k_is); (case zTooManyNoPack => decide); (case yTooManyNoRiffle => k_is); (case zTooManyNoRiffle => decide); (case yTooManyNoText => k_is); (case zTooManyNoText => decide); (case yTooManyNoWay => k_is); (case zTooManyNoWay => decide); (case yTooManyRiftError => k_is); (case yTooManyTooMany => k_is); (case yC => rfl); (case yK => k_is); (case yV => rfl); (case yN => first | rfl | with_unfolding_all rfl)
