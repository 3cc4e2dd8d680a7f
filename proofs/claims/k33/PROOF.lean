import PyProof.Rows.All
import Wide.All
import OpenK.AllK
import Wide.FinOn
import HandS.ForMost
import HandS.IsInst
import HandS.Conv
import HandS.Wide
import HandS.WideBits
import HandS.Evl
import HandS.Walk
import HandS.SortInts
import HandS.SetFor
import HandS.Style
import HandS.Rev
import HandS.RevTup
import HandS.ForExc
import HandS.ExcIs
import HandS.HotCalls
import PyProof.Rows.CountFlat
import PySem.Challenge.RW_riftcarry_k33_parted_again
set_option Elab.async false
set_option linter.all false
set_option maxRecDepth 100000
set_option maxHeartbeats 4000000
namespace Rc
open PySem PySem.Spec PyProof.Rows L2

/-! frames: H grew out of H0; own lists the objects that are new since then -/
structure Fr (H0 H : Hp) (own : List (Addr × HO)) : Prop where
  same : Same H0 H
  frs : ∀ p ∈ own, H0 p.1 = none ∧ H p.1 = some p.2
  nd : (own.map (·.1)).Nodup

section
variable {H0 H H' : Hp} {own : List (Addr × HO)} {p q r t : Addr} {o o' u v x : HO}
theorem same_new (h : H p = none) : Same H (upd H p o) := fun b x e => by
  rw [upd_ne (ne_of_none e h)]; exact e
theorem Fr.nil (H : Hp) : Fr H H [] := ⟨Same.refl H, (fun _ h => nomatch h), List.nodup_nil⟩
theorem Fr.fresh (f : Fr H0 H own) (h : H p = none) : H0 p = none := f.same.free h
theorem Fr.notin (f : Fr H0 H own) (h : H p = none) : p ∉ own.map (·.1) := fun hm => by
  obtain ⟨z, hz, rfl⟩ := List.mem_map.mp hm
  rw [(f.frs z hz).2] at h; cases h
theorem Fr.call (f : Fr H0 H own) (s : Same H H') : Fr H0 H' own :=
  ⟨f.same.trans s, fun z hz => ⟨(f.frs z hz).1, s _ _ (f.frs z hz).2⟩, f.nd⟩
theorem Fr.cnew (f : Fr H0 H own) (s : Same H H') (h : H p = none) (e : H' p = some o) : Fr H0 H' ((p, o) :: own) :=
  ⟨f.same.trans s, fun z hz => by
    rcases List.mem_cons.mp hz with rfl | hz
    · exact ⟨f.fresh h, e⟩
    · exact ⟨(f.frs z hz).1, s _ _ (f.frs z hz).2⟩, List.nodup_cons.mpr ⟨f.notin h, f.nd⟩⟩
theorem Fr.new (f : Fr H0 H own) (h : H p = none) : Fr H0 (upd H p o) ((p, o) :: own) := f.cnew (same_new h) h upd_same
theorem Fr.tmp (f : Fr H0 H own) (h : H p = none) : Fr H0 (upd H p o) own := f.call (same_new h)
theorem Fr.sub {own' : List (Addr × HO)} (f : Fr H0 H own) (h : own'.Sublist own) : Fr H0 H own' :=
  ⟨f.same, fun z hz => f.frs z (h.subset hz), f.nd.sublist (h.map _)⟩
theorem Fr.perm {own' : List (Addr × HO)} (f : Fr H0 H own) (h : own.Perm own') : Fr H0 H own' :=
  ⟨f.same, fun z hz => f.frs z (h.mem_iff.mpr hz), (h.map _).nodup_iff.mp f.nd⟩
theorem Fr.mem (f : Fr H0 H own) (h : (p, o) ∈ own) : H p = some o := (f.frs _ h).2
theorem Fr.wr (f : Fr H0 H ((p, o) :: own)) : Fr H0 (upd H p o') ((p, o') :: own) := by
  have hn := List.nodup_cons.mp f.nd
  refine ⟨fun b z e => ?_, fun z hz => ?_, f.nd⟩
  · have : b ≠ p := fun h => by subst h; rw [(f.frs (b, o) List.mem_cons_self).1] at e; cases e
    rw [upd_ne this]; exact f.same _ _ e
  · rcases List.mem_cons.mp hz with rfl | hz
    · exact ⟨(f.frs (p, o) List.mem_cons_self).1, upd_same⟩
    · have : z.1 ≠ p := fun h => hn.1 (List.mem_map.mpr ⟨z, hz, h⟩)
      rw [upd_ne this]
      exact f.frs z (List.mem_cons_of_mem _ hz)
theorem Fr.cast (f : Fr H0 H ((p, o) :: own)) (e : o = o') : Fr H0 H ((p, o') :: own) := e ▸ f
/-- bring the k-th to the front, and back -/
theorem Fr.up1 {a b : Addr × HO} (f : Fr H0 H (a :: b :: own)) : Fr H0 H (b :: a :: own) := f.perm (List.Perm.swap _ _ _)
theorem Fr.up2 {a b c : Addr × HO} (f : Fr H0 H (a :: b :: c :: own)) : Fr H0 H (c :: a :: b :: own) :=
  f.perm ((List.Perm.swap c b own).cons a |>.trans (List.Perm.swap c a (b :: own)))
theorem Fr.up3 {a b c d : Addr × HO} (f : Fr H0 H (a :: b :: c :: d :: own)) : Fr H0 H (d :: a :: b :: c :: own) :=
  f.perm (((List.Perm.swap d c own).cons b |>.trans (List.Perm.swap d b (c :: own))).cons a |>.trans (List.Perm.swap d a (b :: c :: own)))
theorem Fr.dn1 {a b : Addr × HO} (f : Fr H0 H (b :: a :: own)) : Fr H0 H (a :: b :: own) := f.up1
theorem Fr.dn2 {a b c : Addr × HO} (f : Fr H0 H (c :: a :: b :: own)) : Fr H0 H (a :: b :: c :: own) := f.up1.perm ((List.Perm.swap _ _ _).cons _)
theorem Fr.dn3 {a b c d : Addr × HO} (f : Fr H0 H (d :: a :: b :: c :: own)) : Fr H0 H (a :: b :: c :: d :: own) :=
  f.up1.perm (((List.Perm.swap _ _ _).trans ((List.Perm.swap _ _ _).cons _)).cons _)
theorem Fr.at0 (f : Fr H0 H ((p, o) :: own)) : H p = some o := f.mem List.mem_cons_self
theorem Fr.at1 {a : Addr × HO} (f : Fr H0 H (a :: (p, o) :: own)) : H p = some o := f.up1.at0
theorem Fr.at2 {a b : Addr × HO} (f : Fr H0 H (a :: b :: (p, o) :: own)) : H p = some o := f.up2.at0
theorem Fr.at3 {a b c : Addr × HO} (f : Fr H0 H (a :: b :: c :: (p, o) :: own)) : H p = some o := f.up3.at0
theorem Fr.at4 {a b c d : Addr × HO} (f : Fr H0 H (a :: b :: c :: d :: (p, o) :: own)) : H p = some o := (f.sub (List.sublist_cons_self _ _)).at3
theorem Fr.at5 {a b c d e : Addr × HO} (f : Fr H0 H (a :: b :: c :: d :: e :: (p, o) :: own)) : H p = some o := (f.sub (List.sublist_cons_self _ _)).at4
theorem Fr.d0 {a : Addr × HO} (f : Fr H0 H (a :: own)) : Fr H0 H own := f.sub (List.sublist_cons_self _ _)
theorem Fr.d1 {a b : Addr × HO} (f : Fr H0 H (a :: b :: own)) : Fr H0 H (a :: own) := f.up1.d0
theorem Fr.d2 {a b c : Addr × HO} (f : Fr H0 H (a :: b :: c :: own)) : Fr H0 H (a :: b :: own) := f.up2.d0
theorem Fr.d3 {a b c d : Addr × HO} (f : Fr H0 H (a :: b :: c :: d :: own)) : Fr H0 H (a :: b :: c :: own) := f.up3.d0
theorem Fr.wr1 {a : Addr × HO} (f : Fr H0 H (a :: (p, o) :: own)) : Fr H0 (upd H p o') (a :: (p, o') :: own) := f.up1.wr.dn1
theorem Fr.wr2 {a b : Addr × HO} (f : Fr H0 H (a :: b :: (p, o) :: own)) : Fr H0 (upd H p o') (a :: b :: (p, o') :: own) := f.up2.wr.dn2
theorem Fr.wr3 {a b c : Addr × HO} (f : Fr H0 H (a :: b :: c :: (p, o) :: own)) : Fr H0 (upd H p o') (a :: b :: c :: (p, o') :: own) := f.up3.wr.dn3
theorem Fr.cs1 {a : Addr × HO} (f : Fr H0 H (a :: (p, o) :: own)) (e : o = o') : Fr H0 H (a :: (p, o') :: own) := e ▸ f
theorem Fr.cs2 {a b : Addr × HO} (f : Fr H0 H (a :: b :: (p, o) :: own)) (e : o = o') : Fr H0 H (a :: b :: (p, o') :: own) := e ▸ f
theorem Fr.cs3 {a b c : Addr × HO} (f : Fr H0 H (a :: b :: c :: (p, o) :: own)) (e : o = o') : Fr H0 H (a :: b :: c :: (p, o') :: own) := e ▸ f
end

/-! contents -/
theorem app_map {α β : Type} (f : α → β) (xs : List α) (y : α) : xs.map f ++ [f y] = (xs ++ [y]).map f := by simp
theorem set_map' {α β : Type} (f : α → β) (xs : List α) (j : Nat) (y : α) : (xs.map f).set j (f y) = (xs.set j y).map f := by rw [List.map_set]
theorem lst_app {α : Type} (f : α → V) (xs : List α) (y : α) : HO.lst (xs.map f ++ [f y]) = .lst ((xs ++ [y]).map f) := by rw [app_map]
theorem lst_set {α : Type} (f : α → V) (xs : List α) (j : Nat) (y : α) : HO.lst ((xs.map f).set j (f y)) = .lst ((xs.set j y).map f) := by rw [set_map']
theorem lst_rev {α : Type} (f : α → V) (xs : List α) : HO.lst ((xs.map f).reverse) = .lst (xs.reverse.map f) := by rw [List.map_reverse]
theorem lst_cat {α : Type} (f : α → V) (xs ys : List α) : HO.lst (xs.map f ++ ys.map f) = .lst ((xs ++ ys).map f) := by rw [List.map_append]
theorem lst_rep {α : Type} (f : α → V) (xs : List α) (k : Nat) : HO.lst (List.replicate k (xs.map f)).flatten = .lst ((List.replicate k xs).flatten.map f) := by
  rw [List.map_flatten, List.map_replicate]
theorem erase_map' {α β : Type} (f : α → β) : ∀ (xs : List α) (k : Nat), (xs.map f).eraseIdx k = (xs.eraseIdx k).map f
  | [], _ => rfl
  | _ :: _, 0 => rfl
  | x :: xs, k + 1 => by
    show f x :: (xs.map f).eraseIdx k = f x :: (xs.eraseIdx k).map f
    rw [erase_map' f xs k]
theorem lst_erase {α : Type} (f : α → V) (xs : List α) (k : Nat) : HO.lst ((xs.map f).eraseIdx k) = .lst ((xs.eraseIdx k).map f) := by rw [erase_map']
theorem lst_dl {α : Type} (f : α → V) (xs : List α) : HO.lst ((xs.map f).dropLast) = .lst (xs.dropLast.map f) := by rw [List.map_dropLast]
theorem lst_rep1 {α : Type} (f : α → V) (x : α) (k : Nat) : HO.lst (List.replicate k [f x]).flatten = .lst ((List.replicate k x).map f) := by
  rw [List.map_replicate]; congr 1
  induction k with
  | zero => rfl
  | succ k ih => rw [List.replicate_succ, List.flatten_cons, ih]; rfl
/-- a slice with step one -/
def cutL {α : Type} (xs : List α) (lo hi : Option Int) : List α :=
  (xs.drop (HT.sIx xs.length 0 lo)).take (HT.sIx xs.length xs.length hi - HT.sIx xs.length 0 lo)
theorem lst_cut {α : Type} (f : α → V) (xs : List α) (lo hi : Option Int) : HO.lst (cutV (xs.map f) lo hi) = .lst ((cutL xs lo hi).map f) := by
  unfold cutV cutL; rw [List.length_map, List.map_take, List.map_drop]
theorem cutL_length {α : Type} (xs : List α) (lo hi : Option Int) : (cutL xs lo hi).length = min (HT.sIx xs.length xs.length hi - HT.sIx xs.length 0 lo) (xs.length - HT.sIx xs.length 0 lo) := by
  unfold cutL; rw [List.length_take, List.length_drop]
theorem rgV_eq (a b : Int) : rgV a b = ((List.range (b - a).toNat).map fun i : Nat => a + (i : Int)).map V.int := by
  unfold rgV; rw [List.map_map]; rfl
def rangeI (n : Int) : List Int := (List.range n.toNat).map fun i : Nat => (i : Int)
theorem lst_rng (n : Int) : HO.lst (rgV 0 n) = .lst ((rangeI n).map V.int) := by
  rw [rgV_eq]; unfold rangeI; congr 2; simp
theorem atD {α : Type} {f : α → V} {xs : List α} {i : Int} (d : α) (h0 : 0 ≤ i) (h1 : i < (xs.length : Int)) : atI (xs.map f) i = some (f (xs.getD i.toNat d)) := by
  obtain ⟨n, rfl⟩ := Int.eq_ofNat_of_zero_le h0
  have hn : n < xs.length := by omega
  refine atI_nat ?_
  rw [List.getElem?_map, List.getElem?_eq_getElem hn]
  simp [List.getD, hn]
theorem ixD {n : Nat} {i : Int} (h0 : 0 ≤ i) (h1 : i < (n : Int)) : ixN n i = some i.toNat := by
  unfold ixN; rw [if_pos h0, if_pos h1]
theorem atLast {α : Type} {f : α → V} {xs : List α} (d : α) (h : 0 < xs.length) : atI (xs.map f) (-1) = some (f (xs.getLastD d)) := by
  have hne : xs ≠ [] := fun z => by subst z; cases h
  have e : xs.map f = xs.dropLast.map f ++ [f (xs.getLast hne)] := by
    rw [← List.map_singleton, ← List.map_append, List.dropLast_concat_getLast]
  rw [e, atI_last, List.getLastD_eq_getLast?, List.getLast?_eq_some_getLast hne]; rfl
theorem getD_mem {α : Type} {xs : List α} {i : Nat} {d : α} (h : i < xs.length) : xs.getD i d ∈ xs := by
  simp [List.getD, h]

/-! tests -/
theorem iteD {c : Prop} [Decidable c] {A B : Prop} (h1 : c → A) (h2 : ¬ c → B) : if decide c = true then A else B := by
  by_cases h : c
  · rw [if_pos (decide_eq_true h)]; exact h1 h
  · rw [if_neg (by rw [decide_eq_false h]; exact Bool.false_ne_true)]; exact h2 h
theorem iteN {c : Prop} [Decidable c] {A B : Prop} (h1 : ¬ c → A) (h2 : c → B) : if (!decide c) = true then A else B := by
  by_cases h : c
  · rw [if_neg (by rw [decide_eq_true h]; exact Bool.false_ne_true)]; exact h2 h
  · rw [if_pos (by rw [decide_eq_false h]; rfl)]; exact h1 h
theorem iteB {b : Bool} {A B : Prop} (h1 : b = true → A) (h2 : b = false → B) : if b = true then A else B := by
  cases b with
  | true => exact iteT (h1 rfl)
  | false => exact iteF (h2 rfl)
theorem iteBT {b : Bool} {A B : Prop} (h : b = true) (h1 : A) : if b = true then A else B := by subst h; exact iteT h1
theorem iteBF {b : Bool} {A B : Prop} (h : b = false) (h1 : B) : if b = true then A else B := by subst h; exact iteF h1

/-! operators by values, in handy forms -/
section
variable {X : Cx}
theorem op_eqB : OpR X (compareOp .Eq) (fun x y H Q => ∃ a b : Bool, x = .bl a ∧ y = .bl b ∧ Q (.bl (a == b)) H) := by
  intro pins s σ H x y v u Q I rx ry h
  obtain ⟨a, b, rfl, rfl, q⟩ := h
  refine op_eq pins s σ H _ _ v u Q I rx ry ⟨rfl, ?_⟩
  have : decide (V.bl a = V.bl b) = (a == b) := by cases a <;> cases b <;> rfl
  rw [this]; exact q
theorem op_neB : OpR X (compareOp .NotEq) (fun x y H Q => ∃ a b : Bool, x = .bl a ∧ y = .bl b ∧ Q (.bl (a != b)) H) := by
  intro pins s σ H x y v u Q I rx ry h
  obtain ⟨a, b, rfl, rfl, q⟩ := h
  refine op_ne pins s σ H _ _ v u Q I rx ry ⟨rfl, ?_⟩
  have : (!decide (V.bl a = V.bl b)) = (a != b) := by cases a <;> cases b <;> rfl
  rw [this]; exact q
def rLenL (K : PySem.W.Frag) : List V → Hp → VK → Prop := fun xs H Q => ∃ p n ys, xs = [.ref p] ∧ SqL K H p ys ∧ ys.length = n ∧ Q (.int (n : Nat)) H
theorem call_lenL : CallR X (.builtin "len") (rLenL X.K) := by
  intro pins s σ H xs us Q I r h
  obtain ⟨p, n, ys, rfl, hp, rfl, q⟩ := h
  exact call_len_seq pins s σ H _ us Q I r ⟨p, ys, rfl, .inl hp, q⟩
def rLenT (K : PySem.W.Frag) : List V → Hp → VK → Prop := fun xs H Q => ∃ p n ys, xs = [.ref p] ∧ SqT K H p ys ∧ ys.length = n ∧ Q (.int (n : Nat)) H
theorem call_lenT : CallR X (.builtin "len") (rLenT X.K) := by
  intro pins s σ H xs us Q I r h
  obtain ⟨p, n, ys, rfl, hp, rfl, q⟩ := h
  exact call_len_seq pins s σ H _ us Q I r ⟨p, ys, rfl, .inr hp, q⟩
def rListL (K : PySem.W.Frag) : List V → Hp → VK → Prop := fun xs H Q => ∃ p ys, xs = [.ref p] ∧ (SqL K H p ys ∨ SqT K H p ys) ∧ ∀ l, H l = none → Q (.ref l) (upd H l (.lst ys))
theorem call_listL : CallR X (.type "list") (rListL X.K) := call_list_of
theorem call_minI (hc : X.calm = true) : CallR X (.builtin "min") (fun xs H Q => ∃ i j : Int, xs = [.int i, .int j] ∧ Q (.int (min i j)) H) := by
  intro pins s σ H xs us Q I r h
  obtain ⟨i, j, rfl, q⟩ := h
  refine call_min2 hc pins s σ H _ us Q I r ⟨i, j, rfl, ?_⟩
  have : (if j < i then j else i) = min i j := by
    by_cases h : j < i
    · rw [if_pos h]; omega
    · rw [if_neg h]; omega
  rw [this]; exact q
theorem call_maxI (hc : X.calm = true) : CallR X (.builtin "max") (fun xs H Q => ∃ i j : Int, xs = [.int i, .int j] ∧ Q (.int (max i j)) H) := by
  intro pins s σ H xs us Q I r h
  obtain ⟨i, j, rfl, q⟩ := h
  refine call_max2 hc pins s σ H _ us Q I r ⟨i, j, rfl, ?_⟩
  have : (if j > i then j else i) = max i j := by
    by_cases h : j > i
    · rw [if_pos h]; omega
    · rw [if_neg h]; omega
  rw [this]; exact q
theorem call_absI : CallR X (.builtin "abs") (fun xs H Q => ∃ i : Int, xs = [.int i] ∧ Q (.int (i.natAbs : Nat)) H) := by
  intro pins s σ H xs us Q I r h
  obtain ⟨i, rfl, q⟩ := h
  refine call_abs pins s σ H _ us Q I r ⟨i, rfl, ?_⟩
  have : (if i < 0 then -i else i) = (i.natAbs : Int) := by
    by_cases h : i < 0
    · rw [if_pos h]; omega
    · rw [if_neg h]; omega
  rw [this]; exact q
theorem pe_bmK {K : PySem.W.Frag} {e : Expr} {T : String} {r : V → List V → Hp → VK → Prop} {to : TE} {t : TA} (h : PE X e (tBM X.K T r to t)) (hk : X.K = K := by rfl) : PE X e (tBM K T r to t) := by subst hk; exact h
/-- comparisons, told in two ways -/
theorem op_ltS : OpR X (compareOp .Lt) (fun x y H Q => ∃ i j : Int, x = .int i ∧ y = .int j ∧ (i < j → Q (.bl true) H) ∧ (¬ i < j → Q (.bl false) H)) := by
  intro pins s σ H x y v u Q I rx ry h
  obtain ⟨i, j, rfl, rfl, q1, q2⟩ := h
  refine op_lt pins s σ H _ _ v u Q I rx ry ⟨i, j, rfl, rfl, ?_⟩
  show Q (V.bl (decide (i < j))) H
  by_cases h : i < j
  · rw [decide_eq_true h]; exact q1 h
  · rw [decide_eq_false h]; exact q2 h
theorem op_leS : OpR X (compareOp .LtE) (fun x y H Q => ∃ i j : Int, x = .int i ∧ y = .int j ∧ (i ≤ j → Q (.bl true) H) ∧ (¬ i ≤ j → Q (.bl false) H)) := by
  intro pins s σ H x y v u Q I rx ry h
  obtain ⟨i, j, rfl, rfl, q1, q2⟩ := h
  refine op_le pins s σ H _ _ v u Q I rx ry ⟨i, j, rfl, rfl, ?_⟩
  show Q (V.bl (decide (i ≤ j))) H
  by_cases h : i ≤ j
  · rw [decide_eq_true h]; exact q1 h
  · rw [decide_eq_false h]; exact q2 h
theorem op_gtS : OpR X (compareOp .Gt) (fun x y H Q => ∃ i j : Int, x = .int i ∧ y = .int j ∧ (j < i → Q (.bl true) H) ∧ (¬ j < i → Q (.bl false) H)) := by
  intro pins s σ H x y v u Q I rx ry h
  obtain ⟨i, j, rfl, rfl, q1, q2⟩ := h
  refine op_gt pins s σ H _ _ v u Q I rx ry ⟨i, j, rfl, rfl, ?_⟩
  show Q (V.bl (decide (j < i))) H
  by_cases h : j < i
  · rw [decide_eq_true h]; exact q1 h
  · rw [decide_eq_false h]; exact q2 h
theorem op_geS : OpR X (compareOp .GtE) (fun x y H Q => ∃ i j : Int, x = .int i ∧ y = .int j ∧ (j ≤ i → Q (.bl true) H) ∧ (¬ j ≤ i → Q (.bl false) H)) := by
  intro pins s σ H x y v u Q I rx ry h
  obtain ⟨i, j, rfl, rfl, q1, q2⟩ := h
  refine op_ge pins s σ H _ _ v u Q I rx ry ⟨i, j, rfl, rfl, ?_⟩
  show Q (V.bl (decide (j ≤ i))) H
  by_cases h : j ≤ i
  · rw [decide_eq_true h]; exact q1 h
  · rw [decide_eq_false h]; exact q2 h
theorem int_dec {i j : Int} : decide (V.int i = V.int j) = decide (i = j) := by
  by_cases h : i = j
  · subst h; rw [decide_eq_true rfl, decide_eq_true rfl]
  · rw [decide_eq_false h, decide_eq_false fun z => h (V.int.inj z)]
theorem op_eqS : OpR X (compareOp .Eq) (fun x y H Q => ∃ i j : Int, x = .int i ∧ y = .int j ∧ (i = j → Q (.bl true) H) ∧ (¬ i = j → Q (.bl false) H)) := by
  intro pins s σ H x y v u Q I rx ry h
  obtain ⟨i, j, rfl, rfl, q1, q2⟩ := h
  refine op_eq pins s σ H _ _ v u Q I rx ry ⟨rfl, ?_⟩
  rw [int_dec]
  by_cases h : i = j
  · rw [decide_eq_true h]; exact q1 h
  · rw [decide_eq_false h]; exact q2 h
theorem op_neS : OpR X (compareOp .NotEq) (fun x y H Q => ∃ i j : Int, x = .int i ∧ y = .int j ∧ (¬ i = j → Q (.bl true) H) ∧ (i = j → Q (.bl false) H)) := by
  intro pins s σ H x y v u Q I rx ry h
  obtain ⟨i, j, rfl, rfl, q1, q2⟩ := h
  refine op_ne pins s σ H _ _ v u Q I rx ry ⟨rfl, ?_⟩
  rw [int_dec]
  by_cases h : i = j
  · rw [decide_eq_true h]; exact q2 h
  · rw [decide_eq_false h]; exact q1 h
/-- a truth, told in two ways: as a test, as a value -/
def tBS (t : TE) : TT := fun σ H Q => t σ H fun x H1 => ∃ b, x = .bl b ∧ (b = true → Q true H1) ∧ (b = false → Q false H1)
theorem pt_valS {e : Expr} {t : TE} (h : PE X e t) (he : ∀ whole, isTrue e X.env whole = (do let v ← whole; standAt e.pos; holding [v] (truthy v)) := by intro _; rfl) : PT X e (tBS t) := by
  refine ⟨fun pins s σ H Q I hw => ?_⟩
  refine isTrue_plain (thn (h.run pins s σ H _ I hw) fun v s1 ⟨x, H1, I1, r1, q1⟩ => ?_) (he _)
  obtain ⟨d, rfl, q1, q2⟩ := q1
  cases r1
  refine wpAny_truthy_bool ⟨H1, I1, ?_⟩
  cases d with
  | true => exact q1 rfl
  | false => exact q2 rfl
/-- an operator whose answer is a truth, told in two ways -/
theorem opS {f : Value → Value → Sem Value} {r : R2} (h : OpR X f r) : OpR X f (fun x y H Q => r x y H fun z H1 => ∃ b, z = .bl b ∧ (b = true → Q (.bl true) H1) ∧ (b = false → Q (.bl false) H1)) := by
  intro pins s σ H x y v u Q I rx ry q
  refine thn (h pins s σ H x y v u _ I rx ry q) fun w s1 ⟨z, H1, I1, r1, q1⟩ => ?_
  obtain ⟨d, rfl, q1, q2⟩ := q1
  refine ⟨.bl d, H1, I1, r1, ?_⟩
  cases d with
  | true => exact q1 rfl
  | false => exact q2 rfl
/-- and, or, not as values, of truths told in two ways -/
def tSplE (t : TE) : TE := fun σ H Q => t σ H fun x H1 => ∃ b, x = .bl b ∧ (b = true → Q (.bl true) H1) ∧ (b = false → Q (.bl false) H1)
theorem pe_splS {e : Expr} {t : TE} (h : PE X e t) : PE X e (tSplE t) := by
  refine ⟨fun pins s σ H Q I hw => thn (h.run pins s σ H _ I hw) fun v s1 ⟨x, H1, I1, r1, q1⟩ => ?_⟩
  obtain ⟨d, rfl, q1, q2⟩ := q1
  refine ⟨.bl d, H1, I1, r1, ?_⟩
  cases d with
  | true => exact q1 rfl
  | false => exact q2 rfl
/-- a power of written numbers, told as a number -/
theorem op_powL : OpR X (binaryOp .Pow) (fun x y H Q => ∃ i j k : Int, x = .int i ∧ y = .int j ∧ CPow i j ∧ i ^ j.toNat = k ∧ Q (.int k) H) := by
  intro pins s σ H x y v u Q I rx ry h
  obtain ⟨i, j, k, rfl, rfl, hc, rfl, q⟩ := h
  exact op_pow pins s σ H _ _ v u Q I rx ry ⟨i, j, rfl, rfl, hc, q⟩
/-- xs[i], read for an augmented store -/
theorem get_list : PGet X (rIxL X.K) := by
  intro pins s σ H o i ov iv Q I ro ri h
  obtain ⟨p, xs, k, z, rfl, rfl, hq, he, q⟩ := h
  cases ro
  obtain ⟨tk, rfl⟩ := ri
  obtain ⟨its, vr, pl, hz⟩ := I.list hq
  obtain ⟨j, h1, h2, h3, h4, h5⟩ := atI_get he
  obtain ⟨w, ew, rw'⟩ := vr.get h2
  have hl := vr.length
  have hn := line63
  have fin : EP X pins σ Q w s := ⟨z, H, I, rw', q⟩
  by_cases h0 : 0 ≤ k
  · have hj : k.toNat = j := by
      rw [seqIndex_of h0 h5] at h1; exact Option.some.inj h1
    exact wpAny_mono (wpAny_getItem_list (Q := fun r s' => r = w ∧ EP X pins σ Q r s') pl.isList h0 (by omega) (by rw [hj]; simpa using ew) ⟨rfl, fin⟩) (fun _ _ z => z.2) fun _ _ z => z
  · have hj : (k + (its.toArray.size : Int)).toNat = j := by
      rw [seqIndex_neg (by omega) h4] at h1
      rw [List.size_toArray, ← hl]; exact Option.some.inj h1
    exact wpAny_mono (wpAny_getItem_list_neg (Q := fun r s' => r = w ∧ EP X pins σ Q r s') pl.isList (by omega) (by rw [List.size_toArray] <;> omega) (by omega) (by rw [hj]; simpa using ew) ⟨rfl, fin⟩) (fun _ _ z => z.2) fun _ _ z => z
end
end Rc
namespace Rc
open PySem PySem.Spec PyProof.Rows L2

section
variable {H0 H H' : Hp} {own : List (Addr × HO)} {p : Addr} {o : HO}
theorem Fr.n0 (f : Fr H0 H ((p, o) :: own)) : H0 p = none := (f.frs _ List.mem_cons_self).1
theorem Fr.n1 {a : Addr × HO} (f : Fr H0 H (a :: (p, o) :: own)) : H0 p = none := f.up1.n0
theorem Fr.n2 {a b : Addr × HO} (f : Fr H0 H (a :: b :: (p, o) :: own)) : H0 p = none := f.up2.n0
end
/-- the k-th of what is own -/
theorem getElem?_perm {α : Type} : ∀ {l : List α} {k : Nat} {x : α}, l[k]? = some x → l.Perm (x :: l.eraseIdx k)
  | [], _, _, h => by simp at h
  | y :: l, 0, x, h => by cases (Option.some.inj h); exact List.Perm.refl _
  | y :: l, k + 1, x, h => ((getElem?_perm (l := l) (k := k) h).cons y).trans (List.Perm.swap _ _ _)
section
variable {H0 H H' : Hp} {own : List (Addr × HO)} {p : Addr} {o o' : HO}
theorem Fr.atk (f : Fr H0 H own) (k : Nat) (h : own[k]? = some (p, o)) : H p = some o := f.mem (List.mem_of_getElem? h)
theorem Fr.upk {x : Addr × HO} (f : Fr H0 H own) (k : Nat) (h : own[k]? = some x) : Fr H0 H (x :: own.eraseIdx k) := f.perm (getElem?_perm h)
theorem Fr.dk (f : Fr H0 H own) (k : Nat) : Fr H0 H (own.eraseIdx k) := f.sub (List.eraseIdx_sublist _ _)
theorem set_perm {α : Type} : ∀ {l : List α} {k : Nat} {x y : α}, l[k]? = some x → (y :: l.eraseIdx k).Perm (l.set k y)
  | [], _, _, _, h => by simp at h
  | z :: l, 0, x, y, h => List.Perm.refl _
  | z :: l, k + 1, x, y, h => (List.Perm.swap _ _ _).trans ((set_perm (l := l) (k := k) (y := y) h).cons z)
theorem Fr.wrk {o'' : HO} (f : Fr H0 H own) (k : Nat) (h : own[k]? = some (p, o)) (e : o' = o'') : Fr H0 (upd H p o') (own.set k (p, o'')) := by
  subst e
  exact ((f.upk k h).wr (o' := o')).perm (set_perm h)
end
theorem ndT {c : Prop} [Decidable c] (h : ¬ c) : (!decide c) = true := by rw [decide_eq_false h]; rfl
theorem ndF {c : Prop} [Decidable c] (h : c) : (!decide c) = false := by rw [decide_eq_true h]; rfl
theorem of_nd {c : Prop} [Decidable c] (h : (!decide c) = false) : c := by
  by_cases z : c
  · exact z
  · rw [decide_eq_false z] at h; cases h
theorem not_of_nd {c : Prop} [Decidable c] (h : (!decide c) = true) : ¬ c := fun z => by rw [decide_eq_true z] at h; cases h
theorem bnotT {b : Bool} (h : (!b) = true) : b = false := by cases b with | true => cases h | false => rfl
theorem bnotF {b : Bool} (h : (!b) = false) : b = true := by cases b with | true => rfl | false => cases h
theorem iteBN {b : Bool} {A B : Prop} (h1 : b = false → A) (h2 : b = true → B) : if (!b) = true then A else B := by
  cases b with
  | false => exact iteT (h1 rfl)
  | true => exact iteF (h2 rfl)
theorem hu64 {A : Around} {k : Nat} (hr : Room k A) : A.units + 64 < cLine := by have := hr.un; omega

/-! what is walked, with typed contents -/
section
variable {α β : Type} {K : PySem.W.Frag} {a b : Addr}
theorem walkR {n : Nat} : Walk (Itr 0 n) n (fun _ => True) (fun i H x H' => H' = H ∧ x = .int (i : Nat)) :=
  walk_range.mono (fun _ h => h) fun i H x H' _ _ y => ⟨y.1, by rw [y.2]; exact congrArg V.int (Int.zero_add _)⟩
theorem walkL (f : α → V) (ns : List α) : Walk (Itl K a) ns.length (fun H => H a = some (.lst (ns.map f))) (fun i H x H' => H' = H ∧ ∃ y, ns[i]? = some y ∧ x = f y) := by
  have w := walk_list (K := K) (a := a) (xs := ns.map f)
  rw [List.length_map] at w
  refine w.mono (fun H h => SqL.of h) fun i H x H' _ _ y => ⟨y.1, ?_⟩
  have e := y.2
  rw [List.getElem?_map] at e
  cases h : ns[i]? with
  | none => rw [h] at e; cases e
  | some z => rw [h] at e; exact ⟨z, rfl, (Option.some.inj e).symm⟩
theorem walkV (ns : List V) : Walk (Itl K a) ns.length (fun H => H a = some (.lst ns)) (fun i H x H' => H' = H ∧ ns[i]? = some x) :=
  walk_list.mono (fun H h => SqL.of h) fun i H x H' _ _ y => y
theorem walkRv (f : α → V) (ns : List α) : Walk (Itv K a (ns.map f).length) ns.length (fun H => H a = some (.lst (ns.map f))) (fun i H x H' => H' = H ∧ ∃ y, ns[ns.length - 1 - i]? = some y ∧ x = f y) := by
  have w := walk_rev (K := K) (a := a) (xs := ns.map f)
  rw [List.length_map] at w ⊢
  refine w.mono (fun H h => SqL.of h) fun i H x H' _ _ y => ⟨y.1, ?_⟩
  have e := y.2
  rw [List.getElem?_map] at e
  cases h : ns[ns.length - 1 - i]? with
  | none => rw [h] at e; cases e
  | some z => rw [h] at e; exact ⟨z, rfl, (Option.some.inj e).symm⟩
theorem walkE (f : α → V) (ns : List α) : Walk (Ite K a) ns.length (fun H => H a = some (.lst (ns.map f)))
    (fun i H x H' => ∃ T y, x = .ref T ∧ H T = none ∧ H' = upd H T (.tup [.int (i : Nat), f y]) ∧ ns[i]? = some y) := by
  have w := walk_enum (K := K) (a := a) (xs := ns.map f)
  rw [List.length_map] at w
  refine w.mono (fun H h => SqL.of h) fun i H x H' _ _ y => ?_
  obtain ⟨T, u, v, h1, h2, h3, h4, h5⟩ := y
  cases h4
  replace h5 : (ns.map f)[i]? = some v := h5
  rw [List.getElem?_map] at h5
  cases h : ns[i]? with
  | none => rw [h] at h5; cases h5
  | some z => rw [h] at h5; cases (Option.some.inj h5); exact ⟨T, z, h1, h2, h3, rfl⟩
theorem walkZ (f : α → V) (g : β → V) (ns : List α) (ms : List β) : Walk (Itz K a b) (min ns.length ms.length) (fun H => H a = some (.lst (ns.map f)) ∧ H b = some (.lst (ms.map g)))
    (fun i H x H' => ∃ T y z, x = .ref T ∧ H T = none ∧ H' = upd H T (.tup [f y, g z]) ∧ ns[i]? = some y ∧ ms[i]? = some z) := by
  have w := walk_zip (K := K) (a := a) (b := b) (xs := ns.map f) (ys := ms.map g) (n := min ns.length ms.length) (by rw [List.length_map, List.length_map])
  refine w.mono (fun H h => ⟨SqL.of h.1, SqL.of h.2⟩) fun i H x H' _ _ y => ?_
  obtain ⟨T, u, v, h1, h2, h3, h4, h5⟩ := y
  replace h4 : (ns.map f)[i]? = some u := h4
  replace h5 : (ms.map g)[i]? = some v := h5
  rw [List.getElem?_map] at h4 h5
  cases h : ns[i]? with
  | none => rw [h] at h4; cases h4
  | some z =>
    cases h' : ms[i]? with
    | none => rw [h'] at h5; cases h5
    | some z' =>
      rw [h] at h4; rw [h'] at h5
      cases (Option.some.inj h4); cases (Option.some.inj h5)
      exact ⟨T, z, z', h1, h2, h3, rfl, rfl⟩
end

theorem map_c {α : Type} (xs : List α) (c : Int) : xs.map (fun _ => c) = List.replicate xs.length c := by
  induction xs with
  | nil => rfl
  | cons x xs ih => rw [List.map_cons, ih]; rfl
/-! comprehensions: one turn -/
section
variable {α β : Type} {enc : β → V} {f : α → β} {ns : List α} {i : Nat} {y : α}
theorem take_next (h : ns[i]? = some y) : ns.take (i + 1) = ns.take i ++ [y] := by rw [List.take_add_one, h]; rfl
theorem lc_l (h : ns[i]? = some y) : HO.lst ((((ns.take i).map f).map enc) ++ [enc (f y)]) = .lst (((ns.take (i + 1)).map f).map enc) := by
  rw [take_next h, List.map_append, List.map_append]; rfl
theorem lc_l_t {p : α → Bool} (h : ns[i]? = some y) (hp : p y = true) : HO.lst (((((ns.take i).filter p).map f).map enc) ++ [enc (f y)]) = .lst ((((ns.take (i + 1)).filter p).map f).map enc) := by
  rw [take_next h, List.filter_append, List.map_append, List.map_append, List.filter_cons_of_pos hp]; rfl
theorem lc_l_f {p : α → Bool} (h : ns[i]? = some y) (hp : p y = false) : HO.lst ((((ns.take i).filter p).map f).map enc) = .lst ((((ns.take (i + 1)).filter p).map f).map enc) := by
  rw [take_next h, List.filter_append, List.filter_cons_of_neg (by rw [hp]; exact Bool.false_ne_true)]; simp
theorem lc_r (f : Nat → β) (i : Nat) : HO.lst ((((List.range i).map f).map enc) ++ [enc (f i)]) = .lst (((List.range (i + 1)).map f).map enc) := by
  rw [List.range_succ, List.map_append, List.map_append]; rfl
theorem lc_r_t {f : Nat → β} {p : Nat → Bool} (hp : p i = true) : HO.lst (((((List.range i).filter p).map f).map enc) ++ [enc (f i)]) = .lst ((((List.range (i + 1)).filter p).map f).map enc) := by
  rw [List.range_succ, List.filter_append, List.map_append, List.map_append, List.filter_cons_of_pos hp]; rfl
theorem lc_r_f {f : Nat → β} {p : Nat → Bool} (hp : p i = false) : HO.lst ((((List.range i).filter p).map f).map enc) = .lst ((((List.range (i + 1)).filter p).map f).map enc) := by
  rw [List.range_succ, List.filter_append, List.filter_cons_of_neg (by rw [hp]; exact Bool.false_ne_true)]; simp
end

/-! whiles by a measure -/
theorem while_m {c : TT} {tb : TS} {D : Ends} {σ : L2.St} {H : Hp} (W : Nat → L2.St → Hp → Prop) (h0 : ∃ m, W m σ H)
    (hs : ∀ m σ H, W m σ H → c σ H fun b H1 => if b = true then ∃ N : L2.St → Hp → Prop, (∀ σ' H', N σ' H' → ∃ m', m' < m ∧ W m' σ' H') ∧ tb { D with nx := N, ct := N, bk := D.nx } σ H1 else D.nx σ H1) : tWhile c tb D σ H := ⟨W, h0, hs⟩

/-! pop(i) -/
theorem popix {n : Nat} {i : Int} (h0 : 0 ≤ i) (h1 : i < (n : Int)) {α β : Type} {f : α → β} {xs : List α} (hn : n = xs.length := by rfl) : seqIndex? i (xs.map f).length = some i.toNat := by
  subst hn; rw [List.length_map]; exact seqIndex_of h0 h1
theorem popat {α : Type} {f : α → V} {xs : List α} {k : Nat} (d : α) (h : k < xs.length) : (xs.map f)[k]? = some (f (xs.getD k d)) := by
  rw [List.getElem?_map, List.getElem?_eq_getElem h]; simp [List.getD, h]
theorem ixDm {α β : Type} {f : α → β} {xs : List α} {i : Int} (h0 : 0 ≤ i) (h1 : i < (xs.length : Int)) : ixN (xs.map f).length i = some i.toNat := by
  rw [List.length_map]; exact ixD h0 h1
theorem atV {xs : List V} {i : Int} (d : V) (h0 : 0 ≤ i) (h1 : i < (xs.length : Int)) : atI xs i = some (xs.getD i.toNat d) := by
  have := atD (f := fun v : V => v) d h0 h1
  rwa [List.map_id'] at this

/-! deep data -/
def dI (xs : List Int) : PyData := .list (xs.map PyData.int)
def dB (xs : List Bool) : PyData := .list (xs.map PyData.bool)
section
variable {K : PySem.W.Frag} {H : Hp} {a : Addr}
theorem dpAll {α : Type} {f : α → V} {g : α → PyData} (h : ∀ x, Dp K H (f x) (g x)) : ∀ xs : List α, DpAll K H (xs.map f) (xs.map g)
  | [] => .nil
  | x :: xs => .cons (h x) (dpAll h xs)
/-- a list, its depth by its items -/
theorem dp_ints {xs : List Int} (h : H a = some (.lst (xs.map V.int))) : Dp K H (.ref a) (dI xs) := .lst (SqL.of h) (dpAll (fun _ => .int _) xs)
theorem dp_bls {xs : List Bool} (h : H a = some (.lst (xs.map V.bl))) : Dp K H (.ref a) (dB xs) := .lst (SqL.of h) (dpAll (fun _ => .bl _) xs)
end
theorem canAll {α : Type} {g : α → PyData} (h : ∀ x, (g x).canLay0 = true) : ∀ xs : List α, PyData.canLayAll0 (xs.map g) = true
  | [] => rfl
  | x :: xs => by
    show ((g x).canLay0 && PyData.canLayAll0 (xs.map g)) = true
    rw [h x, canAll h xs]; rfl
theorem depthAll {α : Type} {g : α → PyData} {n : Nat} (h : ∀ x, (g x).depth ≤ n) : ∀ xs : List α, PyData.depthAll (xs.map g) ≤ n
  | [] => Nat.zero_le _
  | x :: xs => by
    show max (g x).depth (PyData.depthAll (xs.map g)) ≤ n
    have h1 := h x
    have h2 := depthAll h xs
    omega
/-- data of a depth of at most n, without texts -/
structure Okd (n : Nat) (d : PyData) : Prop where
  can : d.canLay0 = true
  dep : d.depth ≤ n
theorem Okd.sh {d : PyData} (h : Okd 9 d) : SeqAt.shaped d = true := by
  unfold SeqAt.shaped; rw [h.can, decide_eq_true (by have := h.dep; omega)]; rfl
theorem Okd.cn {d : PyData} (h : Okd 9 d) : d.canLay0 = true := h.can
section
variable {n : Nat}
theorem okd_ints (xs : List Int) : Okd (n + 1) (dI xs) := ⟨canAll (fun _ => rfl) xs, Nat.succ_le_succ (Nat.le_trans (depthAll (n := 0) (fun _ => Nat.le_refl _) xs) (Nat.zero_le _))⟩
theorem okd_bls (xs : List Bool) : Okd (n + 1) (dB xs) := ⟨canAll (fun _ => rfl) xs, Nat.succ_le_succ (Nat.le_trans (depthAll (n := 0) (fun _ => Nat.le_refl _) xs) (Nat.zero_le _))⟩
theorem okd_int {i : Int} : Okd n (.int i) := ⟨rfl, Nat.zero_le _⟩
theorem okd_bl {b : Bool} : Okd n (.bool b) := ⟨rfl, Nat.zero_le _⟩
theorem okd_non : Okd n .none := ⟨rfl, Nat.zero_le _⟩
theorem okl_nil : Okd (n + 1) (.list []) := ⟨rfl, Nat.succ_le_succ (Nat.zero_le _)⟩
theorem okl_cons {d : PyData} {ds : List PyData} (h : Okd n d) (h' : Okd (n + 1) (.list ds)) : Okd (n + 1) (.list (d :: ds)) := by
  obtain ⟨c, p⟩ := h; obtain ⟨c', p'⟩ := h'
  have e1 : PyData.canLayAll0 ds = true := c'
  have e2 : PyData.depthAll ds + 1 ≤ n + 1 := p'
  refine ⟨?_, ?_⟩
  · show (d.canLay0 && PyData.canLayAll0 ds) = true
    rw [c, e1]; rfl
  · show max d.depth (PyData.depthAll ds) + 1 ≤ n + 1
    omega
theorem okt_nil : Okd (n + 1) (.tuple []) := ⟨rfl, Nat.succ_le_succ (Nat.zero_le _)⟩
theorem okt_cons {d : PyData} {ds : List PyData} (h : Okd n d) (h' : Okd (n + 1) (.tuple ds)) : Okd (n + 1) (.tuple (d :: ds)) := by
  have q := okl_cons h (show Okd (n + 1) (.list ds) from ⟨h'.can, h'.dep⟩)
  exact ⟨q.can, q.dep⟩
end
section
variable {X : Cx}
/-- == of deep data, the answer told -/
def rEqX (K : PySem.W.Frag) : R2 := fun x y H Q => ∃ (d e : PyData) (b : Bool), Dp K H x d ∧ Dp K H y e ∧ SeqAt.shaped d = true ∧ SeqAt.shaped e = true ∧ PyData.eqv d e = b ∧ Q (.bl b) H
def rNeX (K : PySem.W.Frag) : R2 := fun x y H Q => ∃ (d e : PyData) (b : Bool), Dp K H x d ∧ Dp K H y e ∧ SeqAt.shaped d = true ∧ SeqAt.shaped e = true ∧ PyData.eqv d e = b ∧ Q (.bl (!b)) H
theorem op_eqX (hu : X.A.units + 64 < cLine) : OpR X (compareOp .Eq) (rEqX X.K) := by
  intro pins s σ H x y v u Q I rx ry h
  obtain ⟨d, e, b, h1, h2, h3, h4, rfl, q⟩ := h
  exact op_eqD hu pins s σ H x y v u Q I rx ry ⟨d, e, h1, h2, h3, h4, q⟩
theorem op_neX (hu : X.A.units + 64 < cLine) : OpR X (compareOp .NotEq) (rNeX X.K) := by
  intro pins s σ H x y v u Q I rx ry h
  obtain ⟨d, e, b, h1, h2, h3, h4, rfl, q⟩ := h
  exact op_neD hu pins s σ H x y v u Q I rx ry ⟨d, e, h1, h2, h3, h4, q⟩
end
/-- range(0, m, c), c from 1 on -/
theorem rgc_up {m c : Int} {n : Nat} (h0 : -(2 ^ 40) ≤ m) (h1 : m < 2 ^ 40) (hc : 0 < c) (hc' : c < 100000000) (hn : (n : Int) = if 0 < m then (m - 1) / c + 1 else 0) : RgC 0 m c n := by
  have hs : Builtin.Range.rangeSize 0 m c = n := by
    unfold Builtin.Range.rangeSize
    rw [if_pos (by omega), hn, Int.sub_zero]
  refine ⟨by omega, by omega, ?_, hs⟩
  have e2 : 0 < m → 0 ≤ (m - 1) / c := fun h => Int.ediv_nonneg (by omega) (by omega)
  have e3 : 0 < m → (m - 1) / c ≤ m - 1 := fun h => Int.ediv_le_self _ (by omega)
  unfold Builtin.Range.small
  rw [hs, hn]
  generalize (m - 1) / c = q at *
  simp only [Builtin.Range.rangeFitsLong, Bool.and_eq_true, Bool.or_eq_true, decide_eq_true_eq, beq_iff_eq]
  split
  · rename_i hm
    have := e2 hm
    have := e3 hm
    refine ⟨by omega, .inr ?_⟩
    rw [Bool.and_eq_true, decide_eq_true_eq, decide_eq_true_eq]
    omega
  · refine ⟨by omega, .inl rfl⟩
/-- .. with a step of two -/
theorem rgc2 {m : Int} (h0 : 0 ≤ m) (h1 : m < 2 ^ 40) : RgC 0 m 2 (Int.toNat ((m + 1) / 2)) := by
  refine rgc_up (by omega) h1 (by decide) (by decide) ?_
  split <;> omega
theorem rgc3 {m : Int} (h0 : 0 ≤ m) (h1 : m < 2 ^ 40) : RgC 0 m 3 (Int.toNat ((m + 2) / 3)) := by
  refine rgc_up (by omega) h1 (by decide) (by decide) ?_
  split <;> omega
theorem rgc4 {m : Int} (h0 : 0 ≤ m) (h1 : m < 2 ^ 40) : RgC 0 m 4 (Int.toNat ((m + 3) / 4)) := by
  refine rgc_up (by omega) h1 (by decide) (by decide) ?_
  split <;> omega
theorem rgc5 {m : Int} (h0 : 0 ≤ m) (h1 : m < 2 ^ 40) : RgC 0 m 5 (Int.toNat ((m + 4) / 5)) := by
  refine rgc_up (by omega) h1 (by decide) (by decide) ?_
  split <;> omega
theorem eqvAll_map {α : Type} [DecidableEq α] {g : α → PyData} (h : ∀ x y, PyData.eqv (g x) (g y) = decide (x = y)) : ∀ xs ys : List α, PyData.eqvAll (xs.map g) (ys.map g) = decide (xs = ys)
  | [], [] => rfl
  | [], _ :: _ => rfl
  | _ :: _, [] => rfl
  | x :: xs, y :: ys => by
    show (PyData.eqv (g x) (g y) && PyData.eqvAll (xs.map g) (ys.map g)) = _
    rw [h, eqvAll_map h xs ys]
    by_cases e : x = y
    · subst e
      by_cases e' : xs = ys
      · subst e'; simp
      · simp [e']
    · simp [e]
theorem eqv_ints (xs ys : List Int) : PyData.eqv (dI xs) (dI ys) = decide (xs = ys) :=
  eqvAll_map (fun x y => by show (x == y) = _; exact Bool.beq_eq_decide_eq x y) xs ys
theorem eqv_bls (xs ys : List Bool) : PyData.eqv (dB xs) (dB ys) = decide (xs = ys) :=
  eqvAll_map (fun x y => by show (x == y) = _; cases x <;> cases y <;> rfl) xs ys

/-! list.index of an int that is there -/
theorem flat_ints : ∀ xs : List Int, (xs.map V.int).all flatV = true
  | [] => rfl
  | _ :: xs => flat_ints xs
theorem ix_get {xs : List Int} {y : Int} (h : y ∈ xs) : (xs.map V.int)[xs.idxOf y]? = some (V.int y) := by
  rw [List.getElem?_map, List.getElem?_eq_getElem (List.idxOf_lt_length_of_mem h), List.getElem_idxOf]; rfl
theorem ix_eqv {y : Int} : eqV (V.int y) (V.int y) = true := by show (y == y) = true; exact beq_self_eq_true y
theorem ix_first (xs : List Int) (y : Int) : ∀ (m : Nat) (z : V), m < xs.idxOf y → (xs.map V.int)[m]? = some z → eqV z (V.int y) = false := fun m z hm e => by
  rw [List.getElem?_map] at e
  cases h : xs[m]? with
  | none => rw [h] at e; cases e
  | some w =>
    rw [h] at e; cases (Option.some.inj e)
    show (w == y) = false
    have hl := (List.getElem?_eq_some_iff.mp h)
    obtain ⟨hl, rfl⟩ := hl
    have := List.not_of_lt_findIdx (p := (· == y)) (xs := xs) (i := m) hm
    simpa using this

/-! isinstance of any scalar -/
def is_int : V → Bool
  | .int _ => true
  | .bl _ => true
  | _ => false
def is_bool : V → Bool
  | .bl _ => true
  | _ => false
/-- the scalars -/
def sca : V → Bool
  | .non => true
  | .bl _ => true
  | .int _ => true
  | .str z => PyData.strOk z
  | _ => false
def tyName : V → String
  | .non => "NoneType"
  | .bl _ => "bool"
  | .int _ => "int"
  | _ => "str"
theorem tyx_val {K : PySem.W.Frag} {H : Hp} {x : V} (h : sca x = true) : TyX K H x (.type (tyName x)) := by
  cases x with
  | non => exact .base .non
  | bl b => exact .base (.bl b)
  | int i => exact .base (.int i)
  | str z => exact .base (.str z)
  | byt _ => cases h
  | flt _ => cases h
  | ref _ => cases h
  | ty _ => cases h
theorem kit_int {K : PySem.W.Frag} {x : V} (h : sca x = true) : PySem.W.kitOne K (.type (tyName x)) (.type "int") = some (is_int x) := by
  cases x with
  | non => exact kit_ty (show kitB "NoneType" "int" = some false by decide +kernel)
  | bl b => exact kit_ty (show kitB "bool" "int" = some true by decide +kernel)
  | int i => exact kit_ty (show kitB "int" "int" = some true by decide +kernel)
  | str z => exact kit_ty (show kitB "str" "int" = some false by decide +kernel)
  | byt _ => cases h
  | flt _ => cases h
  | ref _ => cases h
  | ty _ => cases h
theorem kit_bool {K : PySem.W.Frag} {x : V} (h : sca x = true) : PySem.W.kitOne K (.type (tyName x)) (.type "bool") = some (is_bool x) := by
  cases x with
  | non => exact kit_ty (show kitB "NoneType" "bool" = some false by decide +kernel)
  | bl b => exact kit_ty (show kitB "bool" "bool" = some true by decide +kernel)
  | int i => exact kit_ty (show kitB "int" "bool" = some false by decide +kernel)
  | str z => exact kit_ty (show kitB "str" "bool" = some false by decide +kernel)
  | byt _ => cases h
  | flt _ => cases h
  | ref _ => cases h
  | ty _ => cases h
/-! lists of scalars -/
def toD : V → PyData
  | .bl b => .bool b
  | .int i => .int i
  | .str z => .str z
  | _ => .none
def dV (xs : List V) : PyData := .list (xs.map toD)
def Sca (xs : List V) : Prop := ∀ v ∈ xs, sca v = true
theorem Sca.nil : Sca [] := fun _ h => nomatch h
theorem Sca.cons {x : V} {xs : List V} (h : sca x = true) (hs : Sca xs) : Sca (x :: xs) := fun v hv => by
  rcases List.mem_cons.mp hv with rfl | hv
  · exact h
  · exact hs v hv
theorem Sca.app {xs ys : List V} (h : Sca xs) (h' : Sca ys) : Sca (xs ++ ys) := fun v hv => by
  rcases List.mem_append.mp hv with hv | hv
  · exact h v hv
  · exact h' v hv
theorem Sca.ints (xs : List Int) : Sca (xs.map V.int) := fun v hv => by
  obtain ⟨x, _, rfl⟩ := List.mem_map.mp hv; rfl
theorem Sca.bls (xs : List Bool) : Sca (xs.map V.bl) := fun v hv => by
  obtain ⟨x, _, rfl⟩ := List.mem_map.mp hv; rfl
theorem Sca.getD {xs : List V} (h : Sca xs) {i : Nat} {d : V} (hi : i < xs.length) : sca (xs.getD i d) = true := h _ (getD_mem hi)
theorem dp_val {K : PySem.W.Frag} {H : Hp} {v : V} (h : sca v = true) : Dp K H v (toD v) := by
  cases v with
  | non => exact .non
  | bl b => exact .bl b
  | int i => exact .int i
  | str z => exact .str z
  | byt _ => cases h
  | flt _ => cases h
  | ref _ => cases h
  | ty _ => cases h
theorem dp_valAll {K : PySem.W.Frag} {H : Hp} : ∀ {xs : List V}, Sca xs → DpAll K H xs (xs.map toD)
  | [], _ => .nil
  | x :: xs, h => .cons (dp_val (h x List.mem_cons_self)) (dp_valAll fun v hv => h v (List.mem_cons_of_mem _ hv))
theorem dp_vals {K : PySem.W.Frag} {H : Hp} {a : Addr} {xs : List V} (h : H a = some (.lst xs)) (hs : Sca xs) : Dp K H (.ref a) (dV xs) := .lst (SqL.of h) (dp_valAll hs)
theorem can_val {v : V} (h : sca v = true) : (toD v).canLay0 = true := by
  cases v with
  | str z => exact h
  | _ => rfl
theorem okd_val {n : Nat} {v : V} (h : sca v = true) : Okd n (toD v) := ⟨can_val h, by cases v <;> exact Nat.zero_le _⟩
theorem okd_vals {n : Nat} {xs : List V} (hs : Sca xs) : Okd (n + 1) (dV xs) := by
  refine ⟨?_, ?_⟩
  · show PyData.canLayAll0 (xs.map toD) = true
    induction xs with
    | nil => rfl
    | cons x xs ih =>
      show ((toD x).canLay0 && PyData.canLayAll0 (xs.map toD)) = true
      rw [can_val (hs x List.mem_cons_self), ih fun v hv => hs v (List.mem_cons_of_mem _ hv)]; rfl
  · exact Nat.succ_le_succ (Nat.le_trans (depthAll (n := 0) (fun v => by cases v <;> exact Nat.zero_le _) xs) (Nat.zero_le _))
end Rc
namespace Rc
open PySem PySem.Spec PyProof.Rows L2 RT
section
variable {prog : Program} {w : World} {A : Around} {E : Value → Shared → Prop} {s : Shared}
abbrev nilO (c : Nat) : Obj := { cls := .type "list", data := .seq #[] c }
/-- list.extend with a list's reversed iterator, into a new list at S -/
theorem rev_extend {it l S : Addr} {items : Array Value} {R : Result → Shared → Prop} {res : Value} {c0 : Nat} (hh : A.handled = none) (hit : s.heap.IsRevIter it l ((items.size : Int) - 1)) (hl : s.heap.IsList l items) (hne : l ≠ it)
    (hSi : S ≠ it) (hSl : S ≠ l) (hS : s.heap.get? S = some (nilO c0)) (hn : items.size ≤ sizeLine)
    (hR : ∀ h' tk acc c', (∀ b o, b ≠ S → b ≠ it → s.heap.get? b = some o → h'.get? b = some o) → h'.get? S = some { cls := .type "list", dict := none, data := .seq acc c', slots := #[] } →
      ItemsOf (fun i v => items[items.size - 1 - i]? = some v) acc items.size → R (.ok (.ret res)) { s with heap := h', toks := tk }) :
    wpAny (model prog w) A.in1 (Builtin.List.listExtendWith (.ref S) (.ref it) res)
      (fun fin z => match fin with | .done f => R (.ok f) z | .again c => c.quiet = true ∧ codeAny (model prog w) A c R z) (fun e z => R (.error e) z) s := by
  have W := (Walks.listRev (prog := prog) (w := w) (A := A.in1) hh it l hne items).toS
  have hf : S ∉ [it, l] := fun z => by
    rcases List.mem_cons.mp z with z | z
    · exact hSi z
    · exact hSl (List.mem_singleton.mp z)
  have ty : s.TypeIs (.ref it) "list_reverseiterator" := hit.typeIs
  have h1 : Builtin.List.listSameRef (.ref S) (.ref it) = false := by simp [Builtin.List.listSameRef, hSi]
  have h2 : (Value.type "list_reverseiterator" == Value.type "list") = false := by decide
  have h3 : (Value.type "list_reverseiterator" == Value.type "tuple") = false := by decide
  unfold Builtin.List.listExtendWith
  refine wpAny_bind (wpAny_typeOf ty ?_)
  simp only [h1, h2, h3, Bool.or_false, Bool.false_eq_true, if_false]
  refine wpAny_bind (wpAny_pyIter_revIter hit ?_)
  refine wpAny_bind (wpAny_holding ?_); unfold Builtin.List.listLengthHint
  refine wpAny_bind (wpAny_specialOf ty nolen_lri ?_)
  show wpAny _ A.in1 (specialOf (Value.ref it) (Str.ofString "__length_hint__") >>= _) _ _ _
  refine wpAny_bind (wpAny_specialOf ty hint_lri ?_)
  generalize hid : ("list_reverseiterator.__length_hint__" : String) = id0
  wp_delta
  rw [show splitId id0 = some ("list_reverseiterator", "__length_hint__") from by subst hid; decide +kernel]
  subst hid
  refine wpAny_bind (wpAny_isInstance (b := true) ty (by rw [isSubtype_type]; kernel_rfl) ?_)
  refine wpAny_pure ?_; rw [if_neg (by decide)]
  have e0 : ((items.size : Nat) : Int) - 1 - ((0 : Nat) : Int) = (items.size : Int) - 1 := by omega
  refine wpAny_pure ⟨plainId_quiet F.plain_extend_loop _, codeAny_extend_loopS W hn _ hf _ items.size 0 _ _ _ rfl (Nat.zero_le _) ⟨Nat.zero_le _, by rw [e0]; exact hit, hl⟩ hS (ItemsOf.nil _) fun z acc c' hm hz hacc => ?_⟩
  rw [Moved.eq_with hm]
  refine hR z.heap z.toks acc c' (fun b o h1 h2 e => hm.heap b o (fun hmem => ?_) e) hz hacc
  rcases List.mem_cons.mp hmem with q | q
  · exact h1 q
  · exact h2 (List.mem_singleton.mp q)
theorem call_list_rev {it l : Addr} {items : Array Value} {Q : Value → Shared → Prop} (hh : A.handled = none) (hit : s.heap.IsRevIter it l ((items.size : Int) - 1)) (hl : s.heap.IsList l items) (hne : l ≠ it) (hn : items.size ≤ sizeLine)
    (hQ : ∀ h' tk acc c', (∀ b o, b ≠ it → s.heap.get? b = some o → h'.get? b = some o) → h'.get? s.heap.objs.size = some { cls := .type "list", dict := none, data := .seq acc c', slots := #[] } →
      ItemsOf (fun i v => items[items.size - 1 - i]? = some v) acc items.size → Q (.ref s.heap.objs.size) { s with heap := h', toks := tk }) :
    wpAny (model prog w) A (call (.type "list") [.ref it]) Q E s := by
  refine callType_codes (Q₁ := fun obj z => obj = .ref s.heap.objs.size ∧ z = { s with heap := s.heap.push (nilO 0) }) F.called_list (F.typeCall_list_1 _) F.entry_list_init
    (code_list_new _ ⟨rfl, rfl⟩) fun obj z hz => ?_
  obtain ⟨rfl, rfl⟩ := hz
  obtain ⟨oi, hoi, _⟩ := id hit
  obtain ⟨ol, hol, _⟩ := id hl
  have hS : (s.heap.push (nilO 0)).get? s.heap.objs.size = some (nilO 0) := Heap.get?_push_size _ rfl
  have ni : s.heap.objs.size ≠ it := Nat.ne_of_gt (Heap.lt_size hoi)
  have nl : s.heap.objs.size ≠ l := Nat.ne_of_gt (Heap.lt_size hol)
  refine ⟨⟨_, hS, rfl⟩, F.args_list_init_2 _ _, ?_⟩
  show wpAny _ A.in1.in1 (do let old ← Builtin.List.listItems (.ref s.heap.objs.size); Builtin.List.listUpdate (.ref s.heap.objs.size) (fun _ => #[]); letGo old.toList.reverse; Builtin.List.listExtendWith (.ref s.heap.objs.size) (.ref it) .none) _ _ _
  refine wpAny_bind ?_; unfold Builtin.List.listItems
  refine wpAny_bind (wpAny_seqItems hS rfl (wpAny_pure ?_))
  show wpAny _ _ (updateSeq s.heap.objs.size (fun _ => #[]) >>= fun _ => letGo (#[] : Array Value).toList.reverse >>= fun _ => Builtin.List.listExtendWith (.ref s.heap.objs.size) (.ref it) .none) _ _ _
  refine wpAny_bind (wpAny_updateSeq hS rfl ?_)
  have hS2 := Heap.get?_update_self (Obj.mapSeq (fun _ => (#[] : Array Value))) hS rfl
  have oth : ∀ b o, b ≠ s.heap.objs.size → s.heap.get? b = some o → ((s.heap.push (nilO 0)).update s.heap.objs.size (Obj.mapSeq (fun _ => (#[] : Array Value)))).get? b = some o :=
    fun b o hb e => (Heap.get?_update_other _ _ (Ne.symm hb)).trans (Heap.get?_push_of_some _ e)
  refine wpAny_bind (wpAny_letGo ?_)
  refine rev_extend (A := A.in1) (s := { s with heap := _ }) hh (hit.at fun o e => oth _ _ ni.symm e) (hl.at fun o e => oth _ _ nl.symm e) hne ni nl hS2 hn fun h' tk acc c' hk hz hacc => ⟨rfl, ?_⟩
  exact hQ h' tk acc c' (fun b o hb e => hk b o (Nat.ne_of_lt (Heap.lt_size e)) hb (oth b o (Nat.ne_of_lt (Heap.lt_size e)) e)) hz hacc
end
section
variable {X : Cx}
/-- list(reversed(x)), x a list: a new list -/
def tListRev (K : PySem.W.Frag) (te : TE) : TE := fun σ H Q => te σ H fun v H1 => ∃ (a : Addr) (xs : List V), v = .ref a ∧ SqL K H1 a xs ∧ ∀ q, H1 q = none → Q (.ref q) (upd H1 q (.lst xs.reverse))
theorem pe_listRev {e : Expr} {te : TE} {p p2 pos pos2 : Pos} (hc : X.calm = true) (hg : Gl X "list") (hm : X.mg "list" = none) (hg2 : Gl X "reversed") (hm2 : X.mg "reversed" = none) (he : PE X e te)
    (hs : starEach [e] X.env = (false, eval e X.env) :: starEach [] X.env := by rfl)
    (hs2 : starEach [.Call (.Name "reversed" p2) [e] [] pos2] X.env = (false, eval (.Call (.Name "reversed" p2) [e] [] pos2) X.env) :: starEach [] X.env := by rfl) :
    PE X (.Call (.Name "list" p) [.Call (.Name "reversed" p2) [e] [] pos2] [] pos) (tListRev X.K te) := by
  refine ⟨fun pins s σ H Q I h => Call_ (ld_blt I hg hm (show bootBuiltins ("list" : Str) = some (.type "list") by decide +kernel) (PyProof.Rows.callWith_type1 (args_cons (Call_ (ld_blt I hg2 hm2 PyProof.Rows.boot_reversed (PyProof.Rows.callWith_type1 (args_cons (thn (he.run pins s σ H _ I h) fun u s1 ⟨v, H1, I1, r1, q1⟩ => args_nil ?_) hs) hs rfl))) hs2) hs2 rfl))⟩
  obtain ⟨a, xs, ev, hq, q⟩ := q1
  subst ev; obtain rfl : u = Value.ref a := r1
  obtain ⟨its, rv, pl, hz⟩ := I1.list hq
  refine call_reversed_list pl.isList (args_nil ?_)
  have k0 : ∀ b o, s1.heap.get? b = some o → (s1.heap.push (revObj a ((its.toArray.size : Int) - 1))).get? b = some o := fun b o z => Heap.get?_push_of_some _ z
  have I2 : Inv X pins σ H1 { s1 with heap := s1.heap.push (revObj a ((its.toArray.size : Int) - 1)) } := I1.kept (t' := s1.toks) k0
  have hl := pl.isList
  obtain ⟨ol, hol, _⟩ := id hl
  have hne : a ≠ s1.heap.objs.size := Nat.ne_of_lt (Heap.lt_size hol)
  have hn : its.toArray.size ≤ sizeLine := by rw [List.size_toArray, ← rv.length]; exact hz
  have hf := I1.hok.fresh (Nat.le_refl s1.heap.objs.size)
  refine call_list_rev (s := { s1 with heap := s1.heap.push (revObj a ((its.toArray.size : Int) - 1)) }) (I1.ok.hd hc) ⟨_, Heap.get?_push_size _ rfl, rfl, rfl⟩ (hl.push _) hne hn fun h' tk acc c' hk hS hi => ?_
  have hsz : s1.heap.objs.size ≤ (s1.heap.push (revObj a ((its.toArray.size : Int) - 1))).objs.size := by rw [Heap.size_push]; omega
  have kk : ∀ b o, s1.heap.get? b = some o → h'.get? b = some o := fun b o z => hk b o (Nat.ne_of_lt (Heap.lt_size z)) (k0 b o z)
  refine ⟨.ref (s1.heap.push (revObj a ((its.toArray.size : Int) - 1))).objs.size, upd H1 (s1.heap.push (revObj a ((its.toArray.size : Int) - 1))).objs.size (.lst xs.reverse),
    I1.laid kk hsz (show ObjOk X.prog X.w _ _ _ (.lst xs.reverse) from ⟨by rw [List.length_reverse]; exact hz, acc.toList, c', vals_rev rv hi, ?_⟩), rfl, q _ (I1.hok.fresh hsz)⟩
  rw [Array.toArray_toList]
  exact hS
end
end Rc
namespace Rc
open PySem PySem.Spec PyProof.Rows L2

/-! rows: the lists of a list of lists, at the end of what is own -/
abbrev RI := Addr × List Int
def rowHO (r : RI) : Addr × HO := (r.1, .lst (r.2.map V.int))
def rowsOwn (rows : List RI) : List (Addr × HO) := rows.map rowHO
def rowRef (r : RI) : V := V.ref r.1
section
variable {H0 H H' : Hp} {own pre : List (Addr × HO)} {p : Addr} {o : HO} {rows : List RI}
theorem Fr.rowmem (f : Fr H0 H (pre ++ rowsOwn rows)) {r : RI} (h : r ∈ rows) : H r.1 = some (.lst (r.2.map V.int)) :=
  f.mem (List.mem_append_right _ (List.mem_map.mpr ⟨r, h, rfl⟩))
theorem Fr.rowat (f : Fr H0 H (pre ++ rowsOwn rows)) {i : Nat} (d : RI) (h : i < rows.length) : H (rows.getD i d).1 = some (.lst ((rows.getD i d).2.map V.int)) :=
  f.rowmem (getD_mem h)
/-- the front list becomes a row -/
theorem Fr.rowin {x : List Int} (f : Fr H0 H ((p, .lst (x.map V.int)) :: (pre ++ rowsOwn rows))) : Fr H0 H (pre ++ rowsOwn (rows ++ [(p, x)])) := by
  refine f.perm ?_
  have e : pre ++ rowsOwn (rows ++ [(p, x)]) = (pre ++ rowsOwn rows) ++ [(p, HO.lst (x.map V.int))] := by
    unfold rowsOwn; rw [List.map_append, List.append_assoc]; rfl
  rw [e]
  exact (List.perm_append_singleton _ _).symm
theorem set_sub {α : Type} : ∀ {l : List α} {i : Nat} {z : α}, i < l.length → ∃ l', (l.set i z).Perm (z :: l') ∧ l'.Sublist l
  | [], _, _, h => by simp at h
  | x :: l, 0, z, _ => ⟨l, List.Perm.refl _, List.sublist_cons_self _ _⟩
  | x :: l, i + 1, z, h => by
    obtain ⟨l', h1, h2⟩ := set_sub (l := l) (i := i) (z := z) (by simpa using h)
    exact ⟨x :: l', (h1.cons x).trans (List.Perm.swap _ _ _), h2.cons_cons x⟩
/-- the front list becomes the i-th row -/
theorem Fr.rowset {x : List Int} {i : Nat} (f : Fr H0 H ((p, .lst (x.map V.int)) :: (pre ++ rowsOwn rows))) (h : i < rows.length) : Fr H0 H (pre ++ rowsOwn (rows.set i (p, x))) := by
  obtain ⟨l', h1, h2⟩ := set_sub (z := ((p, x) : RI)) h
  have e1 : (rowsOwn (rows.set i (p, x))).Perm (rowHO (p, x) :: rowsOwn l') := h1.map rowHO
  have g : Fr H0 H ((p, .lst (x.map V.int)) :: (pre ++ rowsOwn l')) := f.sub (List.Sublist.cons_cons _ (List.Sublist.append (List.Sublist.refl _) (h2.map _)))
  refine g.perm ?_
  have e2 : ((p, HO.lst (x.map V.int)) :: (pre ++ rowsOwn l')).Perm (pre ++ ((p, HO.lst (x.map V.int)) :: rowsOwn l')) := List.perm_middle.symm
  exact e2.trans (List.Perm.append_left _ e1.symm)
theorem nodup_split {α β : Type} {f : α → β} {l : List α} {i : Nat} (hn : (l.map f).Nodup) (h : i < l.length) {j : Nat} (hj : j < l.length) (hne : j ≠ i) : f l[j] ≠ f l[i] := by
  intro e
  have h1 : (l.map f)[j]'(by simpa using hj) = (l.map f)[i]'(by simpa using h) := by simpa using e
  exact hne ((List.getElem_inj (h₀ := by simpa using hj) (h₁ := by simpa using h) hn).mp h1)
/-- a row is written -/
theorem Fr.rowwr {i : Nat} {y : List Int} (f : Fr H0 H (pre ++ rowsOwn rows)) (h : i < rows.length) : Fr H0 (upd H rows[i].1 (.lst (y.map V.int))) (pre ++ rowsOwn (rows.set i (rows[i].1, y))) := by
  obtain ⟨l', h1, h2⟩ := set_sub (z := ((rows[i].1, y) : RI)) h
  obtain ⟨l2, h3, h4⟩ := set_sub (z := rows[i]) h
  rw [List.set_getElem_self] at h3
  have hlen : l'.Perm l2 := by
    have a1 : (rows.set i (rows[i].1, y)).Perm ((rows[i].1, y) :: rows.eraseIdx i) := set_er h
    have a2 : rows.Perm (rows[i] :: rows.eraseIdx i) := by
      have := set_er (l := rows) (z := rows[i]) h
      rwa [List.set_getElem_self] at this
    exact ((List.perm_cons _).mp (h1.symm.trans a1)).trans ((List.perm_cons _).mp (h3.symm.trans a2)).symm
  have e0 : (pre ++ rowsOwn rows).Perm (rowHO rows[i] :: (pre ++ rowsOwn l')) :=
    (List.Perm.append_left _ ((h3.trans (hlen.symm.cons _)).map rowHO)).trans List.perm_middle
  have g := (f.perm e0 : Fr H0 H ((rows[i].1, .lst (rows[i].2.map V.int)) :: (pre ++ rowsOwn l')))
  refine (Fr.wr (o' := .lst (y.map V.int)) g).perm ?_
  have e1 : (rowsOwn (rows.set i (rows[i].1, y))).Perm (rowHO (rows[i].1, y) :: rowsOwn l') := h1.map rowHO
  exact List.perm_middle.symm.trans (List.Perm.append_left _ e1.symm)
where
  set_er {α : Type} : ∀ {l : List α} {i : Nat} {z : α}, i < l.length → (l.set i z).Perm (z :: l.eraseIdx i)
  | [], _, _, h => by simp at h
  | x :: l, 0, z, _ => List.Perm.refl _
  | x :: l, i + 1, z, h => by
    have := set_er (l := l) (i := i) (z := z) (by simpa using h)
    exact (this.cons x).trans (List.Perm.swap _ _ _)
theorem Fr.rowsrev (f : Fr H0 H (pre ++ rowsOwn rows)) : Fr H0 H (pre ++ rowsOwn rows.reverse) := by
  refine f.perm (List.Perm.append_left _ ?_)
  unfold rowsOwn; rw [List.map_reverse]
  exact (List.reverse_perm _).symm
theorem atLastD {α : Type} {f : α → V} {xs : List α} (d : α) (h : 0 < xs.length) : atI (xs.map f) (-1) = some (f (xs.getD (xs.length - 1) d)) := by
  have e : xs.getLastD d = xs.getD (xs.length - 1) d := by
    rw [List.getLastD_eq_getLast?, List.getLast?_eq_getElem?, List.getD_eq_getElem?_getD]
  rw [← e]; exact atLast d h
theorem Fr.rowwrD {i : Nat} {y : List Int} {o' : HO} (d : RI) (f : Fr H0 H (pre ++ rowsOwn rows)) (h : i < rows.length) (eo : o' = .lst (y.map V.int)) : Fr H0 (upd H (rows.getD i d).1 o') (pre ++ rowsOwn (rows.set i ((rows.getD i d).1, y))) := by
  subst eo
  have e : rows.getD i d = rows[i] := by rw [List.getD_eq_getElem?_getD, List.getElem?_eq_getElem h]; rfl
  rw [e]; exact f.rowwr h
theorem rowRef_set (rows : List RI) (i : Nat) (d : RI) (y : List Int) : List.map rowRef rows = List.map rowRef (rows.set i ((rows.getD i d).1, y)) := by
  apply List.ext_getElem?
  intro j
  by_cases hj : i = j
  · subst hj
    by_cases hl : i < rows.length
    · simp [hl, rowRef, List.getD_eq_getElem?_getD]
    · simp [hl]
  · simp [hj]
/-- a new list of new lists, from a call -/
theorem Fr.crows (f : Fr H0 H own) (s : Same H H') (h : H p = none) (e : H' p = some o) (hr : ∀ z ∈ rows, H z.1 = none ∧ H' z.1 = some (.lst (z.2.map V.int))) (hn : (p :: rows.map (·.1)).Nodup) :
    Fr H0 H' ((p, o) :: (own ++ rowsOwn rows)) := by
  have g := f.cnew s h e
  refine ⟨g.same, fun z hz => ?_, ?_⟩
  · rcases List.mem_cons.mp hz with rfl | hz
    · exact g.frs _ List.mem_cons_self
    · rcases List.mem_append.mp hz with hz | hz
      · exact g.frs z (List.mem_cons_of_mem _ hz)
      · obtain ⟨r, hr', rfl⟩ := List.mem_map.mp hz
        exact ⟨f.fresh (hr r hr').1, (hr r hr').2⟩
  · rw [List.map_cons, List.map_append]
    have e1 : (rowsOwn rows).map (·.1) = rows.map (·.1) := by unfold rowsOwn; rw [List.map_map]; rfl
    rw [e1]
    have hn' := List.nodup_cons.mp hn
    have gn := List.nodup_cons.mp g.nd
    refine List.nodup_cons.mpr ⟨fun hm => ?_, List.nodup_append.mpr ⟨gn.2, hn'.2, fun a ha b hb hab => ?_⟩⟩
    · rcases List.mem_append.mp hm with hm | hm
      · exact gn.1 hm
      · exact hn'.1 hm
    · subst hab
      obtain ⟨z, hz, rfl⟩ := List.mem_map.mp ha
      obtain ⟨r, hr', e2⟩ := List.mem_map.mp hb
      have := (hr r hr').1
      rw [e2, (f.frs z hz).2] at this
      cases this
/-- what is handed back: outer list and rows -/
theorem Fr.rowsback (f : Fr H0 H ((p, o) :: rowsOwn rows)) : (∀ z ∈ rows, H0 z.1 = none ∧ H z.1 = some (.lst (z.2.map V.int))) ∧ (p :: rows.map (·.1)).Nodup := by
  refine ⟨fun z hz => f.frs (rowHO z) (List.mem_cons_of_mem _ (List.mem_map.mpr ⟨z, hz, rfl⟩)), ?_⟩
  have := f.nd
  rw [List.map_cons] at this
  have e1 : (rowsOwn rows).map (·.1) = rows.map (·.1) := by unfold rowsOwn; rw [List.map_map]; rfl
  rwa [e1] at this
end
/-- rows from outside -/
def Rows (H : Hp) (rows : List RI) : Prop := ∀ r ∈ rows, H r.1 = some (.lst (r.2.map V.int))
theorem Rows.same {H H' : Hp} {rows : List RI} (h : Rows H rows) (s : Same H H') : Rows H' rows := fun r hr => s _ _ (h r hr)
theorem Rows.at {H : Hp} {rows : List RI} (h : Rows H rows) {i : Nat} (d : RI) (hi : i < rows.length) : H (rows.getD i d).1 = some (.lst ((rows.getD i d).2.map V.int)) := h _ (getD_mem hi)
theorem rows_nil {H : Hp} : Rows H [] := fun _ h => nomatch h
theorem rows_cons {H : Hp} {a : Addr} {x : List Int} {rows : List RI} (h : H a = some (.lst (x.map V.int))) (hr : Rows H rows) : Rows H ((a, x) :: rows) := fun r h' => by
  rcases List.mem_cons.mp h' with rfl | h'
  · exact h
  · exact hr r h'

/-! whole numbers among scalars -/
def wholeV (v : V) : Bool := is_int v && !is_bool v
theorem wholeV_int {v : V} (h : wholeV v = true) : ∃ z, v = V.int z := by
  cases v with
  | int z => exact ⟨z, rfl⟩
  | bl b => cases h
  | _ => cases h
theorem wholeV_of (z : Int) : wholeV (V.int z) = true := rfl
/-- a part of a word for m heaps -/
def wordPart (m : Nat) : V → Bool
  | .int x => decide (0 ≤ x) && decide (x < (m : Int))
  | _ => false
theorem wordPart_no {m : Nat} {v : V} (h : wholeV v = false) : wordPart m v = false := by
  cases v with
  | int z => cases h
  | _ => rfl
theorem wp_no {m : Nat} {v : V} (h : wholeV v = false) : V.bl false = V.bl (wordPart m v) := by rw [wordPart_no h]
theorem wp_f1 {m : Nat} {z : Int} (h : ¬ 0 ≤ z) : V.bl false = V.bl (wordPart m (V.int z)) := by show V.bl false = V.bl (decide (0 ≤ z) && decide (z < (m : Int))); rw [decide_eq_false h]; rfl
theorem wp_f2 {m : Nat} {z : Int} (h : ¬ z < (m : Int)) : V.bl false = V.bl (wordPart m (V.int z)) := by show V.bl false = V.bl (decide (0 ≤ z) && decide (z < (m : Int))); rw [decide_eq_false h, Bool.and_false]
theorem wp_t {m : Nat} {z : Int} (h : 0 ≤ z) (h' : z < (m : Int)) : V.bl true = V.bl (wordPart m (V.int z)) := by show V.bl true = V.bl (decide (0 ≤ z) && decide (z < (m : Int))); rw [decide_eq_true h, decide_eq_true h']; rfl
def isWordV (m : Nat) (word : List V) (n : Int) : Bool := decide ((word.length : Int) = n) && word.all (wordPart m)
theorem isWordV_ints {m : Nat} {w : List Int} {n : Int} (h : ∀ x ∈ w, 0 ≤ x ∧ x < m) (hn : (w.length : Int) = n) : isWordV m (w.map V.int) n = true := by
  unfold isWordV
  rw [List.length_map, decide_eq_true hn, Bool.true_and, List.all_eq_true]
  intro v hv
  obtain ⟨x, hx, rfl⟩ := List.mem_map.mp hv
  show (decide (0 ≤ x) && decide (x < (m : Int))) = true
  rw [decide_eq_true (h x hx).1, decide_eq_true (h x hx).2]; rfl
/-- the two parts of a list beside a place -/
theorem cut_lo {α : Type} {xs : List α} {i : Int} (h0 : 0 ≤ i) (h1 : i ≤ xs.length) : cutL xs none (some i) = xs.take i.toNat := by
  obtain ⟨k, rfl⟩ := Int.eq_ofNat_of_zero_le h0
  unfold cutL
  rw [HT.sIx_none, HT.sIx_nat, Int.toNat_natCast, List.drop_zero, Nat.sub_zero, Nat.min_eq_left (by omega)]
theorem cut_hi {α : Type} {xs : List α} {i : Int} (h0 : 0 ≤ i) (h1 : i ≤ xs.length) : cutL xs (some i) none = xs.drop i.toNat := by
  obtain ⟨k, rfl⟩ := Int.eq_ofNat_of_zero_le h0
  unfold cutL
  rw [HT.sIx_none, HT.sIx_nat, Int.toNat_natCast, Nat.min_eq_left (by omega)]
  exact List.take_of_length_le (by rw [List.length_drop]; omega)
theorem cut_mid {α : Type} {xs : List α} {i j : Int} (h0 : 0 ≤ i) (hij : i ≤ j) (h1 : j ≤ xs.length) : cutL xs (some i) (some j) = (xs.drop i.toNat).take (j - i).toNat := by
  obtain ⟨k, rfl⟩ := Int.eq_ofNat_of_zero_le h0
  obtain ⟨l, rfl⟩ := Int.eq_ofNat_of_zero_le (show 0 ≤ j by omega)
  unfold cutL
  rw [HT.sIx_nat, HT.sIx_nat, Int.toNat_natCast, Nat.min_eq_left (by omega), Nat.min_eq_left (by omega)]
  congr 1; omega
theorem cut_erase {α : Type} {xs : List α} {i : Int} (h0 : 0 ≤ i) (h1 : i < xs.length) : cutL xs none (some i) ++ cutL xs (some (i + 1)) none = xs.eraseIdx i.toNat := by
  rw [cut_lo h0 (by omega), cut_hi (by omega) (by omega), show (i + 1).toNat = i.toNat + 1 by omega]
  exact (List.eraseIdx_eq_take_drop_succ _ _).symm
theorem lc_lx {α β : Type} {enc : β → V} {f : α → β} {ns : List α} {i : Nat} {y : α} {v : V} (h : ns[i]? = some y) (e : v = enc (f y)) : HO.lst ((((ns.take i).map f).map enc) ++ [v]) = .lst (((ns.take (i + 1)).map f).map enc) := by
  rw [e]; exact lc_l h
theorem lc_rx {β : Type} {enc : β → V} (f : Nat → β) (i : Nat) {v : V} (e : v = enc (f i)) : HO.lst ((((List.range i).map f).map enc) ++ [v]) = .lst (((List.range (i + 1)).map f).map enc) := by
  rw [e]; exact lc_r f i
theorem cut_one {α : Type} {xs : List α} (h : 0 < xs.length) : cutL xs (some 1) none = xs.drop 1 := cut_hi (by decide) (by omega)
theorem lc_app {β : Type} {enc : β → V} {xs ys : List β} {x : β} (e : xs ++ [x] = ys) : HO.lst (xs.map enc ++ [enc x]) = .lst (ys.map enc) := by
  rw [← e, List.map_append]; rfl
theorem count_filter (w : List Int) (a : Int) : (List.map (fun y : Int => y) (List.filter (fun y : Int => decide (y = a)) w)).length = w.count a := by
  rw [List.length_map, List.count_eq_length_filter]
  congr 1
end Rc
namespace Rc
open PySem PySem.Spec PyProof.Rows L2

/-! list.count of a truth -/
section
variable {X : Cx}
theorem bools_of_vals : ∀ {bs : List Bool} {us : List Value}, Vals (bs.map V.bl) us → us = bs.map Value.bool
  | [], _, h => by cases h; rfl
  | b :: bs, _, h => by
    cases h with
    | cons r rr =>
      cases r
      rw [bools_of_vals rr]; rfl
theorem countP_bools (k : Bool) : ∀ bs : List Bool, (bs.map Value.bool).countP (isBoolOf k) = bs.count k
  | [] => rfl
  | b :: bs => by
    rw [List.map_cons, List.countP_cons, List.count_cons, countP_bools k bs] <;> rfl
def rCntB (K : PySem.W.Frag) : V → List V → Hp → VK → Prop := fun x xs H Q => ∃ (p : Addr) (bs : List Bool) (k : Bool), x = .ref p ∧ xs = [.bl k] ∧ SqL K H p (bs.map V.bl) ∧ Q (.int (bs.count k : Nat)) H
theorem mt_lcountB : MtR X "list.count" (rCntB X.K) := by
  intro pins s σ H x xs v us Q I rx rxs h
  obtain ⟨p, bs, k, rfl, rfl, hs, q⟩ := h
  cases rx
  obtain ⟨u, rfl, ru⟩ := rxs.one
  cases ru
  obtain ⟨its, rv, ⟨⟨cls, dd, data, sl⟩, n, ho, hc, hdn, hd⟩, hlen⟩ := I.list hs
  simp only at hc hd
  subst hc hd
  have ei := bools_of_vals rv
  subst ei
  refine call_meets PySem.F.slot_list_count ⟨_, ho, rfl⟩ PySem.F.entry_list_count (PySem.F.args_list_count_2 _ _)
    (SeqAt.list_countAt p (bs.map Value.bool).toArray n dd sl (.bool k) (isBoolOf k)) ⟨ho, fun y hy => ?_, ?_⟩
  · have hy' : y ∈ bs.map Value.bool := by simpa using hy
    obtain ⟨b, _, rfl⟩ := List.mem_map.mp hy'
    exact SeqAt.EqAt.bool_bool b k
  · refine ⟨.int (bs.count k : Nat), H, I.tok _, ⟨s.toks, ?_⟩, q⟩
    show Value.int (((bs.map Value.bool).toArray.toList.countP (isBoolOf k) : Nat) : Int) s.toks = Value.int ((bs.count k : Nat) : Int) s.toks
    rw [show (bs.map Value.bool).toArray.toList = bs.map Value.bool from rfl, countP_bools]
end

/-! the exception that a suite holds -/
section
variable {X : Cx} {a : Addr} {oe : Obj} {cls : Value} {d : Option Addr}
/-- isinstance(e, c), e the exception that the suite holds: of the class D -/
def rIsP (K : PySem.W.Frag) (a : Addr) (cls : Value) (d : Option Addr) : List V → Hp → VK → Prop := fun xs H Q =>
  ∃ (D : Addr) (c : V) (cv : Value) (b : Bool), cls = .ref D ∧ d = none ∧ ExcC K D ∧ xs = [.ref a, c] ∧ (∀ u, RelV c u → u = cv) ∧ PySem.W.kitOne K (.ref D) cv = some b ∧ Q (.bl b) H
theorem call_isP (hz : Zc cls d oe) (hf : ∃ vs, oe.data = .fields vs) (hp : (a, oe) ∈ X.pn) : CallR X (.builtin "isinstance") (rIsP X.K a cls d) := by
  intro pins s σ H xs us Q I r h
  obtain ⟨D, c, cv, b, rfl, rfl, C, rfl, hcv, e, q⟩ := h
  cases r with
  | cons rx rr =>
    cases rr with
    | cons rt rr =>
      cases rr
      cases rx
      have ec := hcv _ rt
      subst ec
      obtain ⟨hget, _⟩ := I.pin (a, oe) (List.mem_append.mpr (.inl hp))
      obtain ⟨vs, hv⟩ := hf
      have J : PySem.W.InstAt s.heap a oe D none := by
        obtain ⟨oc, od, oda, osl⟩ := oe
        obtain ⟨h1, h2⟩ := hz
        dsimp only at h1 h2 hv
        subst h1 h2 hv
        exact ⟨hget, rfl, rfl, trivial⟩
      exact PySem.W.kia_one (PySem.W.handS_kitx_exc C.hg C.hk C.hs C.hd C.ha C.hn C.ht C.hm) I.kIn J e (fun z => nomatch z) fun tk => ⟨.bl b, H, I.kept (t' := tk) fun _ _ z => z, rfl, q⟩
theorem rel_ref {C : Addr} : ∀ u, RelV (.ref C) u → u = .ref C := fun u h => h
theorem rel_ty {t : String} : ∀ u, RelV (.ty t) u → u = .type t := fun u h => h
end

/-! defs that are called within a suite, with the exception -/
open L2H (RoomH PinOk cxH inv_startH)
/-- p's object is the exception that is handled, of the class D -/
structure HotZ (A : Around) (D : Addr) (p : Addr × Obj) : Prop where
  hd : A.handled = some (.ref p.1)
  cl : Zc (.ref D) none p.2
  dt : ∃ vs, p.2.data = .fields vs
structure FnE (P : Program) (w : World) (K : PySem.W.Frag) (mg : Str → Option Value) (base : Heap) (k : Nat) (f : Addr) (fd : FuncData) (ps : List Str) (sp : Addr → Addr → Sp) : Prop where
  len : ∀ a D vs H Q E, sp a D vs H Q E → vs.length = ps.length
  run : ∀ (A : Around) (outer : List Env) (s : Shared) (H : Hp) (args : Args) (us : List Value) (vs : List V) (Q : VK) (E : XK) (p : Addr × Obj) (D : Addr), RoomH k A → HotZ A D p → PinOk outer H s p → Env0 P w K mg base A outer s H → BindsTo s fd args (ps.zip us) → Vals vs us → sp p.1 D vs H Q E →
    codeAny (model P w) A (.call (.ref f) args) (CR CX0 outer P w H s Q E) s
theorem fn_ofE {P : Program} {w : World} {K : PySem.W.Frag} {mg : Str → Option Value} {base : Heap} {k : Nat} {f : Addr} {name qual : Str} {params : Arguments} {body : List Stmt} {scope : Scope} {dV kV doc pm cdv ct oc : Value} {an od : Option Addr}
    {osl : Array (Option Value)} {N ps : List Str} {sp : Addr → Addr → Sp} (lk : K.lookup f = some ⟨oc, od, .func (PySem.W.fnOf name qual params body scope dV kV doc pm an cdv ct), osl⟩) (hcd : PySem.W.codeIn K cdv qual = true) (S : FnScope N ps scope)
    (len : ∀ a D vs H Q E, sp a D vs H Q E → vs.length = ps.length)
    (hbody : ∀ (A : Around) (outer : List Env) (s : Shared) (H : Hp) (vs : List V) (Q : VK) (E : XK) (p : Addr × Obj) (D : Addr), HotZ A D p → RoomH k (A.deeper (envOfC qual scope s.heap.objs.size f cdv)) → sp p.1 D vs H Q E →
      ∃ t, PSs (cxH CX0 P w K mg base N qual scope f cdv A outer s H E p) body t ∧ t { nx := fun _ H' => Q .non H', rt := Q } (L2.start N vs) H) :
    FnE P w K mg base (k + 1) f (PySem.W.fnOf name qual params body scope dV kV doc pm an cdv ct) ps sp := by
  refine ⟨len, fun A outer s H args us vs Q E p D hr hot hpin e0 hb r hsp => ?_⟩
  have hl := len _ _ _ _ _ _ hsp
  have KX : K.In s.heap := e0.mod.kin.keeps fun b o e => (e0.bs b o e).1
  have lim : s.heap.NoLimit := e0.mod.nolimit.keeps fun b o e => (e0.bs b o e).1
  have hkind : ∀ y ∈ ps.zip us, scope.names.lookup y.1 = some .local ∨ (scope.names.lookup y.1 = some .cell ∧ ((cellsFrom (s.heap.objs.size + 1) scope.names []).lookup y.1).isSome = true) := fun ⟨n, v⟩ hy => by
    rcases S.par n (List.of_mem_zip hy).1 with q | q
    · exact .inl q
    · exact .inr ⟨q, PySem.W.cellsFrom_some _ _ _ (.inl q)⟩
  refine codeAny_call_function hr.depth (KX _ _ lk) rfl S.co S.gen rfl (PySem.W.codeRec_of KX hcd) (hb _ _ _ _ ?_)
  refine wpAny_newFunctionEnv_cells S.kind hkind fun env he s1 x => ?_
  subst he
  refine ⟨lim.keeps x.toInCall.keep, codeAny_func ?_⟩
  obtain ⟨t, ht, hq⟩ := hbody A outer s H vs Q E p D hot (hr.deeper _) hsp
  have I : Inv (cxH CX0 P w K mg base N qual scope f cdv A outer s H E p) [] (L2.start N vs) H s1 := inv_startH S hpin e0 hl r x
  refine wpAny_mono (ht.run [] s1 (L2.start N vs) H _ I hq) (fun fl s' hs => ?_) fun e s' hs => hs
  have fin : ∀ {σ' : L2.St} {H' : Hp} {v : V} {u : Value}, Inv (cxH CX0 P w K mg base N qual scope f cdv A outer s H E p) [] σ' H' s' → RelV v u → Q v H' → CE outer P w H s Q u s' :=
    fun {σ' H' v u} J rv q => ⟨v, H', J.os, J.bare, J.base, J.hok, rv, q⟩
  cases fl with
  | ret u =>
    obtain ⟨v, σ', H', J, rv, q⟩ := hs
    exact fin J rv q
  | next =>
    obtain ⟨σ', H', J, q⟩ := hs
    exact fin (v := V.non) (u := Value.none) J rfl q
  | brk =>
    obtain ⟨_, _, _, q⟩ := hs
    exact False.elim q
  | cont =>
    obtain ⟨_, _, _, q⟩ := hs
    exact False.elim q
section
variable {P : Program} {w : World} {K : PySem.W.Frag} {mg : Str → Option Value} {base : Heap}
/-- as Fun.ok, for a def that a suite calls -/
theorem Fun.okE {x qual : Str} {st : Stmt} {f : Addr} {fd : FuncData} {N ps : List Str} {k : Nat} {sp : Addr → Addr → Sp} (F : Fun K x qual st f fd) (S : FnScope N ps (defScope st)) (len : ∀ a D vs H Q E, sp a D vs H Q E → vs.length = ps.length)
    (hbody : ∀ (cdv : Value) (A : Around) (outer : List Env) (s : Shared) (H : Hp) (vs : List V) (Q : VK) (E : XK) (p : Addr × Obj) (D : Addr), HotZ A D p → RoomH k (A.deeper (envOfC qual (defScope st) s.heap.objs.size f cdv)) → sp p.1 D vs H Q E →
      ∃ t, PSs (cxH CX0 P w K mg base N qual (defScope st) f cdv A outer s H E p) (defBody st) t ∧ t { nx := fun _ H' => Q .non H', rt := Q } (start N vs) H) : FnE P w K mg base (k + 1) f fd ps sp := by
  obtain ⟨oc, od, kV, doc, pm, an, cdv, ct, osl, rfl, lk, hcd⟩ := F.ex
  exact fn_ofE lk hcd S len fun A outer s H vs Q E p D hz hr hsp => hbody cdv A outer s H vs Q E p D hz hr hsp
end
theorem roomS {X : Cx} {k : Nat} {a : Addr} {pn : List (Addr × Obj)} (hr : Room k X.A) : RoomH k (X.suite a pn).A := ⟨hr.dp, hr.un⟩
section
variable {X : Cx} {k : Nat} {f : Addr} {fd : FuncData} {ps : List Str} {sp : Addr → Addr → Sp} {x : Str} {q pos : Pos} {e : Expr} {es : List Expr} {t : TA} {a : Addr} {oe : Obj} {cls : Value} {d : Option Addr} {pn : List (Addr × Obj)}
/-- f(e, ..) within a suite, f asks about the exception -/
def tCallE (a : Addr) (cls : Value) (d : Option Addr) (sp : Addr → Addr → Sp) (t : TA) : TE := fun σ H Q => ∃ D, cls = .ref D ∧ d = none ∧ t σ H fun vs H1 => sp a D vs H1 Q E0
theorem pe_callE (hz : Zc cls d oe) (hf : ∃ vs, oe.data = .fields vs) (F : FnE X.prog X.w X.K X.mg X.base k f fd ps sp) (hr : RoomH k (X.suite a ((a, oe) :: pn)).A) (hg : Gl X x) (hm : X.mg x = some (.ref f)) (hk : PySem.W.keepIn X.K (.ref f) = true) (hb : Binds X.K fd ps [])
    (ha : PA (X.suite a ((a, oe) :: pn)) (e :: es) t) (hdb : (x == ("__debug__" : Str)) = false := by decide) (he : starEach (e :: es) X.env = (false, eval e X.env) :: starEach es X.env := by rfl) (hpl : (backTo pos (starEach es X.env)).any (·.1) = false := by rfl) :
    PE (X.suite a ((a, oe) :: pn)) (.Call (.Name x q) (e :: es) [] pos) (tCallE a cls d sp t) := by
  refine ⟨fun pins s σ H Q I h => ?_⟩
  obtain ⟨D, rfl, rfl, h⟩ := h
  have hg' : Gl (X.suite a ((a, oe) :: pn)) x := hg
  refine wpAny_Call_Name_kw (ld_glob I hg' hm ?_ hdb)
  refine PySem.W.callWith_K (h₀ := X.base) I.ok.mod.kin hk (thn (ha.run pos pins s σ H _ I h) fun us s1 ⟨vs, H1, I1, r, q⟩ => ⟨I1.kIn, ?_⟩) he hpl
  have hl : us.length = ps.length := by rw [← r.length]; exact F.len _ _ _ _ _ _ q
  have b := hb s1 us I1.kIn (by rw [List.append_nil]; exact hl)
  rw [List.append_nil] at b
  have P1 := I1.pin (a, oe) (List.mem_append_left _ List.mem_cons_self)
  have hpin : PinOk X.stack H1 s1 (a, oe) := ⟨P1.1, P1.2.1, fun hm => (List.mem_cons.mp (I1.stkSub a hm)).elim P1.2.2.1 P1.2.2.2.1, P1.2.2.2.2⟩
  refine wpAny_call (codeAny_mono (F.run (X.suite a ((a, oe) :: pn)).A X.stack s1 H1 ⟨us, []⟩ us vs Q E0 (a, oe) D hr ⟨rfl, hz, hf⟩ hpin I1.env0 b r q) fun r s' hq => ?_)
  cases r with
  | error e => exact False.elim hq
  | ok fl =>
    cases fl with
    | ret u => exact I1.after hq
    | next => exact False.elim hq
    | brk => exact False.elim hq
    | cont => exact False.elim hq
end

/-! facts of the top's exception classes -/
/-- an exception class of the program, over ValueError -/
structure ExcT (K : PySem.W.Frag) (mg : Str → Option Value) (n : Str) (C : Addr) : Prop where
  g : mg n = some (.ref C)
  kp : PySem.W.keepIn K (.ref C) = true
  ex : PySem.W.excIn K C [.type "ValueError", .type "Exception", .type "BaseException", .type "object"] "ValueError.__new__" = true
  c : ExcC K C
  ty : PySem.W.typeIn K (.ref C) = some (.type "type")
  ve : PySem.W.subIn K (.ref C) (.type "ValueError") = some true
theorem any_isSome {α : Type} {o : Option α} {p : α → Bool} (h : o.any p = true) : o.isSome = true := by
  cases o with
  | none => cases h
  | some _ => rfl
section
variable {K : PySem.W.Frag} {mg : Str → Option Value} {n : Str} {C D : Addr} {b : Bool}
theorem ExcT.kit (T : ExcT K mg n C) (h : PySem.W.subIn K (.ref D) (.ref C) = some b) (hne : b = false → D ≠ C) : PySem.W.kitOne K (.ref D) (.ref C) = some b := by
  unfold PySem.W.kitOne
  by_cases e : D = C
  · subst e
    rw [if_pos (by simp)]
    cases b with
    | true => rfl
    | false => exact absurd rfl (hne rfl)
  · have e1 : ((Value.ref D) == (Value.ref C)) = false := by
      rw [beq_eq_false_iff_ne]; exact fun z => e (Value.ref.inj z)
    rw [e1, if_neg Bool.false_ne_true]
    unfold PySem.W.kitCls
    have e2 : (PySem.W.clsIn K C).isSome = true := any_isSome T.c.hd
    dsimp only
    rw [e2, T.ty]
    exact h
theorem ExcT.exm (T : ExcT K mg n C) (h : PySem.W.subIn K (.ref D) (.ref C) = some b) : PySem.W.exmOne K (.ref D) (.ref C) = some b := PySem.W.exm_ref T.c.hs T.c.hd T.ty h
theorem ExcT.kve (T : ExcT K mg n C) : PySem.W.kitOne K (.ref C) (.type "ValueError") = some true := by
  unfold PySem.W.kitOne
  rw [show ((Value.ref C) == (Value.type "ValueError")) = false from rfl, if_neg Bool.false_ne_true]
  exact T.ve
end
end Rc
namespace Rc
open PySem PySem.Spec PyProof.Rows L2

/-! tables: lists of objects; an object's content is told by g -/
abbrev RO (β : Type) := Addr × β
def rref {β : Type} (r : RO β) : V := V.ref r.1
def rosOwn {β : Type} (g : β → HO) (rows : List (RO β)) : List (Addr × HO) := rows.map fun r => (r.1, g r.2)
abbrev gI : List Int → HO := fun xs => .lst (xs.map V.int)
abbrev gB : List Bool → HO := fun xs => .lst (xs.map V.bl)
abbrev gV : List V → HO := fun xs => .lst xs
abbrev gII : Int × Int → HO := fun p => .tup [V.int p.1, V.int p.2]
section
variable {β : Type} {g : β → HO} {H0 H H' : Hp} {own pre : List (Addr × HO)} {ts : List (List (Addr × HO))} {T : List (Addr × HO)} {p : Addr} {o : HO} {rows : List (RO β)} {C : List β}
theorem flat_pull {α : Type} : ∀ {ts : List (List α)} {k : Nat} {T : List α}, ts[k]? = some T → ts.flatten.Perm (T ++ (ts.eraseIdx k).flatten)
  | [], _, _, h => by simp at h
  | t :: ts, 0, T, h => by cases (Option.some.inj h); exact List.Perm.refl _
  | t :: ts, k + 1, T, h => by
    have ih := flat_pull (ts := ts) (k := k) (T := T) h
    show (t ++ ts.flatten).Perm (T ++ (t ++ (ts.eraseIdx k).flatten))
    refine (List.Perm.append_left t ih).trans ?_
    rw [← List.append_assoc, ← List.append_assoc]
    exact List.Perm.append_right _ List.perm_append_comm
/-- a tail to the front of the tails -/
theorem Fr.tup (f : Fr H0 H (pre ++ ts.flatten)) (k : Nat) (h : ts[k]? = some T) : Fr H0 H (pre ++ (T :: ts.eraseIdx k).flatten) :=
  f.perm (List.Perm.append_left _ (flat_pull h))
/-- a tail is no longer told of -/
theorem Fr.tdrop (f : Fr H0 H (pre ++ ts.flatten)) (k : Nat) (h : ts[k]? = some T) : Fr H0 H (pre ++ (ts.eraseIdx k).flatten) :=
  (f.tup k h).sub (List.Sublist.append (List.Sublist.refl _) (List.sublist_append_right _ _))
theorem Fr.rmem (f : Fr H0 H (pre ++ ts.flatten)) (k : Nat) (h : ts[k]? = some (rosOwn g rows)) {r : RO β} (hr : r ∈ rows) : H r.1 = some (g r.2) := by
  refine f.mem (List.mem_append_right _ (List.mem_flatten.mpr ⟨_, List.mem_of_getElem? h, ?_⟩))
  exact List.mem_map.mpr ⟨r, hr, rfl⟩
/-- an own object becomes a row of a new tail -/
theorem Fr.rnew {x : β} (f : Fr H0 H ((p, g x) :: (pre ++ ts.flatten))) : Fr H0 H (pre ++ (rosOwn g [(p, x)] :: ts).flatten) :=
  f.perm List.perm_middle.symm
/-- an own object becomes the last row of the first tail -/
theorem Fr.radd {x : β} (f : Fr H0 H ((p, g x) :: (pre ++ (rosOwn g rows :: ts).flatten))) : Fr H0 H (pre ++ (rosOwn g (rows ++ [(p, x)]) :: ts).flatten) := by
  refine f.perm ?_
  have e : rosOwn g (rows ++ [(p, x)]) = rosOwn g rows ++ [(p, g x)] := by unfold rosOwn; rw [List.map_append]; rfl
  show ((p, g x) :: (pre ++ (rosOwn g rows ++ ts.flatten))).Perm (pre ++ (rosOwn g (rows ++ [(p, x)]) ++ ts.flatten))
  rw [e]
  refine List.perm_middle.symm.trans (List.Perm.append_left _ ?_)
  rw [List.append_assoc]
  exact List.perm_middle.symm
theorem Fr.rset {x : β} {i : Nat} (f : Fr H0 H ((p, g x) :: (pre ++ (rosOwn g rows :: ts).flatten))) (h : i < rows.length) : Fr H0 H (pre ++ (rosOwn g (rows.set i (p, x)) :: ts).flatten) := by
  obtain ⟨l', h1, h2⟩ := set_sub (z := ((p, x) : RO β)) h
  have e1 : (rosOwn g (rows.set i (p, x))).Perm ((p, g x) :: rosOwn g l') := h1.map _
  have s : List.Sublist ((p, g x) :: (pre ++ (rosOwn g l' ++ ts.flatten))) ((p, g x) :: (pre ++ (rosOwn g rows ++ ts.flatten))) :=
    List.Sublist.cons_cons _ (List.Sublist.append (List.Sublist.refl _) (List.Sublist.append (h2.map _) (List.Sublist.refl _)))
  refine (f.sub s).perm ?_
  refine List.perm_middle.symm.trans (List.Perm.append_left _ ?_)
  exact List.Perm.append_right _ e1.symm
/-- a row is written: own o at p becomes o' -/
theorem Fr.rwr {i : Nat} {y : β} {q : Addr} (f : Fr H0 H (pre ++ (rosOwn g rows :: ts).flatten)) (h : i < rows.length) (hq : q = (rows[i]).1) : Fr H0 (upd H q (g y)) (pre ++ (rosOwn g (rows.set i (q, y)) :: ts).flatten) := by
  subst hq
  obtain ⟨l', h1, h2⟩ := set_sub (z := (((rows[i]).1, y) : RO β)) h
  have p1 : rows.Perm (rows[i] :: rows.eraseIdx i) := by
    have := set_er' (l := rows) (z := rows[i]) h
    rwa [List.set_getElem_self] at this
  have p2 : (rows.set i ((rows[i]).1, y)).Perm (((rows[i]).1, y) :: rows.eraseIdx i) := set_er' h
  have e0 : (pre ++ (rosOwn g rows ++ ts.flatten)).Perm (((rows[i]).1, g (rows[i]).2) :: (pre ++ (rosOwn g (rows.eraseIdx i) ++ ts.flatten))) :=
    (List.Perm.append_left _ (List.Perm.append_right _ (p1.map _))).trans List.perm_middle
  have gg := f.perm e0
  refine (Fr.wr (o' := g y) gg).perm ?_
  have p3 : (rosOwn g (rows.set i ((rows[i]).1, y))).Perm (((rows[i]).1, g y) :: rosOwn g (rows.eraseIdx i)) := p2.map (fun r : RO β => (r.1, g r.2))
  refine List.perm_middle.symm.trans (List.Perm.append_left _ ?_)
  show ((((rows[i]).1, g y) :: rosOwn g (rows.eraseIdx i)) ++ ts.flatten).Perm (rosOwn g (rows.set i ((rows[i]).1, y)) ++ ts.flatten)
  exact List.Perm.append_right _ p3.symm
where
  set_er' {α : Type} : ∀ {l : List α} {i : Nat} {z : α}, i < l.length → (l.set i z).Perm (z :: l.eraseIdx i)
  | [], _, _, h => by simp at h
  | x :: l, 0, z, _ => List.Perm.refl _
  | x :: l, i + 1, z, h => by
    have := set_er' (l := l) (i := i) (z := z) (by simpa using h)
    exact (this.cons x).trans (List.Perm.swap _ _ _)
theorem Fr.rrev (f : Fr H0 H (pre ++ (rosOwn g rows :: ts).flatten)) : Fr H0 H (pre ++ (rosOwn g rows.reverse :: ts).flatten) := by
  refine f.perm (List.Perm.append_left _ (List.Perm.append_right _ ?_))
  unfold rosOwn; rw [List.map_reverse]
  exact (List.reverse_perm _).symm

/-! addresses of rows and their contents -/
theorem snd_len (h : rows.map (·.2) = C) : rows.length = C.length := by rw [← h, List.length_map]
theorem snd_at (h : rows.map (·.2) = C) (d : β) (a : Addr) (i : Nat) (hi : i < C.length) : (rows.getD i (a, d)).2 = C.getD i d := by
  subst h
  rw [List.length_map] at hi
  simp [List.getD, hi]
theorem snd_get {i : Nat} {r : RO β} (h : rows.map (·.2) = C) (hr : rows[i]? = some r) : C[i]? = some r.2 := by subst h; rw [List.getElem?_map, hr]; rfl
theorem snd_app {x : β} (h : rows.map (·.2) = C) : (rows ++ [(p, x)]).map (·.2) = C ++ [x] := by rw [List.map_append, h]; rfl
theorem snd_set {x : β} {i : Nat} (h : rows.map (·.2) = C) : (rows.set i (p, x)).map (·.2) = C.set i x := by rw [List.map_set, h]
theorem snd_rev (h : rows.map (·.2) = C) : rows.reverse.map (·.2) = C.reverse := by rw [List.map_reverse, h]
theorem snd_cat {rows' : List (RO β)} {C' : List β} (h : rows.map (·.2) = C) (h' : rows'.map (·.2) = C') : (rows ++ rows').map (·.2) = C ++ C' := by rw [List.map_append, h, h']
theorem rref_set (i : Nat) (d : RO β) (y : β) (hi : i < rows.length) : rows.map rref = (rows.set i ((rows.getD i d).1, y)).map rref := by
  rw [List.map_set]
  show rows.map rref = (rows.map rref).set i (rref (rows.getD i d))
  rw [List.getD_eq_getElem?_getD, List.getElem?_eq_getElem hi]
  apply List.ext_getElem?
  intro j
  by_cases hj : i = j
  · subst hj; simp [hi]
  · simp [hj]
theorem lst_rref_app {x : β} : HO.lst (rows.map rref ++ [V.ref p]) = .lst ((rows ++ [(p, x)]).map rref) := by rw [List.map_append]; rfl
theorem lst_rref_set {x : β} {i : Nat} : HO.lst ((rows.map rref).set i (V.ref p)) = .lst ((rows.set i (p, x)).map rref) := by rw [List.map_set]; rfl

/-! a table that stands -/
structure Tab (H : Hp) (g : β → HO) (a : Addr) (C : List β) : Prop where
  ex : ∃ r : List (RO β), r.map (·.2) = C ∧ H a = some (.lst (r.map rref)) ∧ ∀ z ∈ r, H z.1 = some (g z.2)
theorem Tab.same {a : Addr} (t : Tab H g a C) (s : Same H H') : Tab H' g a C := by
  obtain ⟨r, h1, h2, h3⟩ := t.ex
  exact ⟨r, h1, s _ _ h2, fun z hz => s _ _ (h3 z hz)⟩
/-- a new table, from a call -/
structure TabN (H H' : Hp) (g : β → HO) (a : Addr) (r : List (RO β)) (C : List β) : Prop where
  n : H a = none
  e : H' a = some (.lst (r.map rref))
  c : r.map (·.2) = C
  rw : ∀ z ∈ r, H z.1 = none ∧ H' z.1 = some (g z.2)
  nd : (a :: r.map (·.1)).Nodup
theorem Fr.ctab {r : List (RO β)} (f : Fr H0 H (pre ++ ts.flatten)) (s : Same H H') (t : TabN H H' g p r C) : Fr H0 H' (((p, .lst (r.map rref)) :: pre) ++ (rosOwn g r :: ts).flatten) := by
  have gg := f.cnew s t.n t.e
  have h1 : Fr H0 H' ((((p, HO.lst (r.map rref)) :: pre) ++ ts.flatten) ++ rosOwn g r) := by
    refine ⟨gg.same, fun z hz => ?_, ?_⟩
    · rcases List.mem_append.mp hz with hz | hz
      · exact gg.frs z hz
      · obtain ⟨r', hr', rfl⟩ := List.mem_map.mp hz
        exact ⟨f.fresh (t.rw r' hr').1, (t.rw r' hr').2⟩
    · rw [List.map_append]
      have e1 : (rosOwn g r).map (·.1) = r.map (·.1) := by unfold rosOwn; rw [List.map_map]; rfl
      rw [e1]
      have hn' := List.nodup_cons.mp t.nd
      refine List.nodup_append.mpr ⟨gg.nd, hn'.2, fun a ha b hb hab => ?_⟩
      subst hab
      rcases List.mem_cons.mp ha with rfl | ha
      · exact hn'.1 hb
      · obtain ⟨z, hz, rfl⟩ := List.mem_map.mp ha
        obtain ⟨r', hr', e2⟩ := List.mem_map.mp hb
        have := (t.rw r' hr').1
        rw [e2, (f.frs z hz).2] at this
        cases this
  refine h1.perm ?_
  show ((((p, HO.lst (r.map rref)) :: pre) ++ ts.flatten) ++ rosOwn g r).Perm (((p, HO.lst (r.map rref)) :: pre) ++ (rosOwn g r ++ ts.flatten))
  rw [List.append_assoc]
  exact List.Perm.append_left _ List.perm_append_comm
/-- new objects, from a call -/
theorem Fr.comp {new : List (Addr × HO)} (f : Fr H0 H own) (n : Fr H H' new) : Fr H0 H' (new ++ own) := by
  refine ⟨f.same.trans n.same, fun z hz => ?_, ?_⟩
  · rcases List.mem_append.mp hz with hz | hz
    · exact ⟨f.fresh (n.frs z hz).1, (n.frs z hz).2⟩
    · exact ⟨(f.frs z hz).1, n.same _ _ (f.frs z hz).2⟩
  · rw [List.map_append]
    refine List.nodup_append.mpr ⟨n.nd, f.nd, fun a ha b hb hab => ?_⟩
    subst hab
    obtain ⟨z, hz, rfl⟩ := List.mem_map.mp ha
    obtain ⟨y, hy, e⟩ := List.mem_map.mp hb
    have h1 := (n.frs z hz).1
    rw [← e, (f.frs y hy).2] at h1
    cases h1
/-- what is handed back -/
theorem Fr.tabback (f : Fr H0 H ((p, .lst (rows.map rref)) :: (pre ++ (rosOwn g rows :: ts).flatten))) (h : rows.map (·.2) = C) : TabN H0 H g p rows C := by
  have f1 : Fr H0 H ((p, .lst (rows.map rref)) :: rosOwn g rows) :=
    f.sub (List.Sublist.cons_cons _ ((List.sublist_append_left _ _).trans (List.sublist_append_right _ _)))
  refine ⟨f1.n0, f1.at0, h, fun z hz => f1.frs (z.1, g z.2) (List.mem_cons_of_mem _ (List.mem_map.mpr ⟨z, hz, rfl⟩)), ?_⟩
  have := f1.nd
  rw [List.map_cons] at this
  have e1 : (rosOwn g rows).map (·.1) = rows.map (·.1) := by unfold rosOwn; rw [List.map_map]; rfl
  rwa [e1] at this
theorem Fr.tabback0 (f : Fr H0 H ((p, .lst (([] : List (RO β)).map rref)) :: own)) : TabN H0 H g p [] ([] : List β) :=
  ⟨f.n0, f.at0, rfl, (fun _ h => nomatch h), List.nodup_cons.mpr ⟨(fun h => nomatch h), List.nodup_nil⟩⟩
/-- a table by own facts -/
theorem Fr.tab (f : Fr H0 H (pre ++ ts.flatten)) (k j : Nat) (ho : (pre ++ ts.flatten)[k]? = some (p, .lst (rows.map rref))) (h : ts[j]? = some (rosOwn g rows)) (hc : rows.map (·.2) = C) : Tab H g p C :=
  ⟨⟨rows, hc, f.mem (List.mem_of_getElem? ho), fun z hz => f.rmem j h hz⟩⟩
/-- a table by its parts -/
theorem tab_lit {a : Addr} (hr : ∀ z ∈ rows, H z.1 = some (g z.2)) (ha : H a = some (.lst (rows.map rref))) (hc : rows.map (·.2) = C) : Tab H g a C := ⟨⟨rows, hc, ha, hr⟩⟩
theorem ros_nil : ∀ z ∈ ([] : List (RO β)), H z.1 = some (g z.2) := fun _ h => nomatch h
theorem ros_cons {a : Addr} {x : β} (h : H a = some (g x)) (hr : ∀ z ∈ rows, H z.1 = some (g z.2)) : ∀ z ∈ (a, x) :: rows, H z.1 = some (g z.2) := fun z hz => by
  rcases List.mem_cons.mp hz with rfl | hz
  · exact h
  · exact hr z hz
end
/-! rows at a place, casts, unrolled loops -/
section
variable {β : Type} {g : β → HO} {H0 H H' : Hp} {own pre : List (Addr × HO)} {ts : List (List (Addr × HO))} {p : Addr} {o o' : HO} {rows : List (RO β)} {C : List β}
theorem Fr.castk (f : Fr H0 H own) (k : Nat) (h : own[k]? = some (p, o)) (e : o = o') : Fr H0 H (own.set k (p, o')) := by
  subst e
  refine f.perm ?_
  have : own.set k (p, o) = own := by
    apply List.ext_getElem?
    intro j
    by_cases hj : k = j
    · subst hj
      obtain ⟨hl, he⟩ := List.getElem?_eq_some_iff.mp h
      rw [h]; simp [hl]
    · simp [hj]
  rw [this]
theorem ros_at (hr : ∀ z ∈ rows, H z.1 = some (g z.2)) (hc : rows.map (·.2) = C) (d : β) (i : Nat) (hi : i < C.length) : H (rows.getD i (0, d)).1 = some (g (C.getD i d)) := by
  have hl : i < rows.length := by rw [snd_len hc]; exact hi
  have := hr _ (getD_mem (d := ((0, d) : RO β)) hl)
  rwa [snd_at hc d 0 i hi] at this
theorem Fr.rat (f : Fr H0 H (pre ++ ts.flatten)) (k : Nat) (h : ts[k]? = some (rosOwn g rows)) (hc : rows.map (·.2) = C) (d : β) (i : Nat) (hi : i < C.length) : H (rows.getD i (0, d)).1 = some (g (C.getD i d)) :=
  ros_at (fun z hz => f.rmem k h hz) hc d i hi
theorem Fr.rwrD {i : Nat} {y : β} (f : Fr H0 H (pre ++ (rosOwn g rows :: ts).flatten)) (hc : rows.map (·.2) = C) (d : β) (hi : i < C.length) (e : o' = g y) :
    Fr H0 (upd H (rows.getD i (0, d)).1 o') (pre ++ (rosOwn g (rows.set i ((rows.getD i (0, d)).1, y)) :: ts).flatten) := by
  subst e
  have hl : i < rows.length := by rw [snd_len hc]; exact hi
  refine f.rwr hl ?_
  rw [List.getD_eq_getElem?_getD, List.getElem?_eq_getElem hl]; rfl
theorem len_rows (h : rows.map (·.2) = C) : (rows.map rref).length = C.length := by rw [List.length_map]; exact snd_len h
theorem rref_setD (i : Nat) (d y : β) (hc : rows.map (·.2) = C) (hi : i < C.length) : HO.lst (rows.map rref) = .lst ((rows.set i ((rows.getD i (0, d)).1, y)).map rref) :=
  congrArg HO.lst (rref_set i (0, d) y (by rw [snd_len hc]; exact hi))
theorem atRow (hc : rows.map (·.2) = C) (d : β) {i : Int} (h0 : 0 ≤ i) (h1 : i < (C.length : Int)) : atI (rows.map rref) i = some (V.ref (rows.getD i.toNat (0, d)).1) :=
  atD (f := rref) ((0, d) : RO β) h0 (by rw [snd_len hc]; exact h1)
theorem atRowLast (hc : rows.map (·.2) = C) (d : β) (h : 0 < C.length) : atI (rows.map rref) (-1) = some (V.ref (rows.getD (C.length - 1) (0, d)).1) := by
  have := atLastD (f := rref) ((0, d) : RO β) (xs := rows) (by rw [snd_len hc]; exact h)
  rw [snd_len hc] at this
  exact this
theorem ixRow (hc : rows.map (·.2) = C) {i : Int} (h0 : 0 ≤ i) (h1 : i < (C.length : Int)) : ixN (rows.map rref).length i = some i.toNat := ixDm h0 (by rw [snd_len hc]; exact h1)
theorem walkT {K : PySem.W.Frag} {a : Addr} (hc : rows.map (·.2) = C) : Walk (Itl K a) C.length (fun H => H a = some (.lst (rows.map rref))) (fun i H x H' => H' = H ∧ ∃ y : RO β, rows[i]? = some y ∧ C[i]? = some y.2 ∧ x = V.ref y.1) := by
  have w := walkL (K := K) (a := a) rref rows
  rw [snd_len hc] at w
  refine w.mono (fun _ h => h) fun i H x H' _ _ y => ?_
  obtain ⟨e, z, hz, hx⟩ := y
  exact ⟨e, z, hz, snd_get hc hz, hx⟩
theorem mtn {α : Type} {f : α → β} {ns : List α} {i : Nat} {y : α} {x : β} (h : ns[i]? = some y) (e : x = f y) : (ns.take i).map f ++ [x] = (ns.take (i + 1)).map f := by
  rw [take_next h, List.map_append, e]; rfl
theorem mrn {f : Nat → β} {i : Nat} {x : β} (e : x = f i) : (List.range i).map f ++ [x] = (List.range (i + 1)).map f := by
  rw [List.range_succ, List.map_append, e]; rfl
/-- a loop over a list, item by item -/
def unr (K : PySem.W.Frag) (a : Addr) (all : List V) (g : TG) (tb : TS) (D : Ends) : List V → L2.St → Hp → Prop
  | [], σ, H => SqL K H a all ∧ D.nx σ H
  | x :: xs, σ, H => SqL K H a all ∧ g x σ H fun σ2 H2 => tb { D with nx := unr K a all g tb D xs, ct := unr K a all g tb D xs, bk := D.nx } σ2 H2
theorem for_unr {K : PySem.W.Frag} {a : Addr} {g : TG} {tb : TS} {D : Ends} {σ : L2.St} {H : Hp} (all : List V) (h : unr K a all g tb D all σ H) :
    ∃ W : Nat → Nat → L2.St → Hp → Prop, (∃ m, W 0 m σ H) ∧ ∀ i m σ H, W i m σ H →
      ((Itl K a).stop i H ∧ D.nx σ H) ∨ ((Itl K a).go i H ∧ ∃ N : L2.St → Hp → Prop, (∀ σ' H', N σ' H' → ∃ m', m' < m ∧ W (i + 1) m' σ' H') ∧ ∀ x H', (Itl K a).yld i H x H' → g x σ H' fun σ2 H2 => tb { D with nx := N, ct := N, bk := D.nx } σ2 H2) := by
  refine for_it (walk_list (xs := all)) (fun i σ H => unr K a all g tb D (all.drop i) σ H) h (fun i σ H _ p => ?_) (fun i x σ H H' hi p y => ?_) (fun σ H p => ?_)
  · cases e : all.drop i with
    | nil => rw [e] at p; exact p.1
    | cons x xs => rw [e] at p; exact p.1
  · obtain ⟨rfl, hx⟩ := y
    have e : all.drop i = x :: all.drop (i + 1) := by
      rw [List.drop_eq_getElem_cons hi]
      congr 1
      rw [List.getElem?_eq_getElem hi] at hx
      exact Option.some.inj hx
    rw [e] at p
    exact p.2
  · rw [List.drop_length] at p
    exact p.2
end
/-! == of tables -/
section
variable {β : Type} {g : β → HO} {K : PySem.W.Frag} {H : Hp} {a : Addr} {C : List β} {gd : β → PyData}
theorem dp_tab (t : Tab H g a C) (h : ∀ (b : Addr) (x : β), H b = some (g x) → Dp K H (.ref b) (gd x)) : Dp K H (.ref a) (.list (C.map gd)) := by
  obtain ⟨r, hc, ha, hr⟩ := t.ex
  subst hc
  refine .lst (SqL.of ha) ?_
  rw [List.map_map]
  clear ha t
  revert hr
  induction r with
  | nil => intro _; exact .nil
  | cons z r ih => intro hr; exact .cons (h _ _ (hr z List.mem_cons_self)) (ih fun w hw => hr w (List.mem_cons_of_mem _ hw))
theorem okd_tab {n : Nat} (h : ∀ x : β, Okd n (gd x)) : Okd (n + 1) (.list (C.map gd)) :=
  ⟨canAll (fun x => (h x).can) C, Nat.succ_le_succ (depthAll (fun x => (h x).dep) C)⟩
theorem dp_tabI {C : List (List Int)} (t : Tab H gI a C) : Dp K H (.ref a) (.list (C.map dI)) := dp_tab t fun _ _ h => dp_ints h
theorem dp_tabB {C : List (List Bool)} (t : Tab H gB a C) : Dp K H (.ref a) (.list (C.map dB)) := dp_tab t fun _ _ h => dp_bls h
theorem okd_tabI {n : Nat} (C : List (List Int)) : Okd (n + 2) (.list (C.map dI)) := okd_tab fun x => okd_ints x
theorem okd_tabB {n : Nat} (C : List (List Bool)) : Okd (n + 2) (.list (C.map dB)) := okd_tab fun x => okd_bls x
theorem eqv_tabI (C D : List (List Int)) : PyData.eqv (.list (C.map dI)) (.list (D.map dI)) = decide (C = D) := eqvAll_map (fun x y => eqv_ints x y) C D
theorem eqv_tabB (C D : List (List Bool)) : PyData.eqv (.list (C.map dB)) (.list (D.map dB)) = decide (C = D) := eqvAll_map (fun x y => eqv_bls x y) C D
theorem dp_tabV {C : List (List V)} (t : Tab H gV a C) (hs : ∀ x ∈ C, Sca x) : Dp K H (.ref a) (.list (C.map dV)) := by
  obtain ⟨r, hc, ha, hr⟩ := t.ex
  subst hc
  refine .lst (SqL.of ha) ?_
  rw [List.map_map]
  clear ha t
  revert hr hs
  induction r with
  | nil => intro _ _; exact .nil
  | cons z r ih =>
    intro hr hs
    refine .cons (dp_vals (hr z List.mem_cons_self) (hs z.2 ?_)) (ih (fun w hw => hr w (List.mem_cons_of_mem _ hw)) fun x hx => hs x ?_)
    · rw [List.map_cons]; exact List.mem_cons_self
    · rw [List.map_cons]; exact List.mem_cons_of_mem _ hx
end
end Rc
namespace Rc
open PySem PySem.Spec PyProof.Rows L2
section
variable {X : Cx}
theorem str_dec {i j : Str} : decide (V.str i = V.str j) = decide (i = j) := by
  by_cases h : i = j
  · subst h; rw [decide_eq_true rfl, decide_eq_true rfl]
  · rw [decide_eq_false h, decide_eq_false fun z => h (V.str.inj z)]
theorem op_eqStr : OpR X (compareOp .Eq) (fun x y H Q => ∃ i j : Str, x = .str i ∧ y = .str j ∧ (i = j → Q (.bl true) H) ∧ (¬ i = j → Q (.bl false) H)) := by
  intro pins s σ H x y v u Q I rx ry h
  obtain ⟨i, j, rfl, rfl, q1, q2⟩ := h
  refine op_eq pins s σ H _ _ v u Q I rx ry ⟨rfl, ?_⟩
  rw [str_dec]
  by_cases h : i = j
  · rw [decide_eq_true h]; exact q1 h
  · rw [decide_eq_false h]; exact q2 h
theorem op_neStr : OpR X (compareOp .NotEq) (fun x y H Q => ∃ i j : Str, x = .str i ∧ y = .str j ∧ (¬ i = j → Q (.bl true) H) ∧ (i = j → Q (.bl false) H)) := by
  intro pins s σ H x y v u Q I rx ry h
  obtain ⟨i, j, rfl, rfl, q1, q2⟩ := h
  refine op_ne pins s σ H _ _ v u Q I rx ry ⟨rfl, ?_⟩
  rw [str_dec]
  by_cases h : i = j
  · rw [decide_eq_true h]; exact q2 h
  · rw [decide_eq_false h]; exact q1 h
end
/-! words: parts that are whole -/
def intV : V → Int
  | .int x => x
  | _ => 0
def intsV (w : List V) : List Int := w.map intV
theorem intsV_map (w : List Int) : intsV (w.map V.int) = w := by
  unfold intsV; rw [List.map_map]; exact (List.map_congr_left fun _ _ => rfl).trans (List.map_id w)
theorem wordPart_int {m : Nat} {v : V} (h : wordPart m v = true) : v = V.int (intV v) ∧ 0 ≤ intV v ∧ intV v < (m : Int) := by
  cases v with
  | int z =>
    have h' : (decide (0 ≤ z) && decide (z < (m : Int))) = true := h
    rw [Bool.and_eq_true, decide_eq_true_eq, decide_eq_true_eq] at h'
    exact ⟨rfl, h'⟩
  | _ => cases h
theorem isWordV_ex {m : Nat} {w : List V} {n : Int} (h : isWordV m w n = true) : ∃ u : List Int, w = u.map V.int ∧ (∀ x ∈ u, 0 ≤ x ∧ x < (m : Int)) ∧ (u.length : Int) = n := by
  unfold isWordV at h
  rw [Bool.and_eq_true, decide_eq_true_eq, List.all_eq_true] at h
  refine ⟨intsV w, ?_, fun x hx => ?_, ?_⟩
  · unfold intsV; rw [List.map_map]
    refine (List.map_id w).symm.trans (List.map_congr_left fun v hv => ?_)
    exact (wordPart_int (h.2 v hv)).1
  · obtain ⟨v, hv, rfl⟩ := List.mem_map.mp hx
    exact (wordPart_int (h.2 v hv)).2
  · unfold intsV; rw [List.length_map]; exact h.1
end Rc
namespace Rc
theorem pick60 (c : Int) : 1 ≤ ([60, 12] : List Int).getD (Int.toNat (min 1 (c % 8))) 0 ∧ ([60, 12] : List Int).getD (Int.toNat (min 1 (c % 8))) 0 ≤ 60 := by
  have h : min 1 (c % 8) = 0 ∨ min 1 (c % 8) = 1 := by omega
  rcases h with h | h <;> rw [h] <;> decide
def upto (n : Nat) : List Int := (List.range n).map fun i : Nat => (i : Int)
@[simp] theorem upto_length (n : Nat) : (upto n).length = n := by simp [upto]
theorem upto_succ (n : Nat) : upto (n + 1) = upto n ++ [(n : Int)] := by simp [upto, List.range_succ]
theorem mem_upto {n : Nat} {x : Int} : x ∈ upto n ↔ 0 ≤ x ∧ x < n := by
  unfold upto
  rw [List.mem_map]
  constructor
  · rintro ⟨i, hi, rfl⟩
    have := List.mem_range.mp hi
    omega
  · rintro ⟨h0, h1⟩
    exact ⟨x.toNat, List.mem_range.mpr (by omega), by omega⟩
theorem upto_nodup (n : Nat) : (upto n).Nodup := by
  unfold upto
  rw [List.nodup_iff_pairwise_ne, List.pairwise_map]
  exact (List.nodup_range (n := n)).imp fun h e => h (Int.ofNat.inj e)
theorem upto_getElem? {n i : Nat} (h : i < n) : (upto n)[i]? = some (i : Int) := by
  unfold upto; rw [List.getElem?_map, List.getElem?_range h]; rfl
theorem upto_getElem {n i : Nat} (h : i < (upto n).length) : (upto n)[i] = (i : Int) := by simp [upto]
/-- an order of its cards -/
def IsOrd (xs : List Int) : Prop := xs.Perm (upto xs.length)
theorem IsOrd.nodup {xs : List Int} (h : IsOrd xs) : xs.Nodup := h.nodup_iff.mpr (upto_nodup _)
theorem IsOrd.mem {xs : List Int} (h : IsOrd xs) {x : Int} : x ∈ xs ↔ 0 ≤ x ∧ x < xs.length := by rw [List.Perm.mem_iff h, mem_upto]
theorem IsOrd.bd {xs : List Int} (h : IsOrd xs) {i : Nat} {x : Int} (e : xs[i]? = some x) : 0 ≤ x ∧ x < xs.length := h.mem.mp (List.mem_of_getElem? e)
theorem isOrd_upto (n : Nat) : IsOrd (upto n) := by unfold IsOrd; rw [upto_length]
theorem isOrd_of {xs : List Int} {n : Nat} (h : xs.Perm (upto n)) : IsOrd xs := by
  have := h.length_eq
  rw [upto_length] at this
  unfold IsOrd; rwa [this]
theorem perm_of_nodup : ∀ {xs ys : List Int}, xs.Nodup → (∀ x ∈ xs, x ∈ ys) → ys.length ≤ xs.length → xs.Perm ys
  | [], ys, _, _, hl => by
    have : ys = [] := List.eq_nil_of_length_eq_zero (by simpa using hl)
    subst this; exact List.Perm.refl _
  | x :: xs, ys, hn, hs, hl => by
    have hx : x ∈ ys := hs x List.mem_cons_self
    have h1 := List.perm_cons_erase hx
    have hlen : (ys.erase x).length = ys.length - 1 := List.length_erase_of_mem hx
    have hn' := List.nodup_cons.mp hn
    have ih := perm_of_nodup (ys := ys.erase x) hn'.2 (fun y hy => by
      have hne : y ≠ x := fun e => hn'.1 (e ▸ hy)
      exact (List.mem_erase_of_ne hne).mpr (hs y (List.mem_cons_of_mem _ hy))) (by
        rw [List.length_cons] at hl; omega)
    exact (ih.cons x).trans h1.symm
theorem eraseIdx_perm {α : Type} : ∀ {ls : List α} {k : Nat} (h : k < ls.length), (ls[k] :: ls.eraseIdx k).Perm ls
  | [], _, h => by simp at h
  | _ :: _, 0, _ => List.Perm.refl _
  | x :: ls, k + 1, h => by
    have hk : k < ls.length := by simpa using h
    have ih := eraseIdx_perm hk
    show (ls[k] :: x :: ls.eraseIdx k).Perm (x :: ls)
    exact (List.Perm.swap _ _ _).trans (ih.cons x)
/-- as many different cards below their number -/
theorem isOrd_of_nodup {xs : List Int} (hn : xs.Nodup) (hb : ∀ x ∈ xs, 0 ≤ x ∧ x < xs.length) : IsOrd xs := by
  exact perm_of_nodup hn (fun x hx => mem_upto.mpr (hb x hx)) (by rw [upto_length]; exact Nat.le_refl _)
/-- a card taken out of what is left -/
theorem take_perm {os ls : List Int} {n k : Nat} (h : (os ++ ls).Perm (upto n)) (hk : k < ls.length) : ((os ++ [ls.getD k 0]) ++ ls.eraseIdx k).Perm (upto n) := by
  have e : ls.getD k 0 = ls[k] := by simp [List.getD, hk]
  have h1 : (ls[k] :: ls.eraseIdx k).Perm ls := eraseIdx_perm hk
  refine List.Perm.trans ?_ h
  rw [e, List.append_assoc]
  exact List.Perm.append_left _ h1
def placesI (o : List Int) : List Int := (List.range o.length).map fun c : Nat => (o.idxOf (c : Int) : Int)
def laidI (one other : List Int) : List Int := other.map fun p => one.getD p.toNat 0
@[simp] theorem placesI_length (o : List Int) : (placesI o).length = o.length := by simp [placesI]
@[simp] theorem laidI_length (one other : List Int) : (laidI one other).length = other.length := by simp [laidI]
theorem idxOf_lt {o : List Int} (h : IsOrd o) {c : Nat} (hc : c < o.length) : o.idxOf (c : Int) < o.length := List.idxOf_lt_length_of_mem (h.mem.mpr ⟨by omega, by omega⟩)
theorem idxOf_at {o : List Int} (h : o.Nodup) {i : Nat} {x : Int} (e : o[i]? = some x) : o.idxOf x = i := by
  obtain ⟨hi, rfl⟩ := List.getElem?_eq_some_iff.mp e
  exact h.idxOf_getElem i hi
theorem at_idxOf {o : List Int} {x : Int} (h : x ∈ o) : o.getD (o.idxOf x) 0 = x := by
  have hl := List.idxOf_lt_length_of_mem h
  rw [List.getD_eq_getElem?_getD, List.getElem?_eq_getElem hl, List.getElem_idxOf]; rfl
theorem placesI_getD {o : List Int} {c : Nat} (hc : c < o.length) : (placesI o).getD c 0 = (o.idxOf (c : Int) : Int) := by
  rw [List.getD_eq_getElem?_getD]; simp [placesI, hc]
theorem isOrd_placesI {o : List Int} (h : IsOrd o) : IsOrd (placesI o) := by
  refine isOrd_of_nodup ?_ ?_
  · unfold placesI
    rw [List.nodup_iff_pairwise_ne, List.pairwise_map]
    refine List.Pairwise.imp_of_mem ?_ (List.nodup_range (n := o.length))
    intro a b ha hb hne e
    have ha' := List.mem_range.mp ha
    have hb' := List.mem_range.mp hb
    have e1 : o.idxOf (a : Int) = o.idxOf (b : Int) := by omega
    have h1 := at_idxOf (h.mem.mpr ⟨show (0 : Int) ≤ (a : Int) by omega, show (a : Int) < o.length by omega⟩)
    have h2 := at_idxOf (h.mem.mpr ⟨show (0 : Int) ≤ (b : Int) by omega, show (b : Int) < o.length by omega⟩)
    rw [e1, h2] at h1
    omega
  · intro x hx
    obtain ⟨c, hc, rfl⟩ := List.mem_map.mp hx
    have := idxOf_lt h (List.mem_range.mp hc)
    rw [placesI_length]
    omega
theorem placesI_idxOf {o : List Int} (h : IsOrd o) {i : Nat} {x : Int} (e : o[i]? = some x) : (placesI o).idxOf (i : Int) = x.toNat := by
  have hb := h.bd e
  have hx : x.toNat < o.length := by omega
  refine idxOf_at (isOrd_placesI h).nodup ?_
  unfold placesI
  rw [List.getElem?_map, List.getElem?_range hx]
  have : ((x.toNat : Nat) : Int) = x := by omega
  simp only [Option.map_some, this, idxOf_at h.nodup e]
theorem placesI_placesI {o : List Int} (h : IsOrd o) : placesI (placesI o) = o := by
  apply List.ext_getElem?
  intro i
  by_cases hi : i < o.length
  · have e : o[i]? = some o[i] := List.getElem?_eq_getElem hi
    have := placesI_idxOf h e
    have hb := h.bd e
    rw [e]
    show ((List.range (placesI o).length).map fun c : Nat => ((placesI o).idxOf (c : Int) : Int))[i]? = _
    rw [List.getElem?_map, List.getElem?_range (by simpa using hi)]
    simp only [Option.map_some, this]
    congr 1; omega
  · rw [List.getElem?_eq_none (by simp; omega), List.getElem?_eq_none (by omega)]
theorem laidI_upto {o : List Int} (h : IsOrd o) : laidI (upto o.length) o = o := by
  unfold laidI
  conv => rhs; rw [← List.map_id o]
  apply List.map_congr_left
  intro x hx
  have := h.mem.mp hx
  rw [List.getD_eq_getElem?_getD, upto_getElem? (by omega)]
  simp; omega
theorem laidI_places {o : List Int} (h : IsOrd o) : laidI o (placesI o) = upto o.length := by
  unfold laidI placesI upto
  rw [List.map_map]
  apply List.map_congr_left
  intro c hc
  have hc' := List.mem_range.mp hc
  simp only [Function.comp]
  rw [Int.toNat_natCast]
  exact at_idxOf (h.mem.mpr ⟨by omega, by omega⟩)
theorem laidI_assoc {a b c : List Int} (hb : ∀ p ∈ c, 0 ≤ p ∧ p < b.length) : laidI (laidI a b) c = laidI a (laidI b c) := by
  unfold laidI
  rw [List.map_map]
  apply List.map_congr_left
  intro p hp
  have := hb p hp
  simp only [Function.comp]
  rw [List.getD_eq_getElem?_getD, List.getElem?_map, List.getD_eq_getElem?_getD (l := b), List.getElem?_eq_getElem (show p.toNat < b.length by omega)]
  rfl
theorem isOrd_laidI {a b : List Int} (ha : IsOrd a) (hb : IsOrd b) (hl : a.length = b.length) : IsOrd (laidI a b) := by
  have h1 : (laidI a b).Perm (laidI a (upto b.length)) := List.Perm.map _ hb
  have h2 : laidI a (upto b.length) = a := by
    unfold laidI upto
    rw [List.map_map, ← hl]
    apply List.ext_getElem
    · simp
    · intro i h1 h2
      simp only [List.getElem_map, List.getElem_range, Function.comp, Int.toNat_natCast]
      rw [List.getD_eq_getElem?_getD, List.getElem?_eq_getElem h2]; rfl
  rw [h2] at h1
  exact isOrd_of (h1.trans ha)
/-- the places as they are filled -/
def placesTo (o : List Int) (i : Nat) : List Int := (List.range o.length).map fun c : Nat => if o.idxOf (c : Int) < i then (o.idxOf (c : Int) : Int) else 0
theorem placesTo_zero (o : List Int) : placesTo o 0 = List.replicate o.length 0 := by
  unfold placesTo
  rw [List.eq_replicate_iff]
  simp
theorem placesTo_all {o : List Int} (h : IsOrd o) : placesTo o o.length = placesI o := by
  unfold placesTo placesI
  apply List.map_congr_left
  intro c hc
  rw [if_pos (idxOf_lt h (List.mem_range.mp hc))]
theorem placesTo_next {o : List Int} (h : IsOrd o) {i : Nat} {x : Int} (e : o[i]? = some x) : (placesTo o i).set x.toNat (i : Int) = placesTo o (i + 1) := by
  have hb := h.bd e
  have hi := idxOf_at h.nodup e
  apply List.ext_getElem
  · simp [placesTo]
  · intro c h1 h2
    have hc : c < o.length := by simpa [placesTo] using h2
    simp only [placesTo, List.getElem_set, List.getElem_map, List.getElem_range]
    by_cases ex : x.toNat = c
    · subst ex
      have : ((x.toNat : Nat) : Int) = x := by omega
      rw [if_pos rfl, this, hi, if_pos (by omega)]
    · rw [if_neg ex]
      have hne : o.idxOf (c : Int) ≠ i := by
        intro z
        have h3 := at_idxOf (h.mem.mpr ⟨show (0 : Int) ≤ (c : Int) by omega, show (c : Int) < o.length by omega⟩)
        rw [z, List.getD_eq_getElem?_getD, e] at h3
        simp at h3
        omega
      by_cases h4 : o.idxOf (c : Int) < i
      · rw [if_pos h4, if_pos (by omega)]
      · rw [if_neg h4, if_neg (by omega)]
theorem sorted_eq {a b x y : List Int} (ha : a.Pairwise (· ≤ ·)) (hb : b.Pairwise (· ≤ ·)) (pa : a.Perm x) (pb : b.Perm y) (h : x.Perm y) : a = b := by
  have hp : a.Perm b := pa.trans (h.trans pb.symm)
  clear pa pb h
  induction a generalizing b with
  | nil => exact (List.nil_perm.mp hp).symm
  | cons u a ih =>
    cases b with
    | nil => exact absurd hp.length_eq (by simp)
    | cons v b =>
      have h1 := List.pairwise_cons.mp ha
      have h2 := List.pairwise_cons.mp hb
      have e : u = v := by
        have hu : u ∈ v :: b := hp.mem_iff.mp List.mem_cons_self
        have hv : v ∈ u :: a := hp.mem_iff.mpr List.mem_cons_self
        rcases List.mem_cons.mp hu with e | hu
        · exact e
        · rcases List.mem_cons.mp hv with e | hv
          · exact e.symm
          · have := h1.1 v hv; have := h2.1 u hu; omega
      subst e
      rw [ih h1.2 h2.2 ((List.perm_cons u).mp hp)]
theorem ord_perm {a b : List Int} (ha : IsOrd a) (hb : IsOrd b) (hl : a.length = b.length) : a.Perm b := by
  unfold IsOrd at ha hb
  rw [hl] at ha
  exact ha.trans hb.symm
end Rc
namespace Rc
/-- the parts of a word for m heaps -/
def IsW (m : Nat) (w : List Int) : Prop := ∀ x ∈ w, 0 ≤ x ∧ x < m
theorem IsW.at {m : Nat} {w : List Int} (h : IsW m w) {i : Nat} {x : Int} (e : w[i]? = some x) : 0 ≤ x ∧ x < m := h x (List.mem_of_getElem? e)
theorem IsW.nil (m : Nat) : IsW m [] := fun _ h => nomatch h
theorem IsW.app {m : Nat} {w : List Int} {x : Int} (h : IsW m w) (h0 : 0 ≤ x) (h1 : x < m) : IsW m (w ++ [x]) := fun y hy => by
  rcases List.mem_append.mp hy with hy | hy
  · exact h y hy
  · rw [List.mem_singleton.mp hy]; exact ⟨h0, h1⟩
theorem take_nxt {α : Type} {ns : List α} {i : Nat} {y : α} (h : ns[i]? = some y) : ns.take (i + 1) = ns.take i ++ [y] := by rw [List.take_add_one, h]; rfl
/-- how often each heap stands -/
def sizesI (m : Nat) (w : List Int) : List Int := (List.range m).map fun h : Nat => (w.count (h : Int) : Int)
@[simp] theorem sizesI_length (m : Nat) (w : List Int) : (sizesI m w).length = m := by simp [sizesI]
theorem sizesI_getD {m : Nat} {w : List Int} {h : Nat} (hh : h < m) : (sizesI m w).getD h 0 = (w.count (h : Int) : Int) := by
  rw [List.getD_eq_getElem?_getD]; simp [sizesI, hh]
theorem sizesI_nil (m : Nat) : sizesI m [] = List.replicate m 0 := by
  unfold sizesI; rw [List.eq_replicate_iff]; simp
theorem sizesI_next {m : Nat} {w : List Int} (hw : IsW m w) {i : Nat} {x : Int} (e : w[i]? = some x) :
    (sizesI m (w.take i)).set x.toNat ((sizesI m (w.take i)).getD x.toNat 0 + 1) = sizesI m (w.take (i + 1)) := by
  have hb := hw.at e
  rw [take_nxt e, sizesI_getD (show x.toNat < m by omega)]
  apply List.ext_getElem
  · simp
  · intro c h1 h2
    have hc : c < m := by simpa using h2
    simp only [sizesI, List.getElem_set, List.getElem_map, List.getElem_range, List.count_append, List.count_singleton]
    by_cases ex : x.toNat = c
    · subst ex
      have : ((x.toNat : Nat) : Int) = x := by omega
      rw [if_pos rfl, this]; simp
    · rw [if_neg ex]
      have : (x == (c : Int)) = false := by rw [beq_eq_false_iff_ne]; omega
      simp [this]
/-- how many stand in heaps ahead of h -/
def startI (w : List Int) : Nat → Nat
  | 0 => 0
  | h + 1 => startI w h + w.count (h : Int)
theorem startI_mono (w : List Int) {h h' : Nat} (hh : h ≤ h') : startI w h ≤ startI w h' := by
  induction h' with
  | zero => have : h = 0 := by omega
            subst this; exact Nat.le_refl _
  | succ k ih =>
    by_cases e : h = k + 1
    · subst e; exact Nat.le_refl _
    · have := ih (by omega); show _ ≤ startI w k + _; omega
theorem startI_lt {w : List Int} {h h' : Nat} (hh : h < h') : startI w h + w.count (h : Int) ≤ startI w h' := startI_mono w (show h + 1 ≤ h' from hh)
theorem startI_filter (w : List Int) (hw : ∀ x ∈ w, 0 ≤ x) : ∀ h : Nat, startI w h = (w.filter fun x => decide (x < (h : Int))).length
  | 0 => by
    have : (w.filter fun x => decide (x < ((0 : Nat) : Int))) = [] := List.filter_eq_nil_iff.mpr fun x hx => by have := hw x hx; simp; omega
    rw [this]; rfl
  | h + 1 => by
    show startI w h + _ = _
    rw [startI_filter w hw h, show ((h + 1 : Nat) : Int) = (h : Int) + 1 by omega]
    clear hw
    induction w with
    | nil => rfl
    | cons x w ih =>
      simp only [List.count_cons, List.filter_cons]
      by_cases h1 : x < (h : Int)
      · have e1 : decide (x < (h : Int)) = true := decide_eq_true h1
        have e2 : decide (x < (h : Int) + 1) = true := decide_eq_true (by omega)
        have e3 : (x == (h : Int)) = false := by rw [beq_eq_false_iff_ne]; omega
        simp only [e1, e2, e3, if_true, List.length_cons]; simp; omega
      · have e1 : decide (x < (h : Int)) = false := decide_eq_false h1
        by_cases h2 : x = (h : Int)
        · have e2 : decide (x < (h : Int) + 1) = true := decide_eq_true (by omega)
          have e3 : (x == (h : Int)) = true := beq_iff_eq.mpr h2
          simp only [e1, e2, e3, if_true, List.length_cons]; simp; omega
        · have e2 : decide (x < (h : Int) + 1) = false := decide_eq_false (by omega)
          have e3 : (x == (h : Int)) = false := by rw [beq_eq_false_iff_ne]; omega
          simp only [e1, e2, e3]; simp; omega
theorem startI_all {m : Nat} {w : List Int} (hw : IsW m w) : startI w m = w.length := by
  rw [startI_filter w (fun x hx => (hw x hx).1)]
  congr 1
  exact List.filter_eq_self.mpr fun x hx => decide_eq_true (hw x hx).2
theorem sizesI_take_sum (m : Nat) (w : List Int) : ∀ {h : Nat}, h ≤ m → ((sizesI m w).take h).sum = startI w h
  | 0, _ => by simp; rfl
  | h + 1, hh => by
    have e : (sizesI m w)[h]? = some (w.count (h : Int) : Int) := by simp [sizesI, show h < m by omega]
    rw [take_nxt e, List.sum_append, sizesI_take_sum m w (by omega)]
    show _ + _ = ((startI w h + _ : Nat) : Int)
    simp
theorem sizesI_sum {m : Nat} {w : List Int} (hw : IsW m w) : (sizesI m w).sum = w.length := by
  have := sizesI_take_sum m w (Nat.le_refl m)
  rw [startI_all hw, List.take_of_length_le (by simp)] at this
  exact this
/-- the place from which the card comes that lies at place j: w[j] = h -/
def topI (ms : List Bool) (w : List Int) (h : Nat) (c : Nat) : Int := if ms.getD h false = true then (startI w h : Int) + w.count (h : Int) - 1 - c else startI w h + c
def cntI (w : List Int) (j : Nat) : Nat := (w.take j).count (w.getD j 0)
def numAt (ms : List Bool) (w : List Int) (j : Nat) : Int := topI ms w (w.getD j 0).toNat (cntI w j)
def numI (ms : List Bool) (w : List Int) : List Int := (List.range w.length).map (numAt ms w)
@[simp] theorem numI_length (ms : List Bool) (w : List Int) : (numI ms w).length = w.length := by simp [numI]
theorem getD_of {α : Type} {xs : List α} {i : Nat} {x d : α} (e : xs[i]? = some x) : xs.getD i d = x := by rw [List.getD_eq_getElem?_getD, e]; rfl
theorem getElem?_getD {α : Type} {xs : List α} {i : Nat} (d : α) (h : i < xs.length) : xs[i]? = some (xs.getD i d) := by
  rw [List.getD_eq_getElem?_getD, List.getElem?_eq_getElem h]; rfl
theorem cnt_lt {w : List Int} {j : Nat} {x : Int} (e : w[j]? = some x) : (w.take j).count x < w.count x := by
  have h1 := take_nxt e
  have h2 : (w.take (j + 1)).count x ≤ w.count x := (List.take_sublist _ _).count_le x
  rw [h1, List.count_append, List.count_singleton] at h2
  simp at h2
  omega
theorem topI_bd {m : Nat} {ms : List Bool} {w : List Int} (hw : IsW m w) {h c : Nat} (hh : h < m) (hc : c < w.count (h : Int)) :
    (startI w h : Int) ≤ topI ms w h c ∧ topI ms w h c < startI w h + w.count (h : Int) ∧ startI w h + w.count (h : Int) ≤ w.length := by
  have h1 := startI_lt (w := w) (show h < h + 1 by omega)
  have h2 := startI_mono w (show h + 1 ≤ m from hh)
  rw [startI_all hw] at h2
  have h3 : startI w (h + 1) = startI w h + w.count (h : Int) := rfl
  unfold topI
  split <;> omega
theorem numAt_bd {m : Nat} {ms : List Bool} {w : List Int} (hw : IsW m w) {j : Nat} (hj : j < w.length) : 0 ≤ numAt ms w j ∧ numAt ms w j < w.length := by
  have e := getElem?_getD 0 hj
  have hb := hw.at e
  have hc := cnt_lt e
  unfold numAt cntI
  have ex : (((w.getD j 0).toNat : Nat) : Int) = w.getD j 0 := by omega
  have := topI_bd (ms := ms) hw (h := (w.getD j 0).toNat) (c := (w.take j).count (w.getD j 0)) (by omega) (by rw [ex]; exact hc)
  rw [ex] at this
  omega
theorem numAt_inj {m : Nat} {ms : List Bool} {w : List Int} (hw : IsW m w) {i j : Nat} (hi : i < w.length) (hj : j < w.length) (he : numAt ms w i = numAt ms w j) : i = j := by
  have ei := getElem?_getD 0 hi
  have ej := getElem?_getD 0 hj
  have bi := hw.at ei
  have bj := hw.at ej
  have ci := cnt_lt ei
  have cj := cnt_lt ej
  have xi : (((w.getD i 0).toNat : Nat) : Int) = w.getD i 0 := by omega
  have xj : (((w.getD j 0).toNat : Nat) : Int) = w.getD j 0 := by omega
  have ti := topI_bd (ms := ms) hw (h := (w.getD i 0).toNat) (c := cntI w i) (by omega) (by rw [xi]; exact ci)
  have tj := topI_bd (ms := ms) hw (h := (w.getD j 0).toNat) (c := cntI w j) (by omega) (by rw [xj]; exact cj)
  have same : (w.getD i 0).toNat = (w.getD j 0).toNat := by
    unfold numAt at he
    rcases Nat.lt_trichotomy (w.getD i 0).toNat (w.getD j 0).toNat with h | h | h
    · have := startI_lt (w := w) h; omega
    · exact h
    · have := startI_lt (w := w) h; omega
  have sv : w.getD i 0 = w.getD j 0 := by omega
  have hcnt : cntI w i = cntI w j := by
    unfold numAt at he
    rw [same] at he
    unfold topI at he
    split at he <;> omega
  unfold cntI at hcnt
  rw [← sv] at hcnt
  rw [← sv] at ej
  rcases Nat.lt_trichotomy i j with h | h | h
  · have h1 : (w.take (i + 1)).count (w.getD i 0) ≤ (w.take j).count (w.getD i 0) := by
      have : (w.take (i + 1)).Sublist (w.take j) := List.take_sublist_take_left (by omega)
      exact this.count_le _
    rw [take_nxt ei, List.count_append, List.count_singleton_self] at h1
    omega
  · exact h
  · have h1 : (w.take (j + 1)).count (w.getD i 0) ≤ (w.take i).count (w.getD i 0) := by
      have : (w.take (j + 1)).Sublist (w.take i) := List.take_sublist_take_left (by omega)
      exact this.count_le _
    rw [take_nxt ej, List.count_append, List.count_singleton_self] at h1
    omega
theorem isOrd_numI {m : Nat} (ms : List Bool) {w : List Int} (hw : IsW m w) : IsOrd (numI ms w) := by
  refine isOrd_of_nodup ?_ ?_
  · unfold numI
    rw [List.nodup_iff_pairwise_ne, List.pairwise_map]
    refine List.Pairwise.imp_of_mem ?_ (List.nodup_range (n := w.length))
    intro a b ha hb hne e
    exact hne (numAt_inj hw (List.mem_range.mp ha) (List.mem_range.mp hb) e)
  · intro x hx
    obtain ⟨j, hj, rfl⟩ := List.mem_map.mp hx
    rw [numI_length]
    exact numAt_bd hw (List.mem_range.mp hj)
/-- the order behind a riffle, and the one ahead -/
def riffleI (o : List Int) (ms : List Bool) (w : List Int) : List Int := laidI o (numI ms w)
def undoneI (o : List Int) (ms : List Bool) (w : List Int) : List Int := laidI o (placesI (numI ms w))
@[simp] theorem riffleI_length (o : List Int) (ms : List Bool) (w : List Int) : (riffleI o ms w).length = w.length := by simp [riffleI]
@[simp] theorem undoneI_length (o : List Int) (ms : List Bool) (w : List Int) : (undoneI o ms w).length = w.length := by simp [undoneI]
theorem laidI_self_places {p : List Int} (h : IsOrd p) : laidI (placesI p) p = upto p.length := by
  have := laidI_places (isOrd_placesI h)
  rwa [placesI_placesI h, placesI_length] at this
theorem laidI_id {o : List Int} : laidI o (upto o.length) = o := by
  unfold laidI upto
  rw [List.map_map]
  apply List.ext_getElem
  · simp
  · intro i h1 h2
    simp only [List.getElem_map, List.getElem_range, Function.comp, Int.toNat_natCast]
    rw [List.getD_eq_getElem?_getD, List.getElem?_eq_getElem h2]; rfl
theorem riffle_undone {m : Nat} {o : List Int} {ms : List Bool} {w : List Int} (hw : IsW m w) (hl : o.length = w.length) : riffleI (undoneI o ms w) ms w = o := by
  have h := isOrd_numI ms hw
  unfold riffleI undoneI
  rw [laidI_assoc (fun p hp => by have := h.mem.mp hp; rwa [placesI_length]), laidI_self_places h, numI_length, ← hl, laidI_id]
theorem undone_riffle {m : Nat} {o : List Int} {ms : List Bool} {w : List Int} (hw : IsW m w) (hl : o.length = w.length) : undoneI (riffleI o ms w) ms w = o := by
  have h := isOrd_numI ms hw
  unfold riffleI undoneI
  rw [laidI_assoc (fun p hp => by have := (isOrd_placesI h).mem.mp hp; rwa [placesI_length] at this), laidI_places h, numI_length, ← hl, laidI_id]
theorem isOrd_riffleI {m : Nat} {o : List Int} (ms : List Bool) {w : List Int} (ho : IsOrd o) (hw : IsW m w) (hl : o.length = w.length) : IsOrd (riffleI o ms w) :=
  isOrd_laidI ho (isOrd_numI ms hw) (by simpa using hl)
theorem isOrd_undoneI {m : Nat} {o : List Int} (ms : List Bool) {w : List Int} (ho : IsOrd o) (hw : IsW m w) (hl : o.length = w.length) : IsOrd (undoneI o ms w) :=
  isOrd_laidI ho (isOrd_placesI (isOrd_numI ms hw)) (by simpa using hl)
theorem riffle_laid {m : Nat} {o : List Int} {ms : List Bool} {w : List Int} {n : Int} (hw : IsW m w) (hl : w.length = o.length) (hn : (o.length : Int) = n) : riffleI o ms w = laidI o (riffleI (upto n.toNat) ms w) := by
  have h := isOrd_numI ms hw
  subst hn
  unfold riffleI
  rw [Int.toNat_natCast, ← laidI_assoc (fun p hp => by have := h.mem.mp hp; rw [numI_length] at this; rw [upto_length]; omega), laidI_id]
theorem undone_laid {m : Nat} {o : List Int} {ms : List Bool} {w : List Int} {n : Int} (hw : IsW m w) (hl : w.length = o.length) (hn : (o.length : Int) = n) : undoneI o ms w = laidI o (undoneI (upto n.toNat) ms w) := by
  have h := isOrd_placesI (isOrd_numI ms hw)
  subst hn
  unfold undoneI
  rw [Int.toNat_natCast, ← laidI_assoc (fun p hp => by have := h.mem.mp hp; rw [placesI_length, numI_length] at this; rw [upto_length]; omega), laidI_id]
theorem ord_bd {a : List Int} {n : Nat} (h : IsOrd a) (hl : a.length = n) : ∀ p ∈ a, 0 ≤ p ∧ p < (n : Int) := fun p hp => by have := h.mem.mp hp; omega
/-! the programs' loops -/
theorem size_at {m : Nat} {w : List Int} {i : Nat} {y : Int} (e : (sizesI m w)[i]? = some y) : y = (w.count (i : Int) : Int) := by
  have hl := (List.getElem?_eq_some_iff.mp e).1
  have := getD_of (d := 0) e
  rw [sizesI_getD (by simpa using hl)] at this
  exact this.symm
def topsTo (ms : List Bool) (w : List Int) (n j : Nat) : List Int := (List.range n).map fun h => topI ms w h ((w.take j).count (h : Int))
theorem topI_t {ms : List Bool} {w : List Int} {h c : Nat} (hm : ms.getD (Int.toNat (h : Int)) false = true) : topI ms w h c = (startI w h : Int) + w.count (h : Int) - 1 - c := by
  rw [Int.toNat_natCast] at hm; unfold topI; rw [if_pos hm]
theorem topI_f {ms : List Bool} {w : List Int} {h c : Nat} (hm : ms.getD (Int.toNat (h : Int)) false = false) : topI ms w h c = (startI w h : Int) + c := by
  rw [Int.toNat_natCast] at hm; unfold topI; rw [if_neg (by rw [hm]; exact Bool.false_ne_true)]
theorem topsTo_next (ms : List Bool) (w : List Int) (n : Nat) {x : Int} (h : x = topI ms w n 0) : topsTo ms w n 0 ++ [x] = topsTo ms w (n + 1) 0 := by
  unfold topsTo; rw [List.range_succ, List.map_append, h]; simp
theorem topsTo_getD {ms : List Bool} {w : List Int} {n j h : Nat} (hh : h < n) : (topsTo ms w n j).getD h 0 = topI ms w h ((w.take j).count (h : Int)) := by
  rw [List.getD_eq_getElem?_getD]; simp [topsTo, hh]
def numTo (ms : List Bool) (w : List Int) (j : Nat) : List Int := (List.range j).map (numAt ms w)
theorem numTo_next {ms : List Bool} {w : List Int} (hw : IsW ms.length w) {i : Nat} {y : Int} (e : w[i]? = some y) : numTo ms w i ++ [(topsTo ms w ms.length i).getD y.toNat 0] = numTo ms w (i + 1) := by
  have hb := hw.at e
  unfold numTo
  rw [List.range_succ, List.map_append, topsTo_getD (by omega)]
  show _ = _ ++ [numAt ms w i]
  unfold numAt cntI
  rw [getD_of e, show ((y.toNat : Nat) : Int) = y by omega]
theorem tops_step {ms : List Bool} {w : List Int} (hw : IsW ms.length w) {i : Nat} {y v : Int} (e : w[i]? = some y) (hv : v = topI ms w y.toNat ((w.take i).count y + 1)) :
    (topsTo ms w ms.length i).set y.toNat v = topsTo ms w ms.length (i + 1) := by
  have hb := hw.at e
  apply List.ext_getElem
  · simp [topsTo]
  · intro c h1 h2
    simp only [topsTo, List.getElem_set, List.getElem_map, List.getElem_range]
    rw [take_nxt e, List.count_append, List.count_singleton]
    by_cases ex : y.toNat = c
    · subst ex
      have : ((y.toNat : Nat) : Int) = y := by omega
      rw [if_pos rfl, this, hv]; simp
    · rw [if_neg ex]
      have : (y == (c : Int)) = false := by rw [beq_eq_false_iff_ne]; omega
      simp [this]
theorem tops_t {ms : List Bool} {w : List Int} (hw : IsW ms.length w) {i : Nat} {y : Int} (e : w[i]? = some y) (hm : ms.getD y.toNat false = true) :
    (topsTo ms w ms.length i).set y.toNat ((topsTo ms w ms.length i).getD y.toNat 0 - 1) = topsTo ms w ms.length (i + 1) := by
  have hb := hw.at e
  refine tops_step hw e ?_
  rw [topsTo_getD (by omega), show ((y.toNat : Nat) : Int) = y by omega]
  unfold topI; rw [if_pos hm, if_pos hm]; omega
theorem tops_f {ms : List Bool} {w : List Int} (hw : IsW ms.length w) {i : Nat} {y : Int} (e : w[i]? = some y) (hm : ms.getD y.toNat false = false) :
    (topsTo ms w ms.length i).set y.toNat ((topsTo ms w ms.length i).getD y.toNat 0 + 1) = topsTo ms w ms.length (i + 1) := by
  have hb := hw.at e
  refine tops_step hw e ?_
  rw [topsTo_getD (by omega), show ((y.toNat : Nat) : Int) = y by omega]
  have hn : ¬ ms.getD y.toNat false = true := by rw [hm]; exact Bool.false_ne_true
  unfold topI; rw [if_neg hn, if_neg hn]; omega
def undoTo (o p : List Int) (i : Nat) : List Int := (List.range o.length).map fun c : Nat => if p.idxOf (c : Int) < i then o.getD (p.idxOf (c : Int)) 0 else 0
theorem undoTo_zero (o p : List Int) : o.map (fun _ => (0 : Int)) = undoTo o p 0 := by
  unfold undoTo
  apply List.ext_getElem
  · simp
  · intro i h1 h2; simp
theorem undoTo_all {o p : List Int} (h : IsOrd p) (hl : o.length = p.length) : undoTo o p (min o.length p.length) = laidI o (placesI p) := by
  unfold undoTo laidI placesI
  rw [List.map_map, hl, Nat.min_self]
  apply List.map_congr_left
  intro c hc
  rw [if_pos (idxOf_lt h (List.mem_range.mp hc))]; rfl
theorem undoTo_next {o p : List Int} (h : IsOrd p) (hl : o.length = p.length) {i : Nat} {x y : Int} (e : o[i]? = some x) (e2 : p[i]? = some y) : (undoTo o p i).set y.toNat x = undoTo o p (i + 1) := by
  have hb := h.bd e2
  have hi := idxOf_at h.nodup e2
  apply List.ext_getElem
  · simp [undoTo]
  · intro c h1 h2
    have hc : c < p.length := by rw [← hl]; simpa [undoTo] using h2
    simp only [undoTo, List.getElem_set, List.getElem_map, List.getElem_range]
    by_cases ex : y.toNat = c
    · subst ex
      have : ((y.toNat : Nat) : Int) = y := by omega
      rw [if_pos rfl, this, hi, if_pos (by omega), getD_of e]
    · rw [if_neg ex]
      have hne : p.idxOf (c : Int) ≠ i := by
        intro z
        have h3 := at_idxOf (h.mem.mpr ⟨show (0 : Int) ≤ (c : Int) by omega, show (c : Int) < p.length by omega⟩)
        rw [z, getD_of e2] at h3
        omega
      by_cases h4 : p.idxOf (c : Int) < i
      · rw [if_pos h4, if_pos (by omega)]
      · rw [if_neg h4, if_neg (by omega)]
/-! the law's heaps -/
def heapI (o : List Int) (ms : List Bool) (w : List Int) (h : Nat) : List Int :=
  if ms.getD h false = true then ((o.drop (startI w h)).take (w.count (h : Int))).reverse else (o.drop (startI w h)).take (w.count (h : Int))
def heapsTo (o : List Int) (ms : List Bool) (w : List Int) (n : Nat) : List (List Int) := (List.range n).map (heapI o ms w)
def heapsAt (o : List Int) (ms : List Bool) (w : List Int) (j : Nat) : List (List Int) := (List.range ms.length).map fun h => (heapI o ms w h).drop ((w.take j).count (h : Int))
theorem heapsTo_next (o : List Int) (ms : List Bool) (w : List Int) (n : Nat) : heapsTo o ms w (n + 1) = heapsTo o ms w n ++ [heapI o ms w n] := by
  unfold heapsTo; rw [List.range_succ, List.map_append]; rfl
theorem heapsAt_zero (o : List Int) (ms : List Bool) (w : List Int) : heapsAt o ms w 0 = heapsTo o ms w ms.length := by
  unfold heapsAt heapsTo
  apply List.map_congr_left
  intro h _; simp
theorem count_room {m : Nat} {w : List Int} (hw : IsW m w) {h : Nat} (hh : h < m) : startI w h + w.count (h : Int) ≤ w.length := by
  have h2 := startI_mono w (show h + 1 ≤ m from hh)
  rw [startI_all hw] at h2
  exact h2
theorem heapI_length {m : Nat} {o : List Int} {ms : List Bool} {w : List Int} (hw : IsW m w) (hl : w.length = o.length) {h : Nat} (hh : h < m) : (heapI o ms w h).length = w.count (h : Int) := by
  have := count_room hw hh
  unfold heapI
  split
  · rw [List.length_reverse, List.length_take, List.length_drop]; omega
  · rw [List.length_take, List.length_drop]; omega
theorem heapI_getD {m : Nat} {o : List Int} {ms : List Bool} {w : List Int} (hw : IsW m w) (hl : w.length = o.length) {h c : Nat} (hh : h < m) (hc : c < w.count (h : Int)) :
    (heapI o ms w h).getD c 0 = o.getD (topI ms w h c).toNat 0 := by
  have hr := count_room hw hh
  have hln := heapI_length (ms := ms) hw hl hh
  unfold heapI topI at *
  by_cases hm : ms.getD h false = true
  · rw [if_pos hm] at hln ⊢
    rw [if_pos hm]
    rw [List.getD_eq_getElem?_getD, List.getElem?_reverse (by rw [List.length_reverse] at hln; omega), List.getElem?_take_of_lt (by rw [List.length_reverse] at hln; omega), List.getElem?_drop, List.getD_eq_getElem?_getD]
    rw [List.length_reverse] at hln
    congr 2
    omega
  · rw [if_neg hm] at hln ⊢
    rw [if_neg hm]
    rw [List.getD_eq_getElem?_getD, List.getElem?_take_of_lt hc, List.getElem?_drop, List.getD_eq_getElem?_getD]
    congr 2
theorem heapsAt_row {o : List Int} {ms : List Bool} {w : List Int} {j : Nat} {y : Int} {rows : List (Nat × List Int)} (hl : w.length = o.length) (hb : 0 ≤ y ∧ y < ms.length) (hh : rows.map (·.2) = heapsAt o ms w j) :
    (rows.getD y.toNat (0, [])).2 = (heapI o ms w y.toNat).drop ((w.take j).count y) := by
  have e : (rows.map (·.2)).getD y.toNat [] = (rows.getD y.toNat (0, [])).2 := by
    rw [List.getD_eq_getElem?_getD, List.getElem?_map, List.getD_eq_getElem?_getD]
    cases rows[y.toNat]? <;> rfl
  rw [← e, hh, List.getD_eq_getElem?_getD]
  have : y.toNat < ms.length := by omega
  simp only [heapsAt, List.getElem?_map, List.getElem?_range this, Option.map_some, Option.getD_some]
  rw [show ((y.toNat : Nat) : Int) = y by omega]
theorem heapAt_length {o : List Int} {ms : List Bool} {w : List Int} (hw : IsW ms.length w) (hl : w.length = o.length) {i : Nat} {y : Int} (e : w[i]? = some y) :
    0 < ((heapI o ms w y.toNat).drop ((w.take i).count y)).length ∧ ((heapI o ms w y.toNat).drop ((w.take i).count y)).length ≤ w.length := by
  have hb := hw.at e
  have hc := cnt_lt e
  rw [List.length_drop, heapI_length hw hl (show y.toNat < ms.length by omega), show ((y.toNat : Nat) : Int) = y by omega]
  have := w.count_le_length (a := y)
  omega
def riffTo (o : List Int) (ms : List Bool) (w : List Int) (j : Nat) : List Int := (List.range j).map fun j => o.getD (numAt ms w j).toNat 0
theorem riffTo_all {o : List Int} {ms : List Bool} {w : List Int} (hw : IsW ms.length w) (hl : w.length = o.length) : riffTo o ms w w.length = riffleI o ms w := by
  unfold riffTo riffleI laidI numI
  rw [List.map_map]; rfl
theorem riffTo_next {o : List Int} {ms : List Bool} {w : List Int} (hw : IsW ms.length w) (hl : w.length = o.length) {i : Nat} {y : Int} (e : w[i]? = some y) :
    riffTo o ms w i ++ [((heapI o ms w y.toNat).drop ((w.take i).count y)).getD 0 0] = riffTo o ms w (i + 1) := by
  have hb := hw.at e
  have hc := cnt_lt e
  have ey : ((y.toNat : Nat) : Int) = y := by omega
  unfold riffTo
  rw [List.range_succ, List.map_append]
  congr 1
  have := heapI_getD (o := o) (ms := ms) hw hl (show y.toNat < ms.length by omega) (c := (w.take i).count y) (by rw [ey]; exact hc)
  rw [List.getD_eq_getElem?_getD, List.getElem?_drop, Nat.add_zero, ← List.getD_eq_getElem?_getD, this]
  show [_] = [o.getD (numAt ms w i).toNat 0]
  unfold numAt cntI
  rw [getD_of e]
theorem heapsAt_next {o : List Int} {ms : List Bool} {w : List Int} (hw : IsW ms.length w) {i : Nat} {y : Int} (e : w[i]? = some y) {r : List Int} (hr : r = ((heapI o ms w y.toNat).drop ((w.take i).count y)).drop 1) :
    (heapsAt o ms w i).set y.toNat r = heapsAt o ms w (i + 1) := by
  have hb := hw.at e
  apply List.ext_getElem
  · simp [heapsAt]
  · intro c h1 h2
    simp only [heapsAt, List.getElem_set, List.getElem_map, List.getElem_range]
    rw [take_nxt e, List.count_append, List.count_singleton]
    by_cases ex : y.toNat = c
    · subst ex
      have : ((y.toNat : Nat) : Int) = y := by omega
      rw [if_pos rfl, this, hr, List.drop_drop]; simp
    · rw [if_neg ex]
      have : (y == (c : Int)) = false := by rw [beq_eq_false_iff_ne]; omega
      simp [this]
end Rc
namespace Rc
open PySem PySem.Spec PyProof.Rows L2
theorem heap_cut {m : Nat} {o : List Int} {w : List Int} (hw : IsW m w) (hl : w.length = o.length) {h : Nat} (hh : h < m) {s : Int} (hs : s = (startI w h : Int)) :
    cutL o (some s) (some (s + (w.count (h : Int) : Int))) = (o.drop (startI w h)).take (w.count (h : Int)) := by
  have := count_room hw hh
  subst hs
  rw [cut_mid (by omega) (by omega) (by omega)]
  congr 1
  omega
theorem heap_t {o : List Int} {ms : List Bool} {w : List Int} (hw : IsW ms.length w) (hl : w.length = o.length) {h : Nat} (hh : h < ms.length) {s : Int} (hs : s = (startI w h : Int)) (hm : ms.getD (Int.toNat (h : Int)) false = true) :
    (cutL o (some s) (some (s + (w.count (h : Int) : Int)))).reverse = heapI o ms w h := by
  rw [Int.toNat_natCast] at hm
  rw [heap_cut hw hl hh hs]; unfold heapI; rw [if_pos hm]
theorem heap_f {o : List Int} {ms : List Bool} {w : List Int} (hw : IsW ms.length w) (hl : w.length = o.length) {h : Nat} (hh : h < ms.length) {s : Int} (hs : s = (startI w h : Int)) (hm : ms.getD (Int.toNat (h : Int)) false = false) :
    cutL o (some s) (some (s + (w.count (h : Int) : Int))) = heapI o ms w h := by
  rw [Int.toNat_natCast] at hm
  rw [heap_cut hw hl hh hs]; unfold heapI; rw [if_neg (by rw [hm]; exact Bool.false_ne_true)]
end Rc
namespace Rc
theorem heap_cut2 {m : Nat} {o left : List Int} {w : List Int} (hw : IsW m w) (hl : w.length = o.length) {h : Nat} (hh : h < m) {s : Int} (hs : ((w.count (h : Int) : Nat) : Int) = s) (hleft : left = o.drop (startI w h)) :
    cutL left none (some s) = (o.drop (startI w h)).take (w.count (h : Int)) ∧ cutL left (some s) none = o.drop (startI w (h + 1)) := by
  have hr := count_room hw hh
  subst hleft
  subst hs
  rw [cut_lo (by omega) (by rw [List.length_drop]; omega), cut_hi (by omega) (by rw [List.length_drop]; omega), Int.toNat_natCast, List.drop_drop]
  exact ⟨rfl, by rfl⟩
theorem heap_t2 {o x : List Int} {ms : List Bool} {w : List Int} {h : Nat} (hx : x = (o.drop (startI w h)).take (w.count (h : Int))) (hm : ms.getD (Int.toNat (h : Int)) false = true) : x.reverse = heapI o ms w h := by
  unfold heapI
  rw [Int.toNat_natCast] at hm
  rw [if_pos hm, hx]
theorem heap_f2 {o x : List Int} {ms : List Bool} {w : List Int} {h : Nat} (hx : x = (o.drop (startI w h)).take (w.count (h : Int))) (hm : ms.getD (Int.toNat (h : Int)) false = false) : x = heapI o ms w h := by
  unfold heapI
  rw [Int.toNat_natCast] at hm
  rw [if_neg (by rw [hm]; simp), hx]
theorem erase_drop (x : List Int) : x.eraseIdx (Int.toNat 0) = x.drop 1 := by cases x <;> rfl
end Rc
namespace Rc
open PySem PySem.Spec PyProof.Rows L2
theorem isWordV_len {m : Nat} {w : List V} {n : Int} (h : (w.length : Int) ≠ n) : isWordV m w n = false := by
  unfold isWordV; rw [decide_eq_false h]; rfl
theorem isWordV_mem {m : Nat} {w : List V} {n : Int} {v : V} (h : v ∈ w) (hv : wordPart m v = false) : isWordV m w n = false := by
  unfold isWordV
  have : w.all (wordPart m) = false := by
    rw [List.all_eq_false]; exact ⟨v, h, by rw [hv]; exact Bool.false_ne_true⟩
  rw [this, Bool.and_false]
theorem wp_neg {m : Nat} {x : Int} (h : x < 0) : wordPart m (V.int x) = false := by
  show (decide (0 ≤ x) && decide (x < (m : Int))) = false
  rw [decide_eq_false (by omega)]; rfl
theorem wp_big {m : Nat} {x : Int} (h : (m : Int) ≤ x) : wordPart m (V.int x) = false := by
  show (decide (0 ≤ x) && decide (x < (m : Int))) = false
  rw [decide_eq_false (p := x < (m : Int)) (by omega), Bool.and_false]
theorem mid_mem {α : Type} {a b : List α} {x : α} : x ∈ a ++ [x] ++ b := by simp
theorem part_of {m : Nat} {l : List V} (hl : ∀ v ∈ l, wordPart m v = false) {i : Nat} {d : V} (hi : i < l.length) : wordPart m (l.getD i d) = false := hl _ (getD_mem hi)
theorem cut_last_len {α : Type} {xs : List α} (h : 0 < xs.length) : (cutL xs (some (-1)) none).length = 1 := by
  rw [cutL_length]
  show min (xs.length - (if (-1 : Int) < 0 then ((-1 : Int) + (xs.length : Int)).toNat else min (-1 : Int).toNat xs.length)) (xs.length - (if (-1 : Int) < 0 then ((-1 : Int) + (xs.length : Int)).toNat else min (-1 : Int).toNat xs.length)) = 1
  rw [if_pos (by decide)]; omega
theorem cut_lo_len {α : Type} {xs : List α} {i : Int} (h0 : 0 ≤ i) (h1 : i ≤ xs.length) : (cutL xs none (some i)).length = i.toNat := by
  rw [cut_lo h0 h1, List.length_take]; omega
theorem cut_hi_len {α : Type} {xs : List α} {i : Int} (h0 : 0 ≤ i) (h1 : i ≤ xs.length) : (cutL xs (some i) none).length = xs.length - i.toNat := by
  rw [cut_hi h0 h1, List.length_drop]
theorem all8 {m : Nat} {h r : Int} (hm : (m : Int) = h) (hr : 0 ≤ r) : ∀ v ∈ ([V.int (-1), V.int h, V.bl true, V.bl false, V.non, V.str "0", V.int (h + r), V.int (-1 - r)] : List V), wordPart m v = false := by
  intro v hv
  rcases List.mem_cons.mp hv with rfl | hv
  · exact wp_neg (by omega)
  rcases List.mem_cons.mp hv with rfl | hv
  · exact wp_big (by omega)
  rcases List.mem_cons.mp hv with rfl | hv
  · rfl
  rcases List.mem_cons.mp hv with rfl | hv
  · rfl
  rcases List.mem_cons.mp hv with rfl | hv
  · rfl
  rcases List.mem_cons.mp hv with rfl | hv
  · rfl
  rcases List.mem_cons.mp hv with rfl | hv
  · exact wp_big (by omega)
  rcases List.mem_cons.mp hv with rfl | hv
  · exact wp_neg (by omega)
  cases hv
theorem all4 {α : Type} {P : α → Prop} {a b c d : α} (h1 : P a) (h2 : P b) (h3 : P c) (h4 : P d) : ∀ z, z ∈ [a, b, c, d] → P z := by
  intro z hz
  rcases List.mem_cons.mp hz with rfl | hz
  · exact h1
  rcases List.mem_cons.mp hz with rfl | hz
  · exact h2
  rcases List.mem_cons.mp hz with rfl | hz
  · exact h3
  rcases List.mem_cons.mp hz with rfl | hz
  · exact h4
  cases hz
theorem all3 {α : Type} {P : α → Prop} {a b c : α} (h1 : P a) (h2 : P b) (h3 : P c) : ∀ z, z ∈ [a, b, c] → P z := by
  intro z hz
  rcases List.mem_cons.mp hz with rfl | hz
  · exact h1
  rcases List.mem_cons.mp hz with rfl | hz
  · exact h2
  rcases List.mem_cons.mp hz with rfl | hz
  · exact h3
  cases hz
theorem all2 {α : Type} {P : α → Prop} {a b : α} (h1 : P a) (h2 : P b) : ∀ z, z ∈ [a, b] → P z := by
  intro z hz
  rcases List.mem_cons.mp hz with rfl | hz
  · exact h1
  rcases List.mem_cons.mp hz with rfl | hz
  · exact h2
  cases hz
/-- what is told of a word: refused, another order's, the order's -/
def toldS (ok : Bool) (r o : List Int) : Str := if ok = true then (if r = o then "" else "way") else "riffle"
theorem told_no {ok : Bool} {r o : List Int} (h : ok = false) : toldS ok r o = "riffle" := by subst h; rfl
theorem told_way {ok : Bool} {r o : List Int} (h : ok = true) (h' : ¬ r = o) : toldS ok r o = "way" := by subst h; unfold toldS; rw [if_pos rfl, if_neg h']
theorem told_yes {ok : Bool} {r o : List Int} (h : ok = true) (h' : r = o) : toldS ok r o = "" := by subst h; unfold toldS; rw [if_pos rfl, if_pos h']
theorem isW_rot {m : Nat} {w : List Int} (h : ∀ x ∈ w, 0 ≤ x ∧ x < (m : Int)) (hl : 1 ≤ w.length) : ∀ x ∈ cutL w (some 1) none ++ cutL w none (some 1), 0 ≤ x ∧ x < (m : Int) := by
  intro x hx
  rw [cut_hi (by decide) (by omega), cut_lo (by decide) (by omega)] at hx
  rcases List.mem_append.mp hx with hx | hx
  · exact h x (List.mem_of_mem_drop hx)
  · exact h x (List.mem_of_mem_take hx)
theorem all8b {m : Nat} {h r : Int} (hm : (m : Int) = h) (hr : 0 ≤ r) : ∀ v ∈ ([V.int h, V.int (h + r), V.int (-1), V.int (-1 - r), V.bl true, V.bl false, V.non, V.str "0"] : List V), wordPart m v = false := by
  intro v hv
  rcases List.mem_cons.mp hv with rfl | hv
  · exact wp_big (by omega)
  rcases List.mem_cons.mp hv with rfl | hv
  · exact wp_big (by omega)
  rcases List.mem_cons.mp hv with rfl | hv
  · exact wp_neg (by omega)
  rcases List.mem_cons.mp hv with rfl | hv
  · exact wp_neg (by omega)
  rcases List.mem_cons.mp hv with rfl | hv
  · rfl
  rcases List.mem_cons.mp hv with rfl | hv
  · rfl
  rcases List.mem_cons.mp hv with rfl | hv
  · rfl
  rcases List.mem_cons.mp hv with rfl | hv
  · rfl
  cases hv
theorem isWordV_self {m : Nat} {w : List V} (h : isWordV m w (w.length : Int) = false) (n : Int) : isWordV m w n = false := by
  unfold isWordV at *
  rw [decide_eq_true rfl, Bool.true_and] at h
  rw [h, Bool.and_false]
theorem mod33 (c : Int) : (0 : Int) < ([59, 10] : List Int).getD (Int.toNat (min 1 (c % 8))) 0 := by
  by_cases h : c % 8 = 0
  · rw [h]; decide
  · rw [show min 1 (c % 8) = 1 by omega]; decide
theorem nn33 (c : Int) : 1 ≤ 1 + c / 8 % ([59, 10] : List Int).getD (Int.toNat (min 1 (c % 8))) 0 ∧ 1 + c / 8 % ([59, 10] : List Int).getD (Int.toNat (min 1 (c % 8))) 0 ≤ 60 := by
  have h1 := mod33 c
  have h2 := Int.emod_nonneg (c / 8) (show ([59, 10] : List Int).getD (Int.toNat (min 1 (c % 8))) 0 ≠ 0 by omega)
  have h3 := Int.emod_lt_of_pos (c / 8) h1
  have h4 : ([59, 10] : List Int).getD (Int.toNat (min 1 (c % 8))) 0 ≤ 59 := by
    by_cases h : c % 8 = 0
    · rw [h]; decide
    · rw [show min 1 (c % 8) = 1 by omega]; decide
  omega
end Rc
namespace Rc
def turnedI (marks others : List Bool) (heap other : Int) : Int := if marks.getD heap.toNat false = true then (others.length : Int) - 1 - other else other
def joinedRow (ms os : List Bool) (h n : Nat) : List Bool := (List.range n).map fun g : Nat => ms.getD h false != os.getD (turnedI ms os h g).toNat false
def joinedTo (ms os : List Bool) (n : Nat) : List Bool := (List.range n).flatMap fun h => joinedRow ms os h os.length
def joinedM (ms os : List Bool) : List Bool := joinedTo ms os ms.length
theorem turnedI_bd (ms os : List Bool) (h g : Int) (h0 : 0 ≤ g) (h1 : g < os.length) : 0 ≤ turnedI ms os h g ∧ turnedI ms os h g < os.length := by
  unfold turnedI; split <;> omega
theorem joinedRow_next (ms os : List Bool) (l : List Bool) (h n : Nat) : (l ++ joinedRow ms os h n) ++ [ms.getD h false != os.getD (turnedI ms os h n).toNat false] = l ++ joinedRow ms os h (n + 1) := by
  unfold joinedRow; rw [List.range_succ, List.map_append, List.append_assoc]; rfl
theorem joinedTo_next (ms os : List Bool) (n : Nat) : joinedTo ms os n ++ joinedRow ms os n os.length = joinedTo ms os (n + 1) := by
  unfold joinedTo; rw [List.range_succ, List.flatMap_append]; simp
theorem joinedTo_length (ms os : List Bool) (n : Nat) : (joinedTo ms os n).length = n * os.length := by
  induction n with
  | zero => simp [joinedTo]
  | succ n ih => rw [← joinedTo_next, List.length_append, ih]; simp [joinedRow, Nat.succ_mul]
theorem joined_size {ms os : List Bool} {h n : Nat} (hh : h < ms.length) (hn : n < os.length) (hm : ms.length * os.length ≤ 400) : (joinedTo ms os h ++ joinedRow ms os h n).length < 100000 := by
  rw [List.length_append, joinedTo_length]
  have : (joinedRow ms os h n).length = n := by simp [joinedRow]
  have h2 : (h + 1) * os.length ≤ ms.length * os.length := Nat.mul_le_mul_right _ hh
  rw [Nat.succ_mul] at h2
  omega
def dueRow (m : Bool) (os : List Bool) : List Bool := if m = true then os.reverse else os
def dueTo (ms os : List Bool) (i : Nat) : List Bool := (ms.take i).flatMap fun m => (dueRow m os).map fun o => m != o
theorem take_nx {α : Type} {ns : List α} {i : Nat} {y : α} (h : ns[i]? = some y) : ns.take (i + 1) = ns.take i ++ [y] := by rw [List.take_add_one, h]; rfl
theorem dueTo_next {ms os row : List Bool} {i : Nat} {m : Bool} (hy : ms[i]? = some m) (hj : row = dueRow m os) : dueTo ms os i ++ (row.take row.length).map (fun o => m != o) = dueTo ms os (i + 1) := by
  unfold dueTo; rw [take_nx hy, List.flatMap_append, List.take_length, hj]; simp
theorem dueRow_length (m : Bool) (os : List Bool) : (dueRow m os).length = os.length := by unfold dueRow; split <;> simp
theorem dueTo_length (ms os : List Bool) (i : Nat) (hi : i ≤ ms.length) : (dueTo ms os i).length = i * os.length := by
  induction i with
  | zero => simp [dueTo]
  | succ i ih =>
    have hy : ms[i]? = some ms[i] := List.getElem?_eq_getElem (by omega)
    rw [← dueTo_next hy rfl, List.length_append, ih (by omega), List.length_map, List.take_length, dueRow_length, Nat.succ_mul]
theorem due_size {ms os row : List Bool} {h n : Nat} {m : Bool} (hh : h < ms.length) (hn : n < row.length) (hm : ms.length * os.length ≤ 400) (hj : row = dueRow m os) : (dueTo ms os h).length + (row.take n).length < 100000 := by
  rw [dueTo_length _ _ _ (by omega), List.length_take]
  rw [hj, dueRow_length] at hn ⊢
  have h2 : (h + 1) * os.length ≤ ms.length * os.length := Nat.mul_le_mul_right _ hh
  rw [Nat.succ_mul] at h2
  omega
theorem dueRow_eq (ms os : List Bool) (h : Nat) : joinedRow ms os h os.length = (dueRow (ms.getD h false) os).map fun o => ms.getD h false != o := by
  unfold dueRow joinedRow turnedI
  rw [Int.toNat_natCast]
  generalize ms.getD h false = m
  split
  · rename_i hm
    apply List.ext_getElem
    · simp
    · intro i h1 h2
      have hi : i < os.length := by simpa using h1
      simp only [List.getElem_map, List.getElem_range, List.getElem_reverse]
      have : ((os.length : Int) - 1 - (i : Int)).toNat = os.length - 1 - i := by omega
      rw [this, List.getD_eq_getElem?_getD, List.getElem?_eq_getElem (by omega)]; rfl
  · apply List.ext_getElem
    · simp
    · intro i h1 h2
      have hi : i < os.length := by simpa using h1
      simp only [List.getElem_map, List.getElem_range]
      rw [Int.toNat_natCast, List.getD_eq_getElem?_getD, List.getElem?_eq_getElem (by omega)]; rfl
theorem dueTo_to (ms os : List Bool) (i : Nat) (hi : i ≤ ms.length) : dueTo ms os i = joinedTo ms os i := by
  induction i with
  | zero => rfl
  | succ i ih =>
    have hy : ms[i]? = some ms[i] := List.getElem?_eq_getElem (by omega)
    rw [← dueTo_next hy rfl, ih (by omega), ← joinedTo_next, List.take_length, dueRow_eq]
    have : ms.getD i false = ms[i] := by rw [List.getD_eq_getElem?_getD, hy]; rfl
    rw [this]
theorem dueTo_all (ms os : List Bool) : dueTo ms os ms.length = joinedM ms os := dueTo_to _ _ _ (Nat.le_refl _)
theorem prod20 {a b : Nat} (ha : a ≤ 20) (hb : b ≤ 20) : a * b ≤ 400 := Nat.mul_le_mul ha hb
theorem joinedM_length (ms os : List Bool) : (joinedM ms os).length = ms.length * os.length := joinedTo_length _ _ _
end Rc
namespace Rc
/-! one heap of two turned -/
def cutW (o : List Int) (cut : Int) : List Int := o.map fun c => if cut ≤ c then 1 else 0
def leadsB (a b : Bool) (o : List Int) (cut : Int) : Bool := decide (0 ≤ cut) && decide (cut ≤ (o.length : Int)) && decide (riffleI (upto o.length) [a, b] (cutW o cut) = o)
theorem cutW_isW (o : List Int) (cut : Int) : IsW 2 (cutW o cut) := fun x hx => by
  obtain ⟨c, _, rfl⟩ := List.mem_map.mp hx
  split <;> omega
@[simp] theorem cutW_length (o : List Int) (cut : Int) : (cutW o cut).length = o.length := by simp [cutW]
theorem cutW_next {o : List Int} {cut : Int} {i : Nat} {y : Int} (e : o[i]? = some y) : cutW (o.take i) cut ++ [if cut ≤ y then 1 else 0] = cutW (o.take (i + 1)) cut := by
  rw [take_nxt e, cutW, cutW, List.map_append]; rfl
theorem isW_take {m : Nat} {o : List Int} {cut : Int} (i : Nat) : IsW 2 (cutW (o.take i) cut) := cutW_isW _ _
def ones (o : List Int) (cut : Int) (j : Nat) : Nat := ((cutW o cut).take j).count 1
def zers (o : List Int) (cut : Int) (j : Nat) : Nat := ((cutW o cut).take j).count 0
theorem cutW_getD {o : List Int} {cut : Int} {j : Nat} (h : j < o.length) : (cutW o cut)[j]? = some (if cut ≤ o.getD j 0 then 1 else 0) := by
  rw [cutW, List.getElem?_map, getElem?_getD 0 h]; rfl
theorem ones_succ {o : List Int} {cut : Int} {j : Nat} (h : j < o.length) : ones o cut (j + 1) = ones o cut j + if cut ≤ o.getD j 0 then 1 else 0 := by
  unfold ones
  rw [take_nxt (cutW_getD h), List.count_append]
  split <;> rfl
theorem zers_succ {o : List Int} {cut : Int} {j : Nat} (h : j < o.length) : zers o cut (j + 1) = zers o cut j + if cut ≤ o.getD j 0 then 0 else 1 := by
  unfold zers
  rw [take_nxt (cutW_getD h), List.count_append]
  split <;> rfl
theorem ones_zers {o : List Int} {cut : Int} : ∀ {j : Nat}, j ≤ o.length → ones o cut j + zers o cut j = j
  | 0, _ => rfl
  | j + 1, h => by
    rw [ones_succ (by omega), zers_succ (by omega)]
    have := ones_zers (o := o) (cut := cut) (j := j) (by omega)
    split <;> omega
theorem ones_mono {o : List Int} {cut : Int} {i j : Nat} (h : i ≤ j) (hj : j ≤ o.length) : ones o cut i ≤ ones o cut j := by
  induction j with
  | zero => rw [show i = 0 by omega]; exact Nat.le_refl _
  | succ j ih =>
    by_cases e : i = j + 1
    · subst e; exact Nat.le_refl _
    · have := ih (by omega) (by omega)
      rw [ones_succ (by omega)]; omega
theorem zers_mono {o : List Int} {cut : Int} {i j : Nat} (h : i ≤ j) (hj : j ≤ o.length) : zers o cut i ≤ zers o cut j := by
  induction j with
  | zero => rw [show i = 0 by omega]; exact Nat.le_refl _
  | succ j ih =>
    by_cases e : i = j + 1
    · subst e; exact Nat.le_refl _
    · have := ih (by omega) (by omega)
      rw [zers_succ (by omega)]; omega
theorem riff_first {ms : List Bool} {w : List Int} {n : Nat} (hw : IsW ms.length w) (hl : w.length = n) : riffleI (upto n) ms w = numI ms w := by
  unfold riffleI laidI
  conv => rhs; rw [← List.map_id (numI ms w)]
  apply List.map_congr_left
  intro p hp
  have := (isOrd_numI ms hw).mem.mp hp
  rw [numI_length] at this
  have hlt : p.toNat < n := by omega
  rw [List.getD_eq_getElem?_getD, upto_getElem? hlt]
  simp; omega
def vals (a b : Bool) (o : List Int) (cut : Int) (j : Nat) : Int :=
  if cut ≤ o.getD j 0 then (if b = true then (o.length : Int) - 1 - ones o cut j else (zers o cut o.length : Int) + ones o cut j)
  else (if a = true then (zers o cut o.length : Int) - 1 - zers o cut j else zers o cut j)
theorem num_vals {a b : Bool} {o : List Int} {cut : Int} {j : Nat} (h : j < o.length) : numAt [a, b] (cutW o cut) j = vals a b o cut j := by
  unfold numAt cntI vals
  rw [getD_of (cutW_getD h)]
  have hall : ones o cut o.length + zers o cut o.length = o.length := ones_zers (Nat.le_refl _)
  have e1 : (cutW o cut).count 1 = ones o cut o.length := by unfold ones; rw [List.take_of_length_le (by simp)]
  have e0 : (cutW o cut).count 0 = zers o cut o.length := by unfold zers; rw [List.take_of_length_le (by simp)]
  split
  · unfold topI
    show (if ([a, b].getD 1 false) = true then ((startI (cutW o cut) 1 : Nat) : Int) + ((cutW o cut).count 1 : Nat) - 1 - (ones o cut j : Nat) else ((startI (cutW o cut) 1 : Nat) : Int) + (ones o cut j : Nat)) = _
    rw [show startI (cutW o cut) 1 = 0 + (cutW o cut).count 0 from rfl, e0, e1]
    cases b
    · rw [if_neg (by simp), if_neg (by simp)]; omega
    · rw [if_pos (show [a, true].getD 1 false = true from rfl), if_pos rfl]; omega
  · unfold topI
    show (if ([a, b].getD 0 false) = true then ((startI (cutW o cut) 0 : Nat) : Int) + ((cutW o cut).count 0 : Nat) - 1 - (zers o cut j : Nat) else ((startI (cutW o cut) 0 : Nat) : Int) + (zers o cut j : Nat)) = _
    rw [show startI (cutW o cut) 0 = 0 from rfl, e0]
    cases a
    · rw [if_neg (by simp), if_neg (by simp)]; omega
    · rw [if_pos (show [true, b].getD 0 false = true from rfl), if_pos rfl]; omega
theorem leads_iff {a b : Bool} {o : List Int} {cut : Int} : leadsB a b o cut = true ↔ 0 ≤ cut ∧ cut ≤ o.length ∧ ∀ j, j < o.length → o.getD j 0 = vals a b o cut j := by
  unfold leadsB
  rw [Bool.and_eq_true, Bool.and_eq_true, decide_eq_true_eq, decide_eq_true_eq, decide_eq_true_eq, riff_first (ms := [a, b]) (cutW_isW o cut) (by simp)]
  constructor
  · rintro ⟨⟨h0, h1⟩, h2⟩
    refine ⟨h0, h1, fun j hj => ?_⟩
    have := congrArg (fun l => l.getD j 0) h2
    simp only [numI, cutW_length] at this
    rw [← this, ← num_vals hj, List.getD_eq_getElem?_getD]
    simp [hj]
  · rintro ⟨h0, h1, h2⟩
    refine ⟨⟨h0, h1⟩, ?_⟩
    apply List.ext_getElem
    · simp
    · intro j g1 g2
      have := h2 j g2
      rw [List.getD_eq_getElem?_getD, List.getElem?_eq_getElem g2, Option.getD_some] at this
      simp only [numI, List.getElem_map, List.getElem_range]
      rw [num_vals g2, this]
theorem leads_false {a b : Bool} {o : List Int} {cut : Int} (h : ¬ (0 ≤ cut ∧ cut ≤ o.length ∧ ∀ j, j < o.length → o.getD j 0 = vals a b o cut j)) : leadsB a b o cut = false := by
  cases e : leadsB a b o cut
  · rfl
  · exact absurd (leads_iff.mp e) h
/-! the second heap turned: low and high -/
def lh (o : List Int) : Nat → Int × Int
  | 0 => (0, (o.length : Int) - 1)
  | j + 1 => if o.getD j 0 = (lh o j).1 then ((lh o j).1 + 1, (lh o j).2) else if o.getD j 0 = (lh o j).2 then ((lh o j).1, (lh o j).2 - 1) else lh o j
def okAt (o : List Int) (j : Nat) : Prop := o.getD j 0 = (lh o j).1 ∨ o.getD j 0 = (lh o j).2
def okTo (o : List Int) (j : Nat) : Prop := ∀ i, i < j → okAt o i
theorem lh_low {o : List Int} {i : Nat} {y l h : Int} (e : o[i]? = some y) (hl : lh o i = (l, h)) (hy : y = l) : lh o (i + 1) = (l + 1, h) := by
  rw [lh, getD_of e, hl, if_pos hy]
theorem lh_high {o : List Int} {i : Nat} {y l h : Int} (e : o[i]? = some y) (hl : lh o i = (l, h)) (hy : ¬ y = l) (hy2 : y = h) : lh o (i + 1) = (l, h - 1) := by
  rw [lh, getD_of e, hl, if_neg hy, if_pos hy2]
theorem okTo_zero (o : List Int) : okTo o 0 := fun _ h => by omega
theorem okTo_next {o : List Int} {i : Nat} (h : okTo o i) (hi : okAt o i) : okTo o (i + 1) := fun j hj => by
  by_cases e : j = i
  · subst e; exact hi
  · exact h j (by omega)
theorem okAt_of {o : List Int} {i : Nat} {y l h : Int} (e : o[i]? = some y) (hl : lh o i = (l, h)) (hy : y = l ∨ y = h) : okAt o i := by
  unfold okAt; rw [getD_of e, hl]; exact hy
theorem not_okAt {o : List Int} {i : Nat} {y l h : Int} (e : o[i]? = some y) (hl : lh o i = (l, h)) (h1 : ¬ y = l) (h2 : ¬ y = h) : ¬ okAt o i := by
  unfold okAt; rw [getD_of e, hl]; exact fun z => z.elim h1 h2
theorem lh_sum {o : List Int} : ∀ {j : Nat}, okTo o j → (lh o j).1 + ((o.length : Int) - 1 - (lh o j).2) = j ∧ 0 ≤ (lh o j).1 ∧ (lh o j).2 ≤ (o.length : Int) - 1
  | 0, _ => by simp only [lh]; omega
  | j + 1, h => by
    have ih := lh_sum (j := j) (fun i hi => h i (by omega))
    have := h j (by omega)
    unfold okAt at this
    rw [lh]
    split
    · simp only []; omega
    · rw [if_pos (by omega)]; simp only []; omega
theorem lh_mono {o : List Int} (i : Nat) : ∀ d, (lh o i).1 ≤ (lh o (i + d)).1 ∧ (lh o (i + d)).2 ≤ (lh o i).2
  | 0 => ⟨Int.le_refl _, Int.le_refl _⟩
  | d + 1 => by
    have ih := lh_mono (o := o) i d
    rw [show i + (d + 1) = (i + d) + 1 by omega, lh]
    split
    · simp only []; omega
    · split
      · simp only []; omega
      · exact ih
/-- what lies among the first j -/
theorem lh_taken {o : List Int} : ∀ {j : Nat}, okTo o j → j ≤ o.length → ∀ x, x ∈ o.take j ↔ (0 ≤ x ∧ x < (lh o j).1) ∨ ((lh o j).2 < x ∧ x ≤ (o.length : Int) - 1)
  | 0, _, _ => by intro x; simp only [lh, List.take_zero, List.not_mem_nil, false_iff]; omega
  | j + 1, h, hj => by
    intro x
    have hj' : okTo o j := fun i hi => h i (by omega)
    have ih := lh_taken hj' (by omega) x
    have hs := lh_sum hj'
    have := h j (by omega)
    unfold okAt at this
    rw [take_nxt (getElem?_getD 0 (show j < o.length by omega)), List.mem_append, List.mem_singleton, ih, lh]
    split
    · simp only []; omega
    · rw [if_pos (by omega)]; simp only []; omega
theorem mem_drop_iff {o : List Int} (hn : o.Nodup) (j : Nat) {x : Int} : x ∈ o.drop j ↔ x ∈ o ∧ x ∉ o.take j := by
  have e : o.take j ++ o.drop j = o := List.take_append_drop j o
  have hd : ∀ y ∈ o.take j, ∀ z ∈ o.drop j, y ≠ z := by
    have := hn; rw [← e] at this; exact (List.nodup_append.mp this).2.2
  constructor
  · intro h
    exact ⟨List.mem_of_mem_drop h, fun h2 => hd x h2 x h rfl⟩
  · rintro ⟨h1, h2⟩
    rw [← e] at h1
    exact (List.mem_append.mp h1).resolve_left h2
theorem lh_left {o : List Int} (ho : IsOrd o) {j : Nat} (h : okTo o j) (hj : j < o.length) (x : Int) : x ∈ o.drop j ↔ (lh o j).1 ≤ x ∧ x ≤ (lh o j).2 := by
  have hs := lh_sum h
  rw [mem_drop_iff ho.nodup, lh_taken h (by omega), ho.mem]
  omega
theorem lh_min {o : List Int} (ho : IsOrd o) {j : Nat} (h : okTo o j) (hj : j < o.length) {m : Int} (h1 : m ∈ o.drop j) (h2 : ∀ x ∈ o.drop j, m ≤ x) : m = (lh o j).1 := by
  have hs := lh_sum h
  have a := (lh_left ho h hj m).mp h1
  have b := h2 _ ((lh_left ho h hj _).mpr ⟨Int.le_refl _, by omega⟩)
  omega
theorem lh_max {o : List Int} (ho : IsOrd o) {j : Nat} (h : okTo o j) (hj : j < o.length) {m : Int} (h1 : m ∈ o.drop j) (h2 : ∀ x ∈ o.drop j, x ≤ m) : m = (lh o j).2 := by
  have hs := lh_sum h
  have a := (lh_left ho h hj m).mp h1
  have b := h2 _ ((lh_left ho h hj _).mpr ⟨by omega, Int.le_refl _⟩)
  omega
def By2 (o : List Int) (b : Bool) (k : Int) : Prop := (b = true ∧ okTo o o.length ∧ k = o.getLastD 0) ∨ (b = false ∧ ∃ j, j < o.length ∧ okTo o j ∧ ¬ okAt o j ∧ k = (j : Int) + 1)
theorem last_getD {o : List Int} : o.getLastD 0 = o.getD (o.length - 1) 0 := by
  rw [List.getLastD_eq_getLast?, List.getLast?_eq_getElem?, List.getD_eq_getElem?_getD]
/-- a heap that leads there goes as low and high go -/
theorem leads_lh {o : List Int} {cut : Int} (h : ∀ j, j < o.length → o.getD j 0 = vals false true o cut j) : ∀ {i : Nat}, i < o.length → lh o i = ((zers o cut i : Int), (o.length : Int) - 1 - ones o cut i)
  | 0, _ => by simp [lh, zers, ones]
  | i + 1, hi => by
    have ih := leads_lh h (i := i) (by omega)
    have hv := h i (by omega)
    have hs := ones_zers (o := o) (cut := cut) (j := i) (by omega)
    rw [lh, ih]
    rw [zers_succ (by omega), ones_succ (by omega)]
    unfold vals at hv
    by_cases hc : cut ≤ o.getD i 0
    · rw [if_pos hc, if_pos rfl] at hv
      rw [if_neg (by simp only []; omega), if_pos (by simp only []; omega), if_pos hc, if_pos hc]
      refine Prod.ext ?_ ?_ <;> simp only [] <;> omega
    · rw [if_neg hc, if_neg (by simp)] at hv
      rw [if_pos (by simp only []; omega), if_neg hc, if_neg hc]
      refine Prod.ext ?_ ?_ <;> simp only [] <;> omega
theorem two_none {o : List Int} {j : Nat} (hj : j < o.length) (h : ¬ okAt o j) (cut : Int) : leadsB false true o cut = false := by
  refine leads_false fun ⟨_, _, hv⟩ => h ?_
  have e := leads_lh hv hj
  have hv := hv j hj
  unfold okAt
  rw [e]
  unfold vals at hv
  by_cases hc : cut ≤ o.getD j 0
  · rw [if_pos hc, if_pos rfl] at hv; exact .inr hv
  · rw [if_neg hc, if_neg (by simp)] at hv; exact .inl hv
theorem two_leads {o : List Int} (ho : IsOrd o) (h1 : 1 ≤ o.length) (h : okTo o o.length) : leadsB false true o (o.getLastD 0) = true := by
  rw [last_getD]
  have hm : o.getD (o.length - 1) 0 ∈ o := by
    rw [List.getD_eq_getElem?_getD, List.getElem?_eq_getElem (show o.length - 1 < o.length by omega)]; exact List.getElem_mem _
  have hb := ho.mem.mp hm
  have hlast : (lh o (o.length - 1)).1 = o.getD (o.length - 1) 0 ∧ (lh o (o.length - 1)).2 = o.getD (o.length - 1) 0 := by
    have hs := lh_sum (o := o) (j := o.length - 1) (fun i hi => h i (by omega))
    have := h (o.length - 1) (by omega)
    unfold okAt at this
    omega
  have key : ∀ j, j < o.length → lh o j = ((zers o (o.getD (o.length - 1) 0) j : Int), (o.length : Int) - 1 - ones o (o.getD (o.length - 1) 0) j) := by
    intro j
    induction j with
    | zero => intro _; simp [lh, zers, ones]
    | succ j ih =>
      intro hj
      have ih := ih (by omega)
      have ok := h j (by omega)
      have mono := lh_mono (o := o) (j + 1) (o.length - 1 - (j + 1))
      rw [show j + 1 + (o.length - 1 - (j + 1)) = o.length - 1 by omega, hlast.1, hlast.2] at mono
      unfold okAt at ok
      rw [zers_succ (by omega), ones_succ (by omega)]
      rw [lh] at mono ⊢
      by_cases hc : o.getD j 0 = (lh o j).1
      · rw [if_pos hc] at mono ⊢
        simp only [] at mono
        rw [if_neg (by omega), if_neg (by omega), ih]
        refine Prod.ext ?_ ?_ <;> simp only [] <;> omega
      · rw [if_neg hc, if_pos (by omega)] at mono ⊢
        simp only [] at mono
        rw [if_pos (by omega), if_pos (by omega), ih]
        refine Prod.ext ?_ ?_ <;> simp only [] <;> omega
  refine leads_iff.mpr ⟨by omega, by omega, fun j hj => ?_⟩
  have e := key j hj
  have ok := h j hj
  unfold okAt at ok
  unfold vals
  by_cases hl : j = o.length - 1
  · subst hl
    rw [if_pos (Int.le_refl _), if_pos rfl]
    have : (lh o (o.length - 1)).2 = (o.length : Int) - 1 - ones o (o.getD (o.length - 1) 0) (o.length - 1) := by rw [e]
    omega
  · have mono := lh_mono (o := o) (j + 1) (o.length - 1 - (j + 1))
    rw [show j + 1 + (o.length - 1 - (j + 1)) = o.length - 1 by omega, hlast.1, hlast.2, lh] at mono
    by_cases hc : o.getD j 0 = (lh o j).1
    · rw [if_pos hc] at mono
      simp only [] at mono
      rw [if_neg (by omega), if_neg (by simp), hc, e]
    · rw [if_neg hc, if_pos (by omega)] at mono
      simp only [] at mono
      rw [if_pos (by omega), if_pos rfl]
      have : (lh o j).2 = (o.length : Int) - 1 - ones o (o.getD (o.length - 1) 0) j := by rw [e]
      omega
theorem two_not {o : List Int} (ho : IsOrd o) (h1 : 1 ≤ o.length) : leadsB false true o (o.getLastD 0 - 1) = false := by
  rw [last_getD]
  refine leads_false fun ⟨h0, _, hv⟩ => ?_
  have hm : o.getD (o.length - 1) 0 ∈ o := by
    rw [List.getD_eq_getElem?_getD, List.getElem?_eq_getElem (show o.length - 1 < o.length by omega)]; exact List.getElem_mem _
  have hb := ho.mem.mp hm
  have hc : o.getD (o.length - 1) 0 - 1 ∈ o := ho.mem.mpr ⟨h0, by omega⟩
  obtain ⟨i, hi, he⟩ := List.mem_iff_getElem.mp hc
  have hi2 : o.getD i 0 = o.getD (o.length - 1) 0 - 1 := by rw [List.getD_eq_getElem?_getD, List.getElem?_eq_getElem hi]; exact he
  have v1 := hv i hi
  have v2 := hv (o.length - 1) (by omega)
  unfold vals at v1 v2
  rw [if_pos (by omega), if_pos rfl] at v1
  rw [if_pos (by omega), if_pos rfl] at v2
  have := ones_mono (o := o) (cut := o.getD (o.length - 1) 0 - 1) (show i ≤ o.length - 1 by omega) (by omega)
  omega
end Rc
namespace Rc
theorem cut_drop {o : List Int} {i : Nat} (h : i ≤ o.length) : cutL o (some (i : Int)) none = o.drop i := by
  rw [cut_hi (by omega) (by omega), Int.toNat_natCast]
theorem min_ok {o : List Int} {i : Nat} {m : Int} (ho : IsOrd o) (hok : okTo o i) (hi : i < o.length) (he : o.getD (Int.toNat (i : Int)) 0 = m) (h1 : m ∈ cutL o (some (i : Int)) none) (h2 : ∀ x ∈ cutL o (some (i : Int)) none, m ≤ x) : okAt o i := by
  rw [cut_drop (by omega)] at h1 h2
  rw [Int.toNat_natCast] at he
  exact .inl (he.trans (lh_min ho hok hi h1 h2))
theorem max_ok {o : List Int} {i : Nat} {m : Int} (ho : IsOrd o) (hok : okTo o i) (hi : i < o.length) (he : o.getD (Int.toNat (i : Int)) 0 = m) (h1 : m ∈ cutL o (some (i : Int)) none) (h2 : ∀ x ∈ cutL o (some (i : Int)) none, x ≤ m) : okAt o i := by
  rw [cut_drop (by omega)] at h1 h2
  rw [Int.toNat_natCast] at he
  exact .inr (he.trans (lh_max ho hok hi h1 h2))
theorem not_ok2 {o : List Int} {i : Nat} {m m' : Int} (ho : IsOrd o) (hok : okTo o i) (hi : i < o.length) (h2 : ∀ x ∈ cutL o (some (i : Int)) none, m ≤ x) (h1 : m ∈ cutL o (some (i : Int)) none) (hn : ¬ o.getD (Int.toNat (i : Int)) 0 = m)
    (h2' : ∀ x ∈ cutL o (some (i : Int)) none, x ≤ m') (h1' : m' ∈ cutL o (some (i : Int)) none) (hn' : ¬ o.getD (Int.toNat (i : Int)) 0 = m') : ¬ okAt o i := by
  rw [cut_drop (by omega)] at h1 h2 h1' h2'
  rw [Int.toNat_natCast] at hn hn'
  rw [lh_min ho hok hi h1 h2] at hn
  rw [lh_max ho hok hi h1' h2'] at hn'
  exact fun z => z.elim hn hn'
theorem isOrd_swap {o : List Int} {a b : Int} (ho : IsOrd o) (ha : 0 ≤ a ∧ a < o.length) (hb : 0 ≤ b ∧ b < o.length) : IsOrd ((o.set a.toNat (o.getD b.toNat 0)).set b.toNat (o.getD a.toNat 0)) := by
  have la : a.toNat < o.length := by omega
  have lb : b.toNat < o.length := by omega
  unfold IsOrd
  rw [List.length_set, List.length_set, List.getD_eq_getElem?_getD, List.getD_eq_getElem?_getD, List.getElem?_eq_getElem la, List.getElem?_eq_getElem lb]
  exact (List.set_set_perm la lb).trans ho
end Rc
namespace Rc
theorem filter_none {n : Nat} {f : Nat → Bool} {g : Nat → Int} (h : ∀ i, f i = false) : (List.map g (List.filter f (List.range n))).length = 0 := by
  rw [List.length_map, List.length_eq_zero_iff, List.filter_eq_nil_iff]
  intro i _; rw [h i]; simp
end Rc
namespace Rc
open PySem PySem.Spec PyProof.Rows L2
theorem by2_yes {o : List Int} {b : Bool} {k : Int} {v : V} (hby : By2 o b k) (hbr : (v = V.non ∧ okTo o o.length) ∨ (∃ j, j < o.length ∧ okTo o j ∧ ¬ okAt o j ∧ v = V.int ((j : Int) + 1))) (hn : v = V.non) : b = true ∧ okTo o o.length ∧ k = o.getLastD 0 := by
  rcases hby with h | ⟨_, j, h1, _, h3, _⟩
  · exact h
  · rcases hbr with ⟨_, h⟩ | ⟨j', _, _, _, h⟩
    · exact absurd (h j h1) h3
    · rw [hn] at h; cases h
theorem by2_no {o : List Int} {b : Bool} {k : Int} {v : V} (hby : By2 o b k) (hbr : (v = V.non ∧ okTo o o.length) ∨ (∃ j, j < o.length ∧ okTo o j ∧ ¬ okAt o j ∧ v = V.int ((j : Int) + 1))) (hn : ¬ v = V.non) : ∃ j, j < o.length ∧ ¬ okAt o j ∧ b = false ∧ k = (j : Int) + 1 ∧ v = V.int ((j : Int) + 1) := by
  rcases hbr with ⟨h, _⟩ | ⟨j, h1, h2, h3, h4⟩
  · exact absurd h hn
  · rcases hby with ⟨_, h, _⟩ | ⟨hb, j', g1, g2, g3, g4⟩
    · exact absurd (h j h1) h3
    · have e : j' = j := by
        rcases Nat.lt_trichotomy j' j with h | h | h
        · exact absurd (h2 j' h) g3
        · exact h
        · exact absurd (g2 j h) h3
      subst e
      exact ⟨j', h1, h3, hb, g4, h4⟩
theorem by2_sca {o : List Int} {b : Bool} {k : Int} {v : V} (h : ∃ j, j < o.length ∧ ¬ okAt o j ∧ b = false ∧ k = (j : Int) + 1 ∧ v = V.int ((j : Int) + 1)) : sca v = true := by
  obtain ⟨j, _, _, _, _, h⟩ := h
  subst h; rfl
end Rc
namespace Rc
/-! two riffles as one -/
def ltW (ms : List Bool) (w : List Int) (i j : Nat) : Prop := w.getD i 0 < w.getD j 0 ∨ (w.getD i 0 = w.getD j 0 ∧ if ms.getD (w.getD i 0).toNat false = true then j < i else i < j)
theorem cnt_mono {w : List Int} {i j : Nat} (hij : i < j) (hj : j < w.length) (he : w.getD i 0 = w.getD j 0) : cntI w i < cntI w j := by
  unfold cntI
  rw [he]
  have hi : i < w.length := by omega
  have e1 : w.take (i + 1) = w.take i ++ [w.getD j 0] := by rw [take_nxt (getElem?_getD 0 hi), he]
  have h2 : ((w.take (i + 1)).count (w.getD j 0)) ≤ (w.take j).count (w.getD j 0) := by
    have : (w.take (i + 1)).Sublist (w.take j) := (List.take_prefix_take_left (show i + 1 ≤ j by omega)).sublist
    exact this.count_le _
  have e2 : List.count (w.getD j 0) [w.getD j 0] = 1 := by simp
  rw [e1, List.count_append, e2] at h2
  omega
theorem num_lt_of {m : Nat} {ms : List Bool} {w : List Int} (hw : IsW m w) {i j : Nat} (hi : i < w.length) (hj : j < w.length) (h : ltW ms w i j) : numAt ms w i < numAt ms w j := by
  have ei := getElem?_getD (0 : Int) hi
  have ej := getElem?_getD (0 : Int) hj
  have bi := hw.at ei
  have bj := hw.at ej
  have ci := cnt_lt ei
  have cj := cnt_lt ej
  have ti : (((w.getD i 0).toNat : Nat) : Int) = w.getD i 0 := by omega
  have tj : (((w.getD j 0).toNat : Nat) : Int) = w.getD j 0 := by omega
  unfold numAt
  rcases h with h | ⟨he, h⟩
  · have s := startI_lt (w := w) (show (w.getD i 0).toNat < (w.getD j 0).toNat by omega)
    rw [ti] at s
    unfold topI cntI
    rw [ti, tj]
    split <;> split <;> omega
  · unfold topI
    rw [← he]
    split at h
    · rename_i hm
      rw [if_pos hm, if_pos hm]
      have := cnt_mono h hi he.symm
      omega
    · rename_i hm
      rw [if_neg hm, if_neg hm]
      have := cnt_mono h hj he
      omega
theorem ltW_tri (ms : List Bool) (w : List Int) {i j : Nat} (h : i ≠ j) : ltW ms w i j ∨ ltW ms w j i := by
  unfold ltW
  rcases Int.lt_trichotomy (w.getD i 0) (w.getD j 0) with h1 | h1 | h1
  · exact .inl (.inl h1)
  · rw [h1]
    by_cases hm : ms.getD (w.getD j 0).toNat false = true
    · rw [if_pos hm, if_pos hm]
      rcases Nat.lt_or_gt_of_ne h with h2 | h2
      · exact .inr (.inr ⟨rfl, h2⟩)
      · exact .inl (.inr ⟨rfl, h2⟩)
    · rw [if_neg hm, if_neg hm]
      rcases Nat.lt_or_gt_of_ne h with h2 | h2
      · exact .inl (.inr ⟨rfl, h2⟩)
      · exact .inr (.inr ⟨rfl, h2⟩)
  · exact .inr (.inl h1)
theorem num_lt {m : Nat} {ms : List Bool} {w : List Int} (hw : IsW m w) {i j : Nat} (hi : i < w.length) (hj : j < w.length) : numAt ms w i < numAt ms w j ↔ ltW ms w i j := by
  refine ⟨fun h => ?_, num_lt_of hw hi hj⟩
  by_cases e : i = j
  · subst e; omega
  · rcases ltW_tri ms w e with h1 | h1
    · exact h1
    · have := num_lt_of hw hj hi h1; omega
/-- an order is told by its comparisons -/
theorem ord_rank {p : List Int} (h : IsOrd p) {j : Nat} (hj : j < p.length) : p.getD j 0 = (((List.range p.length).filter fun k => decide (p.getD k 0 < p.getD j 0)).length : Int) := by
  have hb := h.bd (getElem?_getD 0 hj)
  have e0 : ∀ t : Int, ((List.range p.length).filter fun k => decide (p.getD k 0 < t)).length = (p.filter fun x => decide (x < t)).length := by
    intro t
    have e : p = (List.range p.length).map fun k => p.getD k 0 := by
      apply List.ext_getElem
      · simp
      · intro i h1 h2
        simp [List.getD_eq_getElem?_getD, List.getElem?_eq_getElem h1]
    have e2 : (p.filter fun x => decide (x < t)).length = (((List.range p.length).map fun k => p.getD k 0).filter fun x => decide (x < t)).length := congrArg (fun l => (l.filter fun x => decide (x < t)).length) e
    rw [e2, List.filter_map, List.length_map]; rfl
  have e1 := e0 (p.getD j 0)
  rw [e1, (h.filter _).length_eq]
  have key : ∀ (n : Nat) (t : Int), 0 ≤ t → t ≤ n → (((upto n).filter fun x => decide (x < t)).length : Int) = t := by
    intro n
    induction n with
    | zero => intro t h0 h1; show ((([] : List Int).length : Nat) : Int) = t; simp; omega
    | succ n ih =>
      intro t h0 h1
      rw [upto_succ, List.filter_append, List.length_append]
      by_cases ht : t ≤ n
      · have := ih t h0 ht
        have e0 : List.filter (fun x => decide (x < t)) [(n : Int)] = [] := by simp; omega
        rw [e0]; simpa using this
      · have := ih n (by omega) (by omega)
        have e0 : List.filter (fun x => decide (x < t)) [(n : Int)] = [(n : Int)] := by simp; omega
        have e2 : (upto n).filter (fun x => decide (x < t)) = (upto n).filter (fun x => decide (x < (n : Int))) := by
          apply List.filter_congr
          intro x hx
          have := mem_upto.mp hx
          rw [decide_eq_decide]; omega
        rw [e0, e2]
        simp only [List.length_cons, List.length_nil]
        omega
  exact (key p.length _ hb.1 (by omega)).symm
theorem ord_ext {p q : List Int} (hp : IsOrd p) (hq : IsOrd q) (hl : p.length = q.length) (h : ∀ i j, i < p.length → j < p.length → (p.getD i 0 < p.getD j 0 ↔ q.getD i 0 < q.getD j 0)) : p = q := by
  apply List.ext_getElem hl
  intro j h1 h2
  have e1 := ord_rank hp h1
  have e2 := ord_rank hq h2
  have e : ((List.range p.length).filter fun k => decide (p.getD k 0 < p.getD j 0)).length = ((List.range q.length).filter fun k => decide (q.getD k 0 < q.getD j 0)).length := by
    rw [← hl]
    congr 1
    apply List.filter_congr
    intro k hk
    rw [decide_eq_decide]
    exact h k j (List.mem_range.mp hk) h1
  have e3 : p.getD j 0 = q.getD j 0 := by rw [e1, e2, e]
  rwa [List.getD_eq_getElem?_getD, List.getD_eq_getElem?_getD, List.getElem?_eq_getElem h1, List.getElem?_eq_getElem h2] at e3
/-- the word of both -/
def bothAt (ms : List Bool) (w : List Int) (os : List Bool) (more : List Int) (j : Nat) : Int :=
  w.getD (numAt os more j).toNat 0 * (os.length : Int) + turnedI ms os (w.getD (numAt os more j).toNat 0) (more.getD j 0)
def bothTo (ms : List Bool) (w : List Int) (os : List Bool) (more : List Int) (n : Nat) : List Int := (List.range n).map (bothAt ms w os more)
def bothW (ms : List Bool) (w : List Int) (os : List Bool) (more : List Int) : List Int := bothTo ms w os more more.length
theorem bothTo_next (ms : List Bool) (w : List Int) (os : List Bool) (more : List Int) (n : Nat) : bothTo ms w os more n ++ [bothAt ms w os more n] = bothTo ms w os more (n + 1) := by
  unfold bothTo; rw [List.range_succ, List.map_append]; rfl
@[simp] theorem bothW_length (ms : List Bool) (w : List Int) (os : List Bool) (more : List Int) : (bothW ms w os more).length = more.length := by simp [bothW, bothTo]
theorem bothW_getD {ms : List Bool} {w : List Int} {os : List Bool} {more : List Int} {j : Nat} (h : j < more.length) : (bothW ms w os more).getD j 0 = bothAt ms w os more j := by
  rw [List.getD_eq_getElem?_getD]; simp [bothW, bothTo, h]
theorem joinedM_getD {ms os : List Bool} {h g : Nat} (hh : h < ms.length) (hg : g < os.length) : (joinedM ms os).getD (h * os.length + g) false = (ms.getD h false != os.getD (turnedI ms os h g).toNat false) := by
  have key : ∀ n, h < n → (joinedTo ms os n).getD (h * os.length + g) false = (ms.getD h false != os.getD (turnedI ms os h g).toNat false) := by
    intro n
    induction n with
    | zero => intro hn; omega
    | succ n ih =>
      intro hn
      rw [← joinedTo_next, List.getD_eq_getElem?_getD]
      by_cases e : h = n
      · subst e
        rw [List.getElem?_append_right (by rw [joinedTo_length]; omega), joinedTo_length, show h * os.length + g - h * os.length = g by omega]
        simp [joinedRow, hg]
      · have hlt : h * os.length + g < (joinedTo ms os n).length := by
          rw [joinedTo_length]
          have : (h + 1) * os.length ≤ n * os.length := Nat.mul_le_mul_right _ (by omega)
          rw [Nat.add_mul] at this; omega
        rw [List.getElem?_append_left hlt, ← List.getD_eq_getElem?_getD]
        exact ih (by omega)
  exact key ms.length hh
theorem turned_turned {ms os : List Bool} {h g : Int} (hg : 0 ≤ g ∧ g < os.length) : turnedI ms os h (turnedI ms os h g) = g := by
  unfold turnedI
  split <;> omega
theorem mul_lt_iff {h h' t t' G : Int} (ht : 0 ≤ t ∧ t < G) (ht' : 0 ≤ t' ∧ t' < G) : h * G + t < h' * G + t' ↔ h < h' ∨ (h = h' ∧ t < t') := by
  constructor
  · intro e
    rcases Int.lt_trichotomy h h' with h1 | h1 | h1
    · exact .inl h1
    · subst h1; exact .inr ⟨rfl, by omega⟩
    · exfalso
      have : (h' + 1) * G ≤ h * G := Int.mul_le_mul_of_nonneg_right (by omega) (by omega)
      rw [Int.add_mul] at this; omega
  · rintro (h1 | ⟨h1, h2⟩)
    · have : (h + 1) * G ≤ h' * G := Int.mul_le_mul_of_nonneg_right (by omega) (by omega)
      rw [Int.add_mul] at this; omega
    · subst h1; omega
theorem mul_eq_iff {h h' t t' G : Int} (ht : 0 ≤ t ∧ t < G) (ht' : 0 ≤ t' ∧ t' < G) : h * G + t = h' * G + t' ↔ h = h' ∧ t = t' := by
  constructor
  · intro e
    rcases Int.lt_trichotomy h h' with h1 | h1 | h1
    · have := (mul_lt_iff ht ht').mpr (.inl h1); omega
    · subst h1; exact ⟨rfl, by omega⟩
    · have := (mul_lt_iff ht' ht).mpr (.inl h1); omega
  · rintro ⟨h1, h2⟩; rw [h1, h2]
theorem toNat_mul_add {a c : Int} {G : Nat} (ha : 0 ≤ a) (hc : 0 ≤ c) : (a * (G : Int) + c).toNat = a.toNat * G + c.toNat := by
  obtain ⟨x, rfl⟩ := Int.eq_ofNat_of_zero_le ha
  obtain ⟨y, rfl⟩ := Int.eq_ofNat_of_zero_le hc
  have : (x : Int) * (G : Int) + (y : Int) = ((x * G + y : Nat) : Int) := by push_cast; rfl
  rw [this]; rfl
section
variable {ms os : List Bool} {w more : List Int}
theorem both_bd (hw : IsW ms.length w) (hm : IsW os.length more) (hl : w.length = more.length) {j : Nat} (hj : j < more.length) :
    (numAt os more j).toNat < w.length ∧ (((numAt os more j).toNat : Nat) : Int) = numAt os more j ∧ 0 ≤ w.getD (numAt os more j).toNat 0 ∧ w.getD (numAt os more j).toNat 0 < ms.length ∧ 0 ≤ more.getD j 0 ∧ more.getD j 0 < os.length := by
  have b := numAt_bd (ms := os) hm hj
  have h1 : (numAt os more j).toNat < w.length := by omega
  have b1 := hw.at (getElem?_getD (0 : Int) h1)
  have b2 := hm.at (getElem?_getD (0 : Int) hj)
  exact ⟨h1, by omega, b1.1, b1.2, b2.1, b2.2⟩
theorem bothW_isW (hw : IsW ms.length w) (hm : IsW os.length more) (hl : w.length = more.length) : IsW (joinedM ms os).length (bothW ms w os more) := fun x hx => by
  obtain ⟨j, hj, rfl⟩ := List.mem_map.mp hx
  have b := both_bd hw hm hl (List.mem_range.mp hj)
  have t := turnedI_bd ms os (w.getD (numAt os more j).toNat 0) (more.getD j 0) b.2.2.2.2.1 b.2.2.2.2.2
  rw [joinedM_length]
  unfold bothAt
  have h1 : 0 ≤ w.getD (numAt os more j).toNat 0 * (os.length : Int) := Int.mul_nonneg b.2.2.1 (by omega)
  have h2 : (w.getD (numAt os more j).toNat 0 + 1) * (os.length : Int) ≤ (ms.length : Int) * os.length := Int.mul_le_mul_of_nonneg_right (by omega) (by omega)
  rw [Int.add_mul] at h2
  push_cast
  omega
theorem both_mark (hw : IsW ms.length w) (hm : IsW os.length more) (hl : w.length = more.length) {j : Nat} (hj : j < more.length) :
    (joinedM ms os).getD ((bothW ms w os more).getD j 0).toNat false = (ms.getD (w.getD (numAt os more j).toNat 0).toNat false != os.getD (more.getD j 0).toNat false) := by
  have b := both_bd hw hm hl hj
  have t := turnedI_bd ms os (w.getD (numAt os more j).toNat 0) (more.getD j 0) b.2.2.2.2.1 b.2.2.2.2.2
  rw [bothW_getD hj]
  unfold bothAt
  rw [toNat_mul_add b.2.2.1 t.1, joinedM_getD (by omega) (by omega)]
  congr 2
  rw [show (((w.getD (numAt os more j).toNat 0).toNat : Nat) : Int) = w.getD (numAt os more j).toNat 0 by omega, show (((turnedI ms os (w.getD (numAt os more j).toNat 0) (more.getD j 0)).toNat : Nat) : Int) = turnedI ms os (w.getD (numAt os more j).toNat 0) (more.getD j 0) by omega, turned_turned ⟨b.2.2.2.2.1, b.2.2.2.2.2⟩]
theorem both_lt (hw : IsW ms.length w) (hm : IsW os.length more) (hl : w.length = more.length) {i j : Nat} (hi : i < more.length) (hj : j < more.length) :
    ltW (joinedM ms os) (bothW ms w os more) i j ↔ ltW ms w (numAt os more i).toNat (numAt os more j).toNat := by
  have bi := both_bd hw hm hl hi
  have bj := both_bd hw hm hl hj
  have ti := turnedI_bd ms os (w.getD (numAt os more i).toNat 0) (more.getD i 0) bi.2.2.2.2.1 bi.2.2.2.2.2
  have tj := turnedI_bd ms os (w.getD (numAt os more j).toNat 0) (more.getD j 0) bj.2.2.2.2.1 bj.2.2.2.2.2
  have mk := both_mark hw hm hl hi
  have nlt := num_lt (ms := os) hm hi hj
  have ngt := num_lt (ms := os) hm hj hi
  unfold ltW at *
  rw [mk, bothW_getD hi, bothW_getD hj]
  unfold bothAt
  rw [mul_lt_iff ti tj, mul_eq_iff ti tj]
  generalize hA : w.getD (numAt os more i).toNat 0 = A at *
  generalize hB : w.getD (numAt os more j).toNat 0 = B at *
  by_cases hAB : A = B
  · subst hAB
    have e1 : (numAt os more i).toNat < (numAt os more j).toNat ↔ numAt os more i < numAt os more j := by omega
    have e2 : (numAt os more j).toNat < (numAt os more i).toNat ↔ numAt os more j < numAt os more i := by omega
    rw [e1, e2, nlt, ngt]
    unfold turnedI
    by_cases hms : ms.getD A.toNat false = true
    · rw [hms]
      simp only [if_true, if_pos]
      by_cases ht : more.getD i 0 = more.getD j 0
      · rw [ht]
        cases hos : os.getD (more.getD j 0).toNat false <;> simp <;> omega
      · have ht2 : ¬ more.getD j 0 = more.getD i 0 := fun z => ht z.symm
        constructor
        · rintro ((h | ⟨_, h⟩) | ⟨⟨_, h⟩, _⟩)
          · omega
          · exact .inr ⟨trivial, .inl (by omega)⟩
          · omega
        · rintro (h | ⟨_, h | ⟨h, _⟩⟩)
          · omega
          · exact .inl (.inr ⟨trivial, by omega⟩)
          · omega
    · have hms : ms.getD A.toNat false = false := by simpa using hms
      rw [hms]
      by_cases ht : more.getD i 0 = more.getD j 0
      · rw [ht]
        cases hos : os.getD (more.getD j 0).toNat false <;> simp <;> omega
      · have ht2 : ¬ more.getD j 0 = more.getD i 0 := fun z => ht z.symm
        simp [ht]
  · simp [hAB]
theorem riffle_joined {o : List Int} (hw : IsW ms.length w) (hm : IsW os.length more) (hl : w.length = more.length) (hlo : w.length = o.length) :
    riffleI o (joinedM ms os) (bothW ms w os more) = riffleI (riffleI o ms w) os more := by
  have hbw := bothW_isW hw hm hl
  unfold riffleI
  rw [laidI_assoc (ord_bd (isOrd_numI os hm) (by simp [hl]))]
  congr 1
  have hlen : (numI os more).length = (numI ms w).length := by simp [hl]
  refine ord_ext (isOrd_numI _ hbw) (isOrd_laidI (isOrd_numI ms hw) (isOrd_numI os hm) hlen.symm) (by simp [laidI]) fun i j hi hj => ?_
  have hi' : i < more.length := by simpa using hi
  have hj' : j < more.length := by simpa using hj
  have g1 : ∀ k, k < more.length → (numI (joinedM ms os) (bothW ms w os more)).getD k 0 = numAt (joinedM ms os) (bothW ms w os more) k := by
    intro k hk
    rw [List.getD_eq_getElem?_getD]; simp [numI, hk]
  have g2 : ∀ k, k < more.length → (laidI (numI ms w) (numI os more)).getD k 0 = numAt ms w (numAt os more k).toNat := by
    intro k hk
    have b := both_bd hw hm hl hk
    rw [List.getD_eq_getElem?_getD]
    simp [laidI, numI, hk, b.1, List.getD_eq_getElem?_getD]
  rw [g1 i hi', g1 j hj', g2 i hi', g2 j hj', num_lt hbw (by simpa using hi') (by simpa using hj'), both_lt hw hm hl hi' hj', num_lt hw (both_bd hw hm hl hi').1 (both_bd hw hm hl hj').1]
end
end Rc
namespace Rc
def cellI (s : List Int) (k : Int) : Int := if k < (s.length : Int) then s.getD (Int.toNat k) 0 else 0
theorem pick2 (a b c : Int) : ([a, b] : List Int).getD (Int.toNat (min 1 (c % 8))) 0 = a ∨ ([a, b] : List Int).getD (Int.toNat (min 1 (c % 8))) 0 = b := by
  have h0 := Int.emod_nonneg c (show (8 : Int) ≠ 0 by decide)
  rcases (show min 1 (c % 8) = 0 ∨ min 1 (c % 8) = 1 by omega) with h | h
  · rw [h]; exact .inl rfl
  · rw [h]; exact .inr rfl
theorem ahead_eq {os : List Bool} {more : List Int} {n : Nat} {i : Nat} {y : Int} (hm : IsW os.length more) (hl : more.length = n) (e : (riffleI (upto n) os more)[i]? = some y) : y = numAt os more i ∧ i < more.length := by
  rw [riff_first hm hl] at e
  have hi : i < more.length := by
    have := (List.getElem?_eq_some_iff.mp e).1
    simpa using this
  rw [numI, List.getElem?_map, List.getElem?_range hi] at e
  exact ⟨(Option.some.inj e).symm, hi⟩
theorem bothTo_step {ms os : List Bool} {w more : List Int} {i : Nat} {y z : Int} (h1 : y = numAt os more i) (h2 : more[i]? = some z) :
    bothTo ms w os more i ++ [w.getD (Int.toNat y) 0 * (os.length : Int) + turnedI ms os (w.getD (Int.toNat y) 0) z] = bothTo ms w os more (i + 1) := by
  rw [← bothTo_next]
  unfold bothAt
  rw [h1, getD_of h2]
end Rc
namespace Rc
/-- the later word of a joined one; the earlier one -/
def partAt (ms os : List Bool) (x : Int) : Int := turnedI ms os (x / (os.length : Int)) (x % (os.length : Int))
def partM (ms os : List Bool) (w : List Int) : List Int := w.map (partAt ms os)
def heapsW (os : List Bool) (w : List Int) : List Int := w.map fun x => x / (os.length : Int)
def partE (ms os : List Bool) (w : List Int) : List Int := undoneI (heapsW os w) os (partM ms os w)
section
variable {ms os : List Bool} {w more : List Int}
@[simp] theorem partM_length : (partM ms os w).length = w.length := by simp [partM]
@[simp] theorem heapsW_length : (heapsW os w).length = w.length := by simp [heapsW]
@[simp] theorem partE_length : (partE ms os w).length = w.length := by simp [partE]
theorem os_pos (hm : IsW os.length more) (h : 0 < more.length) : 0 < os.length := by
  cases more with
  | nil => simp at h
  | cons x l => have := hm x List.mem_cons_self; omega
theorem split_bd {G x : Int} {M : Nat} (hG : 0 < G) (h0 : 0 ≤ x) (h1 : x < (M : Int) * G) : 0 ≤ x / G ∧ x / G < M ∧ 0 ≤ x % G ∧ x % G < G :=
  ⟨Int.ediv_nonneg h0 (by omega), Int.ediv_lt_of_lt_mul hG h1, Int.emod_nonneg _ (by omega), Int.emod_lt_of_pos _ hG⟩
theorem joined_len_of (hw : IsW (joinedM ms os).length w) (h : 0 < w.length) : 0 < os.length := by
  cases w with
  | nil => simp at h
  | cons x l =>
    have := hw x List.mem_cons_self
    have e : (joinedM ms os).length = ms.length * os.length := by unfold joinedM; rw [joinedTo_length]
    rw [e] at this
    by_cases hz : os.length = 0
    · rw [hz, Nat.mul_zero] at this; omega
    · omega
theorem part_bd (hw : IsW (joinedM ms os).length w) {x : Int} (hx : x ∈ w) : 0 ≤ x / (os.length : Int) ∧ x / (os.length : Int) < ms.length ∧ 0 ≤ x % (os.length : Int) ∧ x % (os.length : Int) < os.length := by
  have hp : 0 < os.length := joined_len_of hw (List.length_pos_of_mem hx)
  have := hw x hx
  have e : (joinedM ms os).length = ms.length * os.length := by unfold joinedM; rw [joinedTo_length]
  rw [e] at this
  push_cast at this
  exact split_bd (by omega) this.1 this.2
theorem partM_isW (hw : IsW (joinedM ms os).length w) : IsW os.length (partM ms os w) := fun y hy => by
  obtain ⟨x, hx, rfl⟩ := List.mem_map.mp hy
  have b := part_bd hw hx
  exact turnedI_bd _ _ _ _ b.2.2.1 b.2.2.2
theorem heapsW_isW (hw : IsW (joinedM ms os).length w) : IsW ms.length (heapsW os w) := fun y hy => by
  obtain ⟨x, hx, rfl⟩ := List.mem_map.mp hy
  have b := part_bd hw hx
  exact ⟨b.1, b.2.1⟩
theorem isW_laid {m : Nat} {a p : List Int} (ha : IsW m a) (hp : ∀ x ∈ p, 0 ≤ x ∧ x < (a.length : Int)) : IsW m (laidI a p) := fun y hy => by
  obtain ⟨x, hx, rfl⟩ := List.mem_map.mp hy
  have := hp x hx
  exact ha.at (getElem?_getD (0 : Int) (show x.toNat < a.length by omega))
theorem partE_isW (hw : IsW (joinedM ms os).length w) : IsW ms.length (partE ms os w) := by
  have ho : IsOrd (placesI (numI os (partM ms os w))) := isOrd_placesI (isOrd_numI os (partM_isW hw))
  refine isW_laid (heapsW_isW hw) (ord_bd ho ?_)
  simp
theorem riff_both (h : j < more.length) : (riffleI w os more).getD j 0 = w.getD (numAt os more j).toNat 0 := by
  unfold riffleI laidI numI
  rw [List.getD_eq_getElem?_getD]; simp [h]
theorem list_ext {a b : List Int} (hl : a.length = b.length) (h : ∀ i, i < a.length → a.getD i 0 = b.getD i 0) : a = b := by
  apply List.ext_getElem hl
  intro i h1 h2
  have := h i h1
  rw [List.getD_eq_getElem?_getD, List.getD_eq_getElem?_getD, List.getElem?_eq_getElem h1, List.getElem?_eq_getElem h2] at this
  exact this
theorem map_getD {f : Int → Int} {a : List Int} {i : Nat} (h : i < a.length) : (a.map f).getD i 0 = f (a.getD i 0) := by
  rw [List.getD_eq_getElem?_getD, List.getD_eq_getElem?_getD, List.getElem?_map, List.getElem?_eq_getElem h]; rfl
theorem both_split (hw : IsW ms.length w) (hm : IsW os.length more) (hl : w.length = more.length) {j : Nat} (hj : j < more.length) :
    bothAt ms w os more j / (os.length : Int) = w.getD (numAt os more j).toNat 0 ∧ bothAt ms w os more j % (os.length : Int) = turnedI ms os (w.getD (numAt os more j).toNat 0) (more.getD j 0) := by
  have b := both_bd hw hm hl hj
  have t := turnedI_bd ms os (w.getD (numAt os more j).toNat 0) (more.getD j 0) b.2.2.2.2.1 b.2.2.2.2.2
  unfold bothAt
  have hG : (0 : Int) < os.length := by omega
  rw [Int.add_comm]
  refine ⟨?_, ?_⟩
  · rw [Int.add_mul_ediv_right _ _ (by omega), Int.ediv_eq_zero_of_lt t.1 t.2]; omega
  · rw [Int.add_mul_emod_self_right, Int.emod_eq_of_lt t.1 t.2]
/-- parted behind joined -/
theorem partM_both (hw : IsW ms.length w) (hm : IsW os.length more) (hl : w.length = more.length) : partM ms os (bothW ms w os more) = more := by
  refine list_ext (by simp) fun j hj => ?_
  have hj' : j < more.length := by simpa using hj
  unfold partM
  rw [map_getD (by simpa using hj'), bothW_getD hj']
  unfold partAt
  have s := both_split hw hm hl hj'
  have b := both_bd hw hm hl hj'
  rw [s.1, s.2, turned_turned ⟨b.2.2.2.2.1, b.2.2.2.2.2⟩]
theorem heapsW_both (hw : IsW ms.length w) (hm : IsW os.length more) (hl : w.length = more.length) : heapsW os (bothW ms w os more) = riffleI w os more := by
  refine list_ext (by simp) fun j hj => ?_
  have hj' : j < more.length := by simpa using hj
  unfold heapsW
  rw [map_getD (by simpa using hj'), bothW_getD hj', (both_split hw hm hl hj').1, riff_both hj']
theorem partE_both (hw : IsW ms.length w) (hm : IsW os.length more) (hl : w.length = more.length) : partE ms os (bothW ms w os more) = w := by
  unfold partE
  rw [partM_both hw hm hl, heapsW_both hw hm hl]
  exact undone_riffle hm hl
/-- joined behind parted -/
theorem both_part (hw : IsW (joinedM ms os).length w) : bothW ms (partE ms os w) os (partM ms os w) = w := by
  refine list_ext (by simp) fun j hj => ?_
  have hj' : j < (partM ms os w).length := by simpa using hj
  have hjw : j < w.length := by simpa using hj
  rw [bothW_getD hj']
  unfold bothAt
  rw [← riff_both hj']
  have e : riffleI (partE ms os w) os (partM ms os w) = heapsW os w := riffle_undone (partM_isW hw) (by simp)
  rw [e]
  have hx := List.mem_of_getElem? (getElem?_getD (0 : Int) hjw)
  have b := part_bd hw hx
  have e1 : (heapsW os w).getD j 0 = w.getD j 0 / (os.length : Int) := by unfold heapsW; rw [map_getD hjw]
  have e2 : (partM ms os w).getD j 0 = partAt ms os (w.getD j 0) := by unfold partM; rw [map_getD hjw]
  rw [e1, e2]
  unfold partAt
  rw [turned_turned ⟨b.2.2.1, b.2.2.2⟩]
  have := Int.mul_ediv_add_emod (w.getD j 0) (os.length : Int)
  rw [Int.mul_comm] at this
  exact this
end
/-- one turn of the loops -/
theorem partM_next {ms os : List Bool} {w : List Int} {i : Nat} {x : Int} (e : w[i]? = some x) : (w.take i).map (partAt ms os) ++ [turnedI ms os (x / (os.length : Int)) (x % (os.length : Int))] = (w.take (i + 1)).map (partAt ms os) := by
  rw [take_nxt e, List.map_append]; rfl
theorem partE_zero {ms os : List Bool} {w : List Int} : List.replicate w.length (0 : Int) = undoTo (heapsW os w) (numI os (partM ms os w)) 0 := by
  rw [← undoTo_zero]; unfold heapsW; rw [List.map_map]; exact (List.map_const' ..).symm
theorem partE_next {ms os : List Bool} {w : List Int} {i : Nat} {x y : Int} (hw : IsW (joinedM ms os).length w) (e : w[i]? = some x) (e2 : (numI os (partM ms os w))[i]? = some y) :
    (undoTo (heapsW os w) (numI os (partM ms os w)) i).set y.toNat (x / (os.length : Int)) = undoTo (heapsW os w) (numI os (partM ms os w)) (i + 1) :=
  undoTo_next (isOrd_numI os (partM_isW hw)) (by simp) (by unfold heapsW; rw [List.getElem?_map, e]; rfl) e2
theorem partE_all {ms os : List Bool} {w : List Int} {n : Nat} (hw : IsW (joinedM ms os).length w) (hn : n = w.length) : undoTo (heapsW os w) (numI os (partM ms os w)) n = partE ms os w := by
  have := undoTo_all (o := heapsW os w) (isOrd_numI os (partM_isW hw)) (by simp)
  subst hn
  rw [show min (heapsW os w).length (numI os (partM ms os w)).length = w.length by simp] at this
  exact this
theorem riff_num {os : List Bool} {m : List Int} {n : Nat} (hm : IsW os.length m) (hl : m.length = n) : riffleI (upto n) os m = numI os m := riff_first hm hl
theorem joinedM_len (ms os : List Bool) : (joinedM ms os).length = ms.length * os.length := by unfold joinedM; rw [joinedTo_length]
end Rc
namespace Rc
open PySem PySem.Spec PyProof.Rows L2 Evl

local macro_rules | `(tactic| walk_at "sca") => `(tactic| first | assumption | exact Sca.ints _ | exact Sca.bls _ | rfl | decide | (simp_all; done))
local macro_rules | `(tactic| walk_at "side") => `(tactic| first | omega | assumption | (simp only [List.length_map, List.length_range, List.length_append, List.length_cons, List.length_nil, cutL_length]; omega) | (simp only [List.length_map, List.length_range, List.length_append, List.length_cons, List.length_nil] at *; omega) | (simp at *; omega))
local macro_rules | `(tactic| walk_at "size") => `(tactic| first | (refine Evl.sz_lt ?_; simp only [List.length_map, List.length_range, List.length_append, List.length_cons, List.length_nil, cutL_length, List.length_set, List.length_replicate, List.length_reverse]; omega) | (refine Evl.sz_of ?_; simp only [List.length_map, List.length_range, List.length_append, List.length_cons, List.length_nil, cutL_length, List.length_set, List.length_replicate, List.length_reverse]; omega) | (refine Evl.sz_lt ?_; simp; omega) | (refine Evl.sz_of ?_; simp; omega))
local macro_rules | `(tactic| walk_at "tsize") => `(tactic| (refine Evl.sz_lt ?_; simp only [List.length_map, List.length_append, List.length_cons, List.length_nil]; first | omega | (rw [snd_len (by assumption)]; omega)))
local macro_rules | `(tactic| walk_at "csize") => `(tactic| first | (refine Evl.sz_lt ?_; simp only [List.length_map, List.length_take, List.length_range]; omega) | (refine Evl.sz_lt ?_; simp only [List.length_map]; refine Nat.lt_of_le_of_lt (List.length_filter_le _ _) ?_; simp only [List.length_take, List.length_range]; omega))
local macro_rules | `(tactic| walk_at "inv") => `(tactic| first | omega | assumption | rfl | (simp only [List.length_append, List.length_cons, List.length_nil, List.length_set]; omega) | (simp; omega) | simp_all)
local macro_rules | `(tactic| walk_at "post") => `(tactic| first | rfl | assumption | omega | (simp_all; done) | (simp_all; omega))
local macro_rules | `(tactic| walk_at "mul") => `(tactic| first | exact .inl (by omega) | exact .inr (by omega))
local macro_rules | `(tactic| walk_at "div") => `(tactic| exact ⟨by omega, by omega⟩)
local macro_rules | `(tactic| walk_at "widediv") => `(tactic| first | exact ⟨by omega, wl_of (by omega) (by omega)⟩)
local macro_rules | `(tactic| walk_at "rgok") => `(tactic| exact ⟨by omega, by omega, by omega, by omega, by omega⟩)
local macro_rules | `(tactic| walk_at "rgc") => `(tactic| omega)
local macro_rules | `(tactic| walk_at "comp") => `(tactic| first | (simp_all; done) | (simp_all; omega) | grind)
def topS (i : Nat) : Stmt := PySem.Challenge.pw_riftcarry_k33_parted_again.main.body.getD i (.Pass ⟨0, 0, 0, 0⟩)
abbrev s_law_mixed : Stmt := topS 27
abbrev s_law_marks : Stmt := topS 29
abbrev s_law_word : Stmt := topS 30
abbrev s_law_cell_at : Stmt := topS 26
abbrev s_law_bad : Stmt := topS 35
abbrev s_is_whole : Stmt := topS 10
abbrev s_is_word : Stmt := topS 14
abbrev s_check : Stmt := topS 22
abbrev s_turned_about : Stmt := topS 20
abbrev s_joined_marks : Stmt := topS 21
abbrev s_must_be_word : Stmt := topS 15
abbrev s_sizes : Stmt := topS 16
abbrev s_numbers_in : Stmt := topS 17
abbrev s_riffled : Stmt := topS 18
abbrev s_first : Stmt := topS 12
abbrev s_parted : Stmt := topS 24
abbrev s_joined : Stmt := topS 23
abbrev s_law_refused : Stmt := topS 36
abbrev s_law_all_refused : Stmt := topS 37
abbrev s_law_two : Stmt := topS 32
abbrev s_law_there_and_back : Stmt := topS 33
abbrev s_law_back_and_there : Stmt := topS 34
abbrev s_law : Stmt := topS 38
structure Txt (K : PySem.W.Frag) (mg : Str → Option Value) where
  f_law_mixed : Addr
  fd_law_mixed : FuncData
  F_law_mixed : Fun K "_law_mixed" "_law_mixed" s_law_mixed f_law_mixed fd_law_mixed
  g_law_mixed : mg "_law_mixed" = some (.ref f_law_mixed)
  b_law_mixed : Binds K fd_law_mixed ["_law_cell", "_law_k"] []
  f_law_marks : Addr
  fd_law_marks : FuncData
  F_law_marks : Fun K "_law_marks" "_law_marks" s_law_marks f_law_marks fd_law_marks
  g_law_marks : mg "_law_marks" = some (.ref f_law_marks)
  b_law_marks : Binds K fd_law_marks ["_law_cell", "_law_most"] []
  f_law_word : Addr
  fd_law_word : FuncData
  F_law_word : Fun K "_law_word" "_law_word" s_law_word f_law_word fd_law_word
  g_law_word : mg "_law_word" = some (.ref f_law_word)
  b_law_word : Binds K fd_law_word ["_law_cell", "_law_heaps", "_law_n"] []
  f_law_cell_at : Addr
  fd_law_cell_at : FuncData
  F_law_cell_at : Fun K "_law_cell_at" "_law_cell_at" s_law_cell_at f_law_cell_at fd_law_cell_at
  g_law_cell_at : mg "_law_cell_at" = some (.ref f_law_cell_at)
  b_law_cell_at : Binds K fd_law_cell_at ["_law_script", "_law_k"] []
  f_law_bad : Addr
  fd_law_bad : FuncData
  F_law_bad : Fun K "_law_bad" "_law_bad" s_law_bad f_law_bad fd_law_bad
  g_law_bad : mg "_law_bad" = some (.ref f_law_bad)
  b_law_bad : Binds K fd_law_bad ["_law_word_here", "_law_heaps", "_law_cell"] []
  f_is_whole : Addr
  fd_is_whole : FuncData
  F_is_whole : Fun K "is_whole" "is_whole" s_is_whole f_is_whole fd_is_whole
  g_is_whole : mg "is_whole" = some (.ref f_is_whole)
  b_is_whole : Binds K fd_is_whole ["thing"] []
  f_is_word : Addr
  fd_is_word : FuncData
  F_is_word : Fun K "is_word" "is_word" s_is_word f_is_word fd_is_word
  g_is_word : mg "is_word" = some (.ref f_is_word)
  b_is_word : Binds K fd_is_word ["marks", "word", "n"] []
  f_check : Addr
  fd_check : FuncData
  F_check : Fun K "check" "check" s_check f_check fd_check
  g_check : mg "check" = some (.ref f_check)
  b_check : Binds K fd_check ["marks", "word", "n"] []
  f_turned_about : Addr
  fd_turned_about : FuncData
  F_turned_about : Fun K "turned_about" "turned_about" s_turned_about f_turned_about fd_turned_about
  g_turned_about : mg "turned_about" = some (.ref f_turned_about)
  b_turned_about : Binds K fd_turned_about ["marks", "others", "heap", "other"] []
  f_joined_marks : Addr
  fd_joined_marks : FuncData
  F_joined_marks : Fun K "joined_marks" "joined_marks" s_joined_marks f_joined_marks fd_joined_marks
  g_joined_marks : mg "joined_marks" = some (.ref f_joined_marks)
  b_joined_marks : Binds K fd_joined_marks ["marks", "others"] []
  f_must_be_word : Addr
  fd_must_be_word : FuncData
  F_must_be_word : Fun K "must_be_word" "must_be_word" s_must_be_word f_must_be_word fd_must_be_word
  g_must_be_word : mg "must_be_word" = some (.ref f_must_be_word)
  b_must_be_word : Binds K fd_must_be_word ["marks", "word", "n"] []
  f_sizes : Addr
  fd_sizes : FuncData
  F_sizes : Fun K "sizes" "sizes" s_sizes f_sizes fd_sizes
  g_sizes : mg "sizes" = some (.ref f_sizes)
  b_sizes : Binds K fd_sizes ["marks", "word"] []
  f_numbers_in : Addr
  fd_numbers_in : FuncData
  F_numbers_in : Fun K "numbers_in" "numbers_in" s_numbers_in f_numbers_in fd_numbers_in
  g_numbers_in : mg "numbers_in" = some (.ref f_numbers_in)
  b_numbers_in : Binds K fd_numbers_in ["marks", "word"] []
  f_riffled : Addr
  fd_riffled : FuncData
  F_riffled : Fun K "riffled" "riffled" s_riffled f_riffled fd_riffled
  g_riffled : mg "riffled" = some (.ref f_riffled)
  b_riffled : Binds K fd_riffled ["order", "marks", "word"] []
  f_first : Addr
  fd_first : FuncData
  F_first : Fun K "first" "first" s_first f_first fd_first
  g_first : mg "first" = some (.ref f_first)
  b_first : Binds K fd_first ["n"] []
  f_parted : Addr
  fd_parted : FuncData
  F_parted : Fun K "parted" "parted" s_parted f_parted fd_parted
  g_parted : mg "parted" = some (.ref f_parted)
  b_parted : Binds K fd_parted ["marks", "others", "word"] []
  f_joined : Addr
  fd_joined : FuncData
  F_joined : Fun K "joined" "joined" s_joined f_joined fd_joined
  g_joined : mg "joined" = some (.ref f_joined)
  b_joined : Binds K fd_joined ["marks", "word", "others", "more"] []
  f_law_refused : Addr
  fd_law_refused : FuncData
  F_law_refused : Fun K "_law_refused" "_law_refused" s_law_refused f_law_refused fd_law_refused
  g_law_refused : mg "_law_refused" = some (.ref f_law_refused)
  b_law_refused : Binds K fd_law_refused ["_law_marks_here", "_law_word_here", "_law_others", "_law_more", "_law_apart"] []
  f_law_all_refused : Addr
  fd_law_all_refused : FuncData
  F_law_all_refused : Fun K "_law_all_refused" "_law_all_refused" s_law_all_refused f_law_all_refused fd_law_all_refused
  g_law_all_refused : mg "_law_all_refused" = some (.ref f_law_all_refused)
  b_law_all_refused : Binds K fd_law_all_refused ["_law_marks_here", "_law_word_here", "_law_others", "_law_more", "_law_whole", "_law_cell"] []
  f_law_two : Addr
  fd_law_two : FuncData
  F_law_two : Fun K "_law_two" "_law_two" s_law_two f_law_two fd_law_two
  g_law_two : mg "_law_two" = some (.ref f_law_two)
  b_law_two : Binds K fd_law_two ["_law_said", "_law_word_here", "_law_more"] []
  f_law_there_and_back : Addr
  fd_law_there_and_back : FuncData
  F_law_there_and_back : Fun K "_law_there_and_back" "_law_there_and_back" s_law_there_and_back f_law_there_and_back fd_law_there_and_back
  g_law_there_and_back : mg "_law_there_and_back" = some (.ref f_law_there_and_back)
  b_law_there_and_back : Binds K fd_law_there_and_back ["_law_marks_here", "_law_word_here", "_law_others", "_law_more"] []
  f_law_back_and_there : Addr
  fd_law_back_and_there : FuncData
  F_law_back_and_there : Fun K "_law_back_and_there" "_law_back_and_there" s_law_back_and_there f_law_back_and_there fd_law_back_and_there
  g_law_back_and_there : mg "_law_back_and_there" = some (.ref f_law_back_and_there)
  b_law_back_and_there : Binds K fd_law_back_and_there ["_law_marks_here", "_law_others", "_law_word_here"] []
  f_law : Addr
  fd_law : FuncData
  F_law : Fun K "law" "law" s_law f_law fd_law
  g_law : mg "law" = some (.ref f_law)
  b_law : Binds K fd_law ["_law_script"] []
  C_RiftError : Addr
  X_RiftError : ExcT K mg "RiftError" C_RiftError
  C_NoPack : Addr
  X_NoPack : ExcT K mg "NoPack" C_NoPack
  C_NoMarks : Addr
  X_NoMarks : ExcT K mg "NoMarks" C_NoMarks
  C_NoRiffle : Addr
  X_NoRiffle : ExcT K mg "NoRiffle" C_NoRiffle
  C_NoWay : Addr
  X_NoWay : ExcT K mg "NoWay" C_NoWay
  C_TooMany : Addr
  X_TooMany : ExcT K mg "TooMany" C_TooMany
  C_NoFigures : Addr
  X_NoFigures : ExcT K mg "NoFigures" C_NoFigures
  C_NoText : Addr
  X_NoText : ExcT K mg "NoText" C_NoText
  S_NoRiffle_NoFigures : PySem.W.subIn K (.ref C_NoRiffle) (.ref C_NoFigures) = some false
  N_NoRiffle_NoFigures : C_NoRiffle ≠ C_NoFigures
  S_NoRiffle_NoMarks : PySem.W.subIn K (.ref C_NoRiffle) (.ref C_NoMarks) = some false
  N_NoRiffle_NoMarks : C_NoRiffle ≠ C_NoMarks
  S_NoRiffle_NoPack : PySem.W.subIn K (.ref C_NoRiffle) (.ref C_NoPack) = some false
  N_NoRiffle_NoPack : C_NoRiffle ≠ C_NoPack
  S_NoRiffle_NoRiffle : PySem.W.subIn K (.ref C_NoRiffle) (.ref C_NoRiffle) = some true
  S_NoRiffle_NoText : PySem.W.subIn K (.ref C_NoRiffle) (.ref C_NoText) = some false
  N_NoRiffle_NoText : C_NoRiffle ≠ C_NoText
  S_NoRiffle_NoWay : PySem.W.subIn K (.ref C_NoRiffle) (.ref C_NoWay) = some false
  N_NoRiffle_NoWay : C_NoRiffle ≠ C_NoWay
  S_NoRiffle_RiftError : PySem.W.subIn K (.ref C_NoRiffle) (.ref C_RiftError) = some true
  S_NoRiffle_TooMany : PySem.W.subIn K (.ref C_NoRiffle) (.ref C_TooMany) = some false
  N_NoRiffle_TooMany : C_NoRiffle ≠ C_TooMany
  m_abs : mg "abs" = none
  m_all : mg "all" = none
  m_bool : mg "bool" = none
  m_divmod : mg "divmod" = none
  m_enumerate : mg "enumerate" = none
  m_int : mg "int" = none
  m_isinstance : mg "isinstance" = none
  m_len : mg "len" = none
  m_list : mg "list" = none
  m_min : mg "min" = none
  m_range : mg "range" = none
  m_tuple : mg "tuple" = none
  m_zip : mg "zip" = none
section
variable {P : Program} {w : World} {K : PySem.W.Frag} {mg : Str → Option Value} {base : Heap}
def sp_law_bad (K : PySem.W.Frag) : Sp := fun vs H Q _ => ∃ (a_word : Addr) (word : List Int) (heaps : Int) (cell : Int), vs = [V.ref a_word, V.int heaps, V.int cell] ∧ H a_word = some (.lst (List.map V.int word)) ∧ (1 ≤ word.length ∧ word.length ≤ 60) ∧ (1 ≤ heaps ∧ heaps ≤ 400) ∧ (IsW (Int.toNat heaps) word) ∧ (∀ (H1 : Hp) (rA : Addr) (rows : List (RO (List V))) (res : List (List V)), (∀ z ∈ res, Sca z ∧ z.length ≤ 200 ∧ (isWordV (Int.toNat heaps) z (z.length : Int) = false ∨ (z.length : Int) ≠ (word.length : Int))) → (1 ≤ res.length) → (isWordV (Int.toNat heaps) (res.getD 0 []) ((res.getD 0 []).length : Int) = false) → TabN H H1 gV rA rows res → Same H H1 → Q (V.ref rA) H1)
theorem sc_law_bad : FnScope ["_law_word_here", "_law_heaps", "_law_cell", "_law_k", "_law_thing"] ["_law_word_here", "_law_heaps", "_law_cell"] (defScope s_law_bad) := ⟨rfl, rfl, rfl, by decide +kernel, rfl, by decide +kernel, by decide +kernel⟩
theorem ok_law_bad (T : Txt K mg) : FnOk P w K mg base CX0 1 T.f_law_bad T.fd_law_bad ["_law_word_here", "_law_heaps", "_law_cell"] (sp_law_bad K) := by
  refine T.F_law_bad.ok sc_law_bad (fun vs H Q E h => ?_) (fun cdv A outer s H vs Q E hr h => ?_)
  · obtain ⟨a_word, word, heaps, cell, rfl, _⟩ := h; rfl
  · obtain ⟨a_word, word, heaps, cell, rfl, h_word, pre0, pre1, pre2, q⟩ := h
    have fr := Fr.nil H
    refine ⟨_, (pss_cons (ps_set (i := 3) sc_law_bad.nd rfl (Or.inl rfl) (pe_op op_mod (pv 2) (pe_callB (show CallR _ _ (rLenL K) from call_lenL) (by rfl) T.m_len (by decide +kernel) (pa_cons (pv 0) pa_nil))))
          (pss_cons (ps_set (i := 4) sc_law_bad.nd rfl (Or.inl rfl) (pe_ix (show IxR _ (rIxL K) from ix_list) (pe_lst (pa_cons (pv 1) (pa_cons (pe_op op_add (pv 1) (pe_op op_mod (pv 2) (pe_op op_powL pe_int pe_int))) (pa_cons (pe_un un_neg pe_int) (pa_cons (pe_op op_sub (pe_un un_neg pe_int) (pe_op op_mod (pv 2) (pe_op op_powL pe_int pe_int))) (pa_cons pe_bl (pa_cons pe_bl (pa_cons pe_non (pa_cons pe_str pa_nil))))))))) (pe_op op_mod (pe_op op_fdiv (pv 2) pe_int) pe_int) (fun _ _ => rfl)))
          (pss_one (ps_ret (pe_lst (pa_cons (pe_op op_cat (pe_op op_cat (pe_slice (show SlR _ (rSlL K) from sl_list) (pv 0) po_none (po_some (pv 3))) (pe_lst (pa_cons (pv 4) pa_nil))) (pe_slice (show SlR _ (rSlL K) from sl_list) (pv 0) (po_some (pe_op op_add (pv 3) pe_int)) po_none)) (pa_cons (pe_op op_cat (pv 0) (pe_lst (pa_cons pe_int pa_nil))) (pa_cons (pe_op op_cat (pe_slice (show SlR _ (rSlL K) from sl_list) (pv 0) (po_some pe_int) po_none) (pe_lst (pa_cons (pv 4) (pa_cons pe_int pa_nil)))) pa_nil)))))))), ?_⟩
    refine ⟨_, rfl, _, rfl, _, _, _, rfl, (SqL.of (fr.same _ _ h_word)), (List.length_map _), _, _, rfl, rfl, ?_, ?_⟩
    · walk_at "side"
    have hat1 := Int.emod_nonneg cell (show (word.length : Int) ≠ 0 by omega)
    have hat2 := Int.emod_lt_of_pos cell (show 0 < (word.length : Int) by omega)
    refine ⟨_, rfl, _, rfl, _, rfl, _, _, 1000000000, rfl, rfl, ⟨by decide, by decide, by decide⟩, (by decide), _, _, rfl, rfl, (show (0 : Int) < _ by decide), _, _, rfl, rfl, _, rfl, _, rfl, _, rfl, _, _, 1000000000, rfl, rfl, ⟨by decide, by decide, by decide⟩, (by decide), _, _, rfl, rfl, (show (0 : Int) < _ by decide), _, _, rfl, rfl, (Evl.sz_of (show 8 ≤ 100000 by decide)), fun l_1 nl_2 => ?_⟩
    have fr : Fr H _ [(l_1, (.lst ([(V.int heaps), (V.int ((heaps + (cell % 1000000000)))), (V.int ((-1))), (V.int (((-1) - (cell % 1000000000)))), (V.bl true), (V.bl false), V.non, (V.str ("0"))]) : HO))] := fr.new nl_2
    refine ⟨_, rfl, _, _, rfl, rfl, ⟨by decide, by decide⟩, _, _, rfl, rfl, (show (0 : Int) < _ by decide), _, _, _, _, rfl, rfl, (SqL.of fr.at0), (atV V.non ?_ ?_), ?_⟩
    · walk_at "side"
    · walk_at "side"
    have hpart : sca ((List.getD ([(V.int heaps), (V.int ((heaps + (cell % 1000000000)))), (V.int ((-1))), (V.int (((-1) - (cell % 1000000000)))), (V.bl true), (V.bl false), V.non, (V.str ("0"))]) (Int.toNat (((cell / 60) % 8))) V.non)) = true := Sca.getD (Sca.cons rfl (Sca.cons rfl (Sca.cons rfl (Sca.cons rfl (Sca.cons rfl (Sca.cons rfl (Sca.cons rfl (Sca.cons (by decide +kernel) Sca.nil)))))))) (by show _ < 8; omega)
    have hpartn : wordPart (Int.toNat heaps) ((List.getD ([(V.int heaps), (V.int ((heaps + (cell % 1000000000)))), (V.int ((-1))), (V.int (((-1) - (cell % 1000000000)))), (V.bl true), (V.bl false), V.non, (V.str ("0"))]) (Int.toNat (((cell / 60) % 8))) V.non)) = false := part_of (all8b (by omega) (Int.emod_nonneg _ (by decide))) (by show _ < 8; omega)
    have fr : Fr H _ [] := Fr.dk fr 0
    refine ⟨_, rfl, _, rfl, _, rfl, _, _, rfl, (SqL.of (fr.same _ _ h_word)), fun l_3 nl_4 => ?_⟩
    have fr : Fr H _ [(l_3, (.lst (List.map V.int ((cutL word none (some ((cell % (word.length : Int))))))) : HO))] := (fr.new nl_4).cast (lst_cut _ _ _ _)
    refine ⟨_, rfl, (Evl.sz_of (show 1 ≤ 100000 by decide)), fun l_5 nl_6 => ?_⟩
    have fr : Fr H _ [(l_5, (.lst ([(List.getD ([(V.int heaps), (V.int ((heaps + (cell % 1000000000)))), (V.int ((-1))), (V.int (((-1) - (cell % 1000000000)))), (V.bl true), (V.bl false), V.non, (V.str ("0"))]) (Int.toNat (((cell / 60) % 8))) V.non)]) : HO)), (l_3, (.lst (List.map V.int ((cutL word none (some ((cell % (word.length : Int))))))) : HO))] := fr.new nl_6
    refine ⟨_, _, _, _, rfl, rfl, fr.at1, fr.at0, ?_, fun l_7 nl_8 => ?_⟩
    · walk_at "size"
    have fr : Fr H _ [(l_7, (.lst ((((List.map V.int ((cutL word none (some ((cell % (word.length : Int)))))))) ++ ([(List.getD ([(V.int heaps), (V.int ((heaps + (cell % 1000000000)))), (V.int ((-1))), (V.int (((-1) - (cell % 1000000000)))), (V.bl true), (V.bl false), V.non, (V.str ("0"))]) (Int.toNat (((cell / 60) % 8))) V.non)]))) : HO)), (l_5, (.lst ([(List.getD ([(V.int heaps), (V.int ((heaps + (cell % 1000000000)))), (V.int ((-1))), (V.int (((-1) - (cell % 1000000000)))), (V.bl true), (V.bl false), V.non, (V.str ("0"))]) (Int.toNat (((cell / 60) % 8))) V.non)]) : HO)), (l_3, (.lst (List.map V.int ((cutL word none (some ((cell % (word.length : Int))))))) : HO))] := (fr.new nl_8)
    refine ⟨_, rfl, _, rfl, _, _, rfl, rfl, _, rfl, _, _, rfl, (SqL.of (fr.same _ _ h_word)), fun l_9 nl_10 => ?_⟩
    have fr : Fr H _ [(l_9, (.lst (List.map V.int ((cutL word (some (((cell % (word.length : Int)) + 1))) none))) : HO)), (l_7, (.lst ((((List.map V.int ((cutL word none (some ((cell % (word.length : Int)))))))) ++ ([(List.getD ([(V.int heaps), (V.int ((heaps + (cell % 1000000000)))), (V.int ((-1))), (V.int (((-1) - (cell % 1000000000)))), (V.bl true), (V.bl false), V.non, (V.str ("0"))]) (Int.toNat (((cell / 60) % 8))) V.non)]))) : HO)), (l_5, (.lst ([(List.getD ([(V.int heaps), (V.int ((heaps + (cell % 1000000000)))), (V.int ((-1))), (V.int (((-1) - (cell % 1000000000)))), (V.bl true), (V.bl false), V.non, (V.str ("0"))]) (Int.toNat (((cell / 60) % 8))) V.non)]) : HO)), (l_3, (.lst (List.map V.int ((cutL word none (some ((cell % (word.length : Int))))))) : HO))] := (fr.new nl_10).cast (lst_cut _ _ _ _)
    refine ⟨_, _, _, _, rfl, rfl, fr.at1, fr.at0, ?_, fun l_11 nl_12 => ?_⟩
    · walk_at "size"
    have fr : Fr H _ [(l_11, (.lst ((((((List.map V.int ((cutL word none (some ((cell % (word.length : Int)))))))) ++ ([(List.getD ([(V.int heaps), (V.int ((heaps + (cell % 1000000000)))), (V.int ((-1))), (V.int (((-1) - (cell % 1000000000)))), (V.bl true), (V.bl false), V.non, (V.str ("0"))]) (Int.toNat (((cell / 60) % 8))) V.non)]))) ++ ((List.map V.int ((cutL word (some (((cell % (word.length : Int)) + 1))) none)))))) : HO)), (l_9, (.lst (List.map V.int ((cutL word (some (((cell % (word.length : Int)) + 1))) none))) : HO)), (l_7, (.lst ((((List.map V.int ((cutL word none (some ((cell % (word.length : Int)))))))) ++ ([(List.getD ([(V.int heaps), (V.int ((heaps + (cell % 1000000000)))), (V.int ((-1))), (V.int (((-1) - (cell % 1000000000)))), (V.bl true), (V.bl false), V.non, (V.str ("0"))]) (Int.toNat (((cell / 60) % 8))) V.non)]))) : HO)), (l_5, (.lst ([(List.getD ([(V.int heaps), (V.int ((heaps + (cell % 1000000000)))), (V.int ((-1))), (V.int (((-1) - (cell % 1000000000)))), (V.bl true), (V.bl false), V.non, (V.str ("0"))]) (Int.toNat (((cell / 60) % 8))) V.non)]) : HO)), (l_3, (.lst (List.map V.int ((cutL word none (some ((cell % (word.length : Int))))))) : HO))] := (fr.new nl_12)
    refine ⟨_, rfl, (Evl.sz_of (show 1 ≤ 100000 by decide)), fun l_13 nl_14 => ?_⟩
    have fr : Fr H _ [(l_13, (.lst (List.map V.int ([0])) : HO)), (l_11, (.lst ((((((List.map V.int ((cutL word none (some ((cell % (word.length : Int)))))))) ++ ([(List.getD ([(V.int heaps), (V.int ((heaps + (cell % 1000000000)))), (V.int ((-1))), (V.int (((-1) - (cell % 1000000000)))), (V.bl true), (V.bl false), V.non, (V.str ("0"))]) (Int.toNat (((cell / 60) % 8))) V.non)]))) ++ ((List.map V.int ((cutL word (some (((cell % (word.length : Int)) + 1))) none)))))) : HO)), (l_9, (.lst (List.map V.int ((cutL word (some (((cell % (word.length : Int)) + 1))) none))) : HO)), (l_7, (.lst ((((List.map V.int ((cutL word none (some ((cell % (word.length : Int)))))))) ++ ([(List.getD ([(V.int heaps), (V.int ((heaps + (cell % 1000000000)))), (V.int ((-1))), (V.int (((-1) - (cell % 1000000000)))), (V.bl true), (V.bl false), V.non, (V.str ("0"))]) (Int.toNat (((cell / 60) % 8))) V.non)]))) : HO)), (l_5, (.lst ([(List.getD ([(V.int heaps), (V.int ((heaps + (cell % 1000000000)))), (V.int ((-1))), (V.int (((-1) - (cell % 1000000000)))), (V.bl true), (V.bl false), V.non, (V.str ("0"))]) (Int.toNat (((cell / 60) % 8))) V.non)]) : HO)), (l_3, (.lst (List.map V.int ((cutL word none (some ((cell % (word.length : Int))))))) : HO))] := fr.new nl_14
    refine ⟨_, _, _, _, rfl, rfl, (fr.same _ _ h_word), fr.at0, ?_, fun l_15 nl_16 => ?_⟩
    · walk_at "size"
    have fr : Fr H _ [(l_15, (.lst (List.map V.int ((word ++ ([0])))) : HO)), (l_13, (.lst (List.map V.int ([0])) : HO)), (l_11, (.lst ((((((List.map V.int ((cutL word none (some ((cell % (word.length : Int)))))))) ++ ([(List.getD ([(V.int heaps), (V.int ((heaps + (cell % 1000000000)))), (V.int ((-1))), (V.int (((-1) - (cell % 1000000000)))), (V.bl true), (V.bl false), V.non, (V.str ("0"))]) (Int.toNat (((cell / 60) % 8))) V.non)]))) ++ ((List.map V.int ((cutL word (some (((cell % (word.length : Int)) + 1))) none)))))) : HO)), (l_9, (.lst (List.map V.int ((cutL word (some (((cell % (word.length : Int)) + 1))) none))) : HO)), (l_7, (.lst ((((List.map V.int ((cutL word none (some ((cell % (word.length : Int)))))))) ++ ([(List.getD ([(V.int heaps), (V.int ((heaps + (cell % 1000000000)))), (V.int ((-1))), (V.int (((-1) - (cell % 1000000000)))), (V.bl true), (V.bl false), V.non, (V.str ("0"))]) (Int.toNat (((cell / 60) % 8))) V.non)]))) : HO)), (l_5, (.lst ([(List.getD ([(V.int heaps), (V.int ((heaps + (cell % 1000000000)))), (V.int ((-1))), (V.int (((-1) - (cell % 1000000000)))), (V.bl true), (V.bl false), V.non, (V.str ("0"))]) (Int.toNat (((cell / 60) % 8))) V.non)]) : HO)), (l_3, (.lst (List.map V.int ((cutL word none (some ((cell % (word.length : Int))))))) : HO))] := (fr.new nl_16).cast (lst_cat _ _ _)
    refine ⟨_, rfl, _, rfl, _, _, rfl, (SqL.of (fr.same _ _ h_word)), fun l_17 nl_18 => ?_⟩
    have fr : Fr H _ [(l_17, (.lst (List.map V.int ((cutL word (some 1) none))) : HO)), (l_15, (.lst (List.map V.int ((word ++ ([0])))) : HO)), (l_13, (.lst (List.map V.int ([0])) : HO)), (l_11, (.lst ((((((List.map V.int ((cutL word none (some ((cell % (word.length : Int)))))))) ++ ([(List.getD ([(V.int heaps), (V.int ((heaps + (cell % 1000000000)))), (V.int ((-1))), (V.int (((-1) - (cell % 1000000000)))), (V.bl true), (V.bl false), V.non, (V.str ("0"))]) (Int.toNat (((cell / 60) % 8))) V.non)]))) ++ ((List.map V.int ((cutL word (some (((cell % (word.length : Int)) + 1))) none)))))) : HO)), (l_9, (.lst (List.map V.int ((cutL word (some (((cell % (word.length : Int)) + 1))) none))) : HO)), (l_7, (.lst ((((List.map V.int ((cutL word none (some ((cell % (word.length : Int)))))))) ++ ([(List.getD ([(V.int heaps), (V.int ((heaps + (cell % 1000000000)))), (V.int ((-1))), (V.int (((-1) - (cell % 1000000000)))), (V.bl true), (V.bl false), V.non, (V.str ("0"))]) (Int.toNat (((cell / 60) % 8))) V.non)]))) : HO)), (l_5, (.lst ([(List.getD ([(V.int heaps), (V.int ((heaps + (cell % 1000000000)))), (V.int ((-1))), (V.int (((-1) - (cell % 1000000000)))), (V.bl true), (V.bl false), V.non, (V.str ("0"))]) (Int.toNat (((cell / 60) % 8))) V.non)]) : HO)), (l_3, (.lst (List.map V.int ((cutL word none (some ((cell % (word.length : Int))))))) : HO))] := (fr.new nl_18).cast (lst_cut _ _ _ _)
    refine ⟨_, rfl, (Evl.sz_of (show 2 ≤ 100000 by decide)), fun l_19 nl_20 => ?_⟩
    have fr : Fr H _ [(l_19, (.lst ([(List.getD ([(V.int heaps), (V.int ((heaps + (cell % 1000000000)))), (V.int ((-1))), (V.int (((-1) - (cell % 1000000000)))), (V.bl true), (V.bl false), V.non, (V.str ("0"))]) (Int.toNat (((cell / 60) % 8))) V.non), (V.int 0)]) : HO)), (l_17, (.lst (List.map V.int ((cutL word (some 1) none))) : HO)), (l_15, (.lst (List.map V.int ((word ++ ([0])))) : HO)), (l_13, (.lst (List.map V.int ([0])) : HO)), (l_11, (.lst ((((((List.map V.int ((cutL word none (some ((cell % (word.length : Int)))))))) ++ ([(List.getD ([(V.int heaps), (V.int ((heaps + (cell % 1000000000)))), (V.int ((-1))), (V.int (((-1) - (cell % 1000000000)))), (V.bl true), (V.bl false), V.non, (V.str ("0"))]) (Int.toNat (((cell / 60) % 8))) V.non)]))) ++ ((List.map V.int ((cutL word (some (((cell % (word.length : Int)) + 1))) none)))))) : HO)), (l_9, (.lst (List.map V.int ((cutL word (some (((cell % (word.length : Int)) + 1))) none))) : HO)), (l_7, (.lst ((((List.map V.int ((cutL word none (some ((cell % (word.length : Int)))))))) ++ ([(List.getD ([(V.int heaps), (V.int ((heaps + (cell % 1000000000)))), (V.int ((-1))), (V.int (((-1) - (cell % 1000000000)))), (V.bl true), (V.bl false), V.non, (V.str ("0"))]) (Int.toNat (((cell / 60) % 8))) V.non)]))) : HO)), (l_5, (.lst ([(List.getD ([(V.int heaps), (V.int ((heaps + (cell % 1000000000)))), (V.int ((-1))), (V.int (((-1) - (cell % 1000000000)))), (V.bl true), (V.bl false), V.non, (V.str ("0"))]) (Int.toNat (((cell / 60) % 8))) V.non)]) : HO)), (l_3, (.lst (List.map V.int ((cutL word none (some ((cell % (word.length : Int))))))) : HO))] := fr.new nl_20
    refine ⟨_, _, _, _, rfl, rfl, fr.at1, fr.at0, ?_, fun l_21 nl_22 => ?_⟩
    · walk_at "size"
    have fr : Fr H _ [(l_21, (.lst ((((List.map V.int ((cutL word (some 1) none)))) ++ ([(List.getD ([(V.int heaps), (V.int ((heaps + (cell % 1000000000)))), (V.int ((-1))), (V.int (((-1) - (cell % 1000000000)))), (V.bl true), (V.bl false), V.non, (V.str ("0"))]) (Int.toNat (((cell / 60) % 8))) V.non), (V.int 0)]))) : HO)), (l_19, (.lst ([(List.getD ([(V.int heaps), (V.int ((heaps + (cell % 1000000000)))), (V.int ((-1))), (V.int (((-1) - (cell % 1000000000)))), (V.bl true), (V.bl false), V.non, (V.str ("0"))]) (Int.toNat (((cell / 60) % 8))) V.non), (V.int 0)]) : HO)), (l_17, (.lst (List.map V.int ((cutL word (some 1) none))) : HO)), (l_15, (.lst (List.map V.int ((word ++ ([0])))) : HO)), (l_13, (.lst (List.map V.int ([0])) : HO)), (l_11, (.lst ((((((List.map V.int ((cutL word none (some ((cell % (word.length : Int)))))))) ++ ([(List.getD ([(V.int heaps), (V.int ((heaps + (cell % 1000000000)))), (V.int ((-1))), (V.int (((-1) - (cell % 1000000000)))), (V.bl true), (V.bl false), V.non, (V.str ("0"))]) (Int.toNat (((cell / 60) % 8))) V.non)]))) ++ ((List.map V.int ((cutL word (some (((cell % (word.length : Int)) + 1))) none)))))) : HO)), (l_9, (.lst (List.map V.int ((cutL word (some (((cell % (word.length : Int)) + 1))) none))) : HO)), (l_7, (.lst ((((List.map V.int ((cutL word none (some ((cell % (word.length : Int)))))))) ++ ([(List.getD ([(V.int heaps), (V.int ((heaps + (cell % 1000000000)))), (V.int ((-1))), (V.int (((-1) - (cell % 1000000000)))), (V.bl true), (V.bl false), V.non, (V.str ("0"))]) (Int.toNat (((cell / 60) % 8))) V.non)]))) : HO)), (l_5, (.lst ([(List.getD ([(V.int heaps), (V.int ((heaps + (cell % 1000000000)))), (V.int ((-1))), (V.int (((-1) - (cell % 1000000000)))), (V.bl true), (V.bl false), V.non, (V.str ("0"))]) (Int.toNat (((cell / 60) % 8))) V.non)]) : HO)), (l_3, (.lst (List.map V.int ((cutL word none (some ((cell % (word.length : Int))))))) : HO))] := (fr.new nl_22)
    refine ⟨(Evl.sz_of (show 3 ≤ 100000 by decide)), fun l_23 nl_24 => ?_⟩
    have fr : Fr H _ [(l_23, (.lst [V.ref l_11, V.ref l_15, V.ref l_21] : HO)), (l_21, (.lst ((((List.map V.int ((cutL word (some 1) none)))) ++ ([(List.getD ([(V.int heaps), (V.int ((heaps + (cell % 1000000000)))), (V.int ((-1))), (V.int (((-1) - (cell % 1000000000)))), (V.bl true), (V.bl false), V.non, (V.str ("0"))]) (Int.toNat (((cell / 60) % 8))) V.non), (V.int 0)]))) : HO)), (l_19, (.lst ([(List.getD ([(V.int heaps), (V.int ((heaps + (cell % 1000000000)))), (V.int ((-1))), (V.int (((-1) - (cell % 1000000000)))), (V.bl true), (V.bl false), V.non, (V.str ("0"))]) (Int.toNat (((cell / 60) % 8))) V.non), (V.int 0)]) : HO)), (l_17, (.lst (List.map V.int ((cutL word (some 1) none))) : HO)), (l_15, (.lst (List.map V.int ((word ++ ([0])))) : HO)), (l_13, (.lst (List.map V.int ([0])) : HO)), (l_11, (.lst ((((((List.map V.int ((cutL word none (some ((cell % (word.length : Int)))))))) ++ ([(List.getD ([(V.int heaps), (V.int ((heaps + (cell % 1000000000)))), (V.int ((-1))), (V.int (((-1) - (cell % 1000000000)))), (V.bl true), (V.bl false), V.non, (V.str ("0"))]) (Int.toNat (((cell / 60) % 8))) V.non)]))) ++ ((List.map V.int ((cutL word (some (((cell % (word.length : Int)) + 1))) none)))))) : HO)), (l_9, (.lst (List.map V.int ((cutL word (some (((cell % (word.length : Int)) + 1))) none))) : HO)), (l_7, (.lst ((((List.map V.int ((cutL word none (some ((cell % (word.length : Int)))))))) ++ ([(List.getD ([(V.int heaps), (V.int ((heaps + (cell % 1000000000)))), (V.int ((-1))), (V.int (((-1) - (cell % 1000000000)))), (V.bl true), (V.bl false), V.non, (V.str ("0"))]) (Int.toNat (((cell / 60) % 8))) V.non)]))) : HO)), (l_5, (.lst ([(List.getD ([(V.int heaps), (V.int ((heaps + (cell % 1000000000)))), (V.int ((-1))), (V.int (((-1) - (cell % 1000000000)))), (V.bl true), (V.bl false), V.non, (V.str ("0"))]) (Int.toNat (((cell / 60) % 8))) V.non)]) : HO)), (l_3, (.lst (List.map V.int ((cutL word none (some ((cell % (word.length : Int))))))) : HO))] := fr.new nl_24
    have fr : Fr H _ [(l_11, (.lst ((((((List.map V.int ((cutL word none (some ((cell % (word.length : Int)))))))) ++ ([(List.getD ([(V.int heaps), (V.int ((heaps + (cell % 1000000000)))), (V.int ((-1))), (V.int (((-1) - (cell % 1000000000)))), (V.bl true), (V.bl false), V.non, (V.str ("0"))]) (Int.toNat (((cell / 60) % 8))) V.non)]))) ++ ((List.map V.int ((cutL word (some (((cell % (word.length : Int)) + 1))) none)))))) : HO)), (l_23, (.lst [V.ref l_11, V.ref l_15, V.ref l_21] : HO)), (l_21, (.lst ((((List.map V.int ((cutL word (some 1) none)))) ++ ([(List.getD ([(V.int heaps), (V.int ((heaps + (cell % 1000000000)))), (V.int ((-1))), (V.int (((-1) - (cell % 1000000000)))), (V.bl true), (V.bl false), V.non, (V.str ("0"))]) (Int.toNat (((cell / 60) % 8))) V.non), (V.int 0)]))) : HO)), (l_19, (.lst ([(List.getD ([(V.int heaps), (V.int ((heaps + (cell % 1000000000)))), (V.int ((-1))), (V.int (((-1) - (cell % 1000000000)))), (V.bl true), (V.bl false), V.non, (V.str ("0"))]) (Int.toNat (((cell / 60) % 8))) V.non), (V.int 0)]) : HO)), (l_17, (.lst (List.map V.int ((cutL word (some 1) none))) : HO)), (l_15, (.lst (List.map V.int ((word ++ ([0])))) : HO)), (l_13, (.lst (List.map V.int ([0])) : HO)), (l_9, (.lst (List.map V.int ((cutL word (some (((cell % (word.length : Int)) + 1))) none))) : HO)), (l_7, (.lst ((((List.map V.int ((cutL word none (some ((cell % (word.length : Int)))))))) ++ ([(List.getD ([(V.int heaps), (V.int ((heaps + (cell % 1000000000)))), (V.int ((-1))), (V.int (((-1) - (cell % 1000000000)))), (V.bl true), (V.bl false), V.non, (V.str ("0"))]) (Int.toNat (((cell / 60) % 8))) V.non)]))) : HO)), (l_5, (.lst ([(List.getD ([(V.int heaps), (V.int ((heaps + (cell % 1000000000)))), (V.int ((-1))), (V.int (((-1) - (cell % 1000000000)))), (V.bl true), (V.bl false), V.non, (V.str ("0"))]) (Int.toNat (((cell / 60) % 8))) V.non)]) : HO)), (l_3, (.lst (List.map V.int ((cutL word none (some ((cell % (word.length : Int))))))) : HO))] := Fr.upk fr 6 rfl
    have fr : Fr H _ ([(l_23, (.lst [V.ref l_11, V.ref l_15, V.ref l_21] : HO)), (l_21, (.lst ((((List.map V.int ((cutL word (some 1) none)))) ++ ([(List.getD ([(V.int heaps), (V.int ((heaps + (cell % 1000000000)))), (V.int ((-1))), (V.int (((-1) - (cell % 1000000000)))), (V.bl true), (V.bl false), V.non, (V.str ("0"))]) (Int.toNat (((cell / 60) % 8))) V.non), (V.int 0)]))) : HO)), (l_19, (.lst ([(List.getD ([(V.int heaps), (V.int ((heaps + (cell % 1000000000)))), (V.int ((-1))), (V.int (((-1) - (cell % 1000000000)))), (V.bl true), (V.bl false), V.non, (V.str ("0"))]) (Int.toNat (((cell / 60) % 8))) V.non), (V.int 0)]) : HO)), (l_17, (.lst (List.map V.int ((cutL word (some 1) none))) : HO)), (l_15, (.lst (List.map V.int ((word ++ ([0])))) : HO)), (l_13, (.lst (List.map V.int ([0])) : HO)), (l_9, (.lst (List.map V.int ((cutL word (some (((cell % (word.length : Int)) + 1))) none))) : HO)), (l_7, (.lst ((((List.map V.int ((cutL word none (some ((cell % (word.length : Int)))))))) ++ ([(List.getD ([(V.int heaps), (V.int ((heaps + (cell % 1000000000)))), (V.int ((-1))), (V.int (((-1) - (cell % 1000000000)))), (V.bl true), (V.bl false), V.non, (V.str ("0"))]) (Int.toNat (((cell / 60) % 8))) V.non)]))) : HO)), (l_5, (.lst ([(List.getD ([(V.int heaps), (V.int ((heaps + (cell % 1000000000)))), (V.int ((-1))), (V.int (((-1) - (cell % 1000000000)))), (V.bl true), (V.bl false), V.non, (V.str ("0"))]) (Int.toNat (((cell / 60) % 8))) V.non)]) : HO)), (l_3, (.lst (List.map V.int ((cutL word none (some ((cell % (word.length : Int))))))) : HO))] ++ List.flatten [rosOwn gV (([(l_11, (((((List.map V.int ((cutL word none (some ((cell % (word.length : Int)))))))) ++ ([(List.getD ([(V.int heaps), (V.int ((heaps + (cell % 1000000000)))), (V.int ((-1))), (V.int (((-1) - (cell % 1000000000)))), (V.bl true), (V.bl false), V.non, (V.str ("0"))]) (Int.toNat (((cell / 60) % 8))) V.non)]))) ++ ((List.map V.int ((cutL word (some (((cell % (word.length : Int)) + 1))) none))))))] : List (RO (List V))))]) := Fr.rnew (g := gV) (pre := [(l_23, (.lst [V.ref l_11, V.ref l_15, V.ref l_21] : HO)), (l_21, (.lst ((((List.map V.int ((cutL word (some 1) none)))) ++ ([(List.getD ([(V.int heaps), (V.int ((heaps + (cell % 1000000000)))), (V.int ((-1))), (V.int (((-1) - (cell % 1000000000)))), (V.bl true), (V.bl false), V.non, (V.str ("0"))]) (Int.toNat (((cell / 60) % 8))) V.non), (V.int 0)]))) : HO)), (l_19, (.lst ([(List.getD ([(V.int heaps), (V.int ((heaps + (cell % 1000000000)))), (V.int ((-1))), (V.int (((-1) - (cell % 1000000000)))), (V.bl true), (V.bl false), V.non, (V.str ("0"))]) (Int.toNat (((cell / 60) % 8))) V.non), (V.int 0)]) : HO)), (l_17, (.lst (List.map V.int ((cutL word (some 1) none))) : HO)), (l_15, (.lst (List.map V.int ((word ++ ([0])))) : HO)), (l_13, (.lst (List.map V.int ([0])) : HO)), (l_9, (.lst (List.map V.int ((cutL word (some (((cell % (word.length : Int)) + 1))) none))) : HO)), (l_7, (.lst ((((List.map V.int ((cutL word none (some ((cell % (word.length : Int)))))))) ++ ([(List.getD ([(V.int heaps), (V.int ((heaps + (cell % 1000000000)))), (V.int ((-1))), (V.int (((-1) - (cell % 1000000000)))), (V.bl true), (V.bl false), V.non, (V.str ("0"))]) (Int.toNat (((cell / 60) % 8))) V.non)]))) : HO)), (l_5, (.lst ([(List.getD ([(V.int heaps), (V.int ((heaps + (cell % 1000000000)))), (V.int ((-1))), (V.int (((-1) - (cell % 1000000000)))), (V.bl true), (V.bl false), V.non, (V.str ("0"))]) (Int.toNat (((cell / 60) % 8))) V.non)]) : HO)), (l_3, (.lst (List.map V.int ((cutL word none (some ((cell % (word.length : Int))))))) : HO))]) (ts := []) (x := (((((List.map V.int ((cutL word none (some ((cell % (word.length : Int)))))))) ++ ([(List.getD ([(V.int heaps), (V.int ((heaps + (cell % 1000000000)))), (V.int ((-1))), (V.int (((-1) - (cell % 1000000000)))), (V.bl true), (V.bl false), V.non, (V.str ("0"))]) (Int.toNat (((cell / 60) % 8))) V.non)]))) ++ ((List.map V.int ((cutL word (some (((cell % (word.length : Int)) + 1))) none)))))) fr
    have fr : Fr H _ ([(l_23, (.lst [V.ref l_11, V.ref l_15, V.ref l_21] : HO)), (l_21, (.lst ((((List.map V.int ((cutL word (some 1) none)))) ++ ([(List.getD ([(V.int heaps), (V.int ((heaps + (cell % 1000000000)))), (V.int ((-1))), (V.int (((-1) - (cell % 1000000000)))), (V.bl true), (V.bl false), V.non, (V.str ("0"))]) (Int.toNat (((cell / 60) % 8))) V.non), (V.int 0)]))) : HO)), (l_19, (.lst ([(List.getD ([(V.int heaps), (V.int ((heaps + (cell % 1000000000)))), (V.int ((-1))), (V.int (((-1) - (cell % 1000000000)))), (V.bl true), (V.bl false), V.non, (V.str ("0"))]) (Int.toNat (((cell / 60) % 8))) V.non), (V.int 0)]) : HO)), (l_17, (.lst (List.map V.int ((cutL word (some 1) none))) : HO)), (l_15, (.lst ((List.map V.int ((word ++ ([0]))))) : HO)), (l_13, (.lst (List.map V.int ([0])) : HO)), (l_9, (.lst (List.map V.int ((cutL word (some (((cell % (word.length : Int)) + 1))) none))) : HO)), (l_7, (.lst ((((List.map V.int ((cutL word none (some ((cell % (word.length : Int)))))))) ++ ([(List.getD ([(V.int heaps), (V.int ((heaps + (cell % 1000000000)))), (V.int ((-1))), (V.int (((-1) - (cell % 1000000000)))), (V.bl true), (V.bl false), V.non, (V.str ("0"))]) (Int.toNat (((cell / 60) % 8))) V.non)]))) : HO)), (l_5, (.lst ([(List.getD ([(V.int heaps), (V.int ((heaps + (cell % 1000000000)))), (V.int ((-1))), (V.int (((-1) - (cell % 1000000000)))), (V.bl true), (V.bl false), V.non, (V.str ("0"))]) (Int.toNat (((cell / 60) % 8))) V.non)]) : HO)), (l_3, (.lst (List.map V.int ((cutL word none (some ((cell % (word.length : Int))))))) : HO))] ++ List.flatten [rosOwn gV (([(l_11, (((((List.map V.int ((cutL word none (some ((cell % (word.length : Int)))))))) ++ ([(List.getD ([(V.int heaps), (V.int ((heaps + (cell % 1000000000)))), (V.int ((-1))), (V.int (((-1) - (cell % 1000000000)))), (V.bl true), (V.bl false), V.non, (V.str ("0"))]) (Int.toNat (((cell / 60) % 8))) V.non)]))) ++ ((List.map V.int ((cutL word (some (((cell % (word.length : Int)) + 1))) none))))))] : List (RO (List V))))]) := fr
    have fr : Fr H _ ([(l_15, (.lst ((List.map V.int ((word ++ ([0]))))) : HO)), (l_23, (.lst [V.ref l_11, V.ref l_15, V.ref l_21] : HO)), (l_21, (.lst ((((List.map V.int ((cutL word (some 1) none)))) ++ ([(List.getD ([(V.int heaps), (V.int ((heaps + (cell % 1000000000)))), (V.int ((-1))), (V.int (((-1) - (cell % 1000000000)))), (V.bl true), (V.bl false), V.non, (V.str ("0"))]) (Int.toNat (((cell / 60) % 8))) V.non), (V.int 0)]))) : HO)), (l_19, (.lst ([(List.getD ([(V.int heaps), (V.int ((heaps + (cell % 1000000000)))), (V.int ((-1))), (V.int (((-1) - (cell % 1000000000)))), (V.bl true), (V.bl false), V.non, (V.str ("0"))]) (Int.toNat (((cell / 60) % 8))) V.non), (V.int 0)]) : HO)), (l_17, (.lst (List.map V.int ((cutL word (some 1) none))) : HO)), (l_13, (.lst (List.map V.int ([0])) : HO)), (l_9, (.lst (List.map V.int ((cutL word (some (((cell % (word.length : Int)) + 1))) none))) : HO)), (l_7, (.lst ((((List.map V.int ((cutL word none (some ((cell % (word.length : Int)))))))) ++ ([(List.getD ([(V.int heaps), (V.int ((heaps + (cell % 1000000000)))), (V.int ((-1))), (V.int (((-1) - (cell % 1000000000)))), (V.bl true), (V.bl false), V.non, (V.str ("0"))]) (Int.toNat (((cell / 60) % 8))) V.non)]))) : HO)), (l_5, (.lst ([(List.getD ([(V.int heaps), (V.int ((heaps + (cell % 1000000000)))), (V.int ((-1))), (V.int (((-1) - (cell % 1000000000)))), (V.bl true), (V.bl false), V.non, (V.str ("0"))]) (Int.toNat (((cell / 60) % 8))) V.non)]) : HO)), (l_3, (.lst (List.map V.int ((cutL word none (some ((cell % (word.length : Int))))))) : HO))] ++ List.flatten [rosOwn gV (([(l_11, (((((List.map V.int ((cutL word none (some ((cell % (word.length : Int)))))))) ++ ([(List.getD ([(V.int heaps), (V.int ((heaps + (cell % 1000000000)))), (V.int ((-1))), (V.int (((-1) - (cell % 1000000000)))), (V.bl true), (V.bl false), V.non, (V.str ("0"))]) (Int.toNat (((cell / 60) % 8))) V.non)]))) ++ ((List.map V.int ((cutL word (some (((cell % (word.length : Int)) + 1))) none))))))] : List (RO (List V))))]) := Fr.upk fr 4 rfl
    have fr : Fr H _ ([(l_23, (.lst [V.ref l_11, V.ref l_15, V.ref l_21] : HO)), (l_21, (.lst ((((List.map V.int ((cutL word (some 1) none)))) ++ ([(List.getD ([(V.int heaps), (V.int ((heaps + (cell % 1000000000)))), (V.int ((-1))), (V.int (((-1) - (cell % 1000000000)))), (V.bl true), (V.bl false), V.non, (V.str ("0"))]) (Int.toNat (((cell / 60) % 8))) V.non), (V.int 0)]))) : HO)), (l_19, (.lst ([(List.getD ([(V.int heaps), (V.int ((heaps + (cell % 1000000000)))), (V.int ((-1))), (V.int (((-1) - (cell % 1000000000)))), (V.bl true), (V.bl false), V.non, (V.str ("0"))]) (Int.toNat (((cell / 60) % 8))) V.non), (V.int 0)]) : HO)), (l_17, (.lst (List.map V.int ((cutL word (some 1) none))) : HO)), (l_13, (.lst (List.map V.int ([0])) : HO)), (l_9, (.lst (List.map V.int ((cutL word (some (((cell % (word.length : Int)) + 1))) none))) : HO)), (l_7, (.lst ((((List.map V.int ((cutL word none (some ((cell % (word.length : Int)))))))) ++ ([(List.getD ([(V.int heaps), (V.int ((heaps + (cell % 1000000000)))), (V.int ((-1))), (V.int (((-1) - (cell % 1000000000)))), (V.bl true), (V.bl false), V.non, (V.str ("0"))]) (Int.toNat (((cell / 60) % 8))) V.non)]))) : HO)), (l_5, (.lst ([(List.getD ([(V.int heaps), (V.int ((heaps + (cell % 1000000000)))), (V.int ((-1))), (V.int (((-1) - (cell % 1000000000)))), (V.bl true), (V.bl false), V.non, (V.str ("0"))]) (Int.toNat (((cell / 60) % 8))) V.non)]) : HO)), (l_3, (.lst (List.map V.int ((cutL word none (some ((cell % (word.length : Int))))))) : HO))] ++ List.flatten [rosOwn gV (([(l_11, (((((List.map V.int ((cutL word none (some ((cell % (word.length : Int)))))))) ++ ([(List.getD ([(V.int heaps), (V.int ((heaps + (cell % 1000000000)))), (V.int ((-1))), (V.int (((-1) - (cell % 1000000000)))), (V.bl true), (V.bl false), V.non, (V.str ("0"))]) (Int.toNat (((cell / 60) % 8))) V.non)]))) ++ ((List.map V.int ((cutL word (some (((cell % (word.length : Int)) + 1))) none)))))), (l_15, (List.map V.int ((word ++ ([0])))))] : List (RO (List V))))]) := Fr.radd (g := gV) (pre := [(l_23, (.lst [V.ref l_11, V.ref l_15, V.ref l_21] : HO)), (l_21, (.lst ((((List.map V.int ((cutL word (some 1) none)))) ++ ([(List.getD ([(V.int heaps), (V.int ((heaps + (cell % 1000000000)))), (V.int ((-1))), (V.int (((-1) - (cell % 1000000000)))), (V.bl true), (V.bl false), V.non, (V.str ("0"))]) (Int.toNat (((cell / 60) % 8))) V.non), (V.int 0)]))) : HO)), (l_19, (.lst ([(List.getD ([(V.int heaps), (V.int ((heaps + (cell % 1000000000)))), (V.int ((-1))), (V.int (((-1) - (cell % 1000000000)))), (V.bl true), (V.bl false), V.non, (V.str ("0"))]) (Int.toNat (((cell / 60) % 8))) V.non), (V.int 0)]) : HO)), (l_17, (.lst (List.map V.int ((cutL word (some 1) none))) : HO)), (l_13, (.lst (List.map V.int ([0])) : HO)), (l_9, (.lst (List.map V.int ((cutL word (some (((cell % (word.length : Int)) + 1))) none))) : HO)), (l_7, (.lst ((((List.map V.int ((cutL word none (some ((cell % (word.length : Int)))))))) ++ ([(List.getD ([(V.int heaps), (V.int ((heaps + (cell % 1000000000)))), (V.int ((-1))), (V.int (((-1) - (cell % 1000000000)))), (V.bl true), (V.bl false), V.non, (V.str ("0"))]) (Int.toNat (((cell / 60) % 8))) V.non)]))) : HO)), (l_5, (.lst ([(List.getD ([(V.int heaps), (V.int ((heaps + (cell % 1000000000)))), (V.int ((-1))), (V.int (((-1) - (cell % 1000000000)))), (V.bl true), (V.bl false), V.non, (V.str ("0"))]) (Int.toNat (((cell / 60) % 8))) V.non)]) : HO)), (l_3, (.lst (List.map V.int ((cutL word none (some ((cell % (word.length : Int))))))) : HO))]) (ts := []) (rows := ([(l_11, (((((List.map V.int ((cutL word none (some ((cell % (word.length : Int)))))))) ++ ([(List.getD ([(V.int heaps), (V.int ((heaps + (cell % 1000000000)))), (V.int ((-1))), (V.int (((-1) - (cell % 1000000000)))), (V.bl true), (V.bl false), V.non, (V.str ("0"))]) (Int.toNat (((cell / 60) % 8))) V.non)]))) ++ ((List.map V.int ((cutL word (some (((cell % (word.length : Int)) + 1))) none))))))] : List (RO (List V)))) (x := (List.map V.int ((word ++ ([0]))))) fr
    have fr : Fr H _ ([(l_21, (.lst ((((List.map V.int ((cutL word (some 1) none)))) ++ ([(List.getD ([(V.int heaps), (V.int ((heaps + (cell % 1000000000)))), (V.int ((-1))), (V.int (((-1) - (cell % 1000000000)))), (V.bl true), (V.bl false), V.non, (V.str ("0"))]) (Int.toNat (((cell / 60) % 8))) V.non), (V.int 0)]))) : HO)), (l_23, (.lst [V.ref l_11, V.ref l_15, V.ref l_21] : HO)), (l_19, (.lst ([(List.getD ([(V.int heaps), (V.int ((heaps + (cell % 1000000000)))), (V.int ((-1))), (V.int (((-1) - (cell % 1000000000)))), (V.bl true), (V.bl false), V.non, (V.str ("0"))]) (Int.toNat (((cell / 60) % 8))) V.non), (V.int 0)]) : HO)), (l_17, (.lst (List.map V.int ((cutL word (some 1) none))) : HO)), (l_13, (.lst (List.map V.int ([0])) : HO)), (l_9, (.lst (List.map V.int ((cutL word (some (((cell % (word.length : Int)) + 1))) none))) : HO)), (l_7, (.lst ((((List.map V.int ((cutL word none (some ((cell % (word.length : Int)))))))) ++ ([(List.getD ([(V.int heaps), (V.int ((heaps + (cell % 1000000000)))), (V.int ((-1))), (V.int (((-1) - (cell % 1000000000)))), (V.bl true), (V.bl false), V.non, (V.str ("0"))]) (Int.toNat (((cell / 60) % 8))) V.non)]))) : HO)), (l_5, (.lst ([(List.getD ([(V.int heaps), (V.int ((heaps + (cell % 1000000000)))), (V.int ((-1))), (V.int (((-1) - (cell % 1000000000)))), (V.bl true), (V.bl false), V.non, (V.str ("0"))]) (Int.toNat (((cell / 60) % 8))) V.non)]) : HO)), (l_3, (.lst (List.map V.int ((cutL word none (some ((cell % (word.length : Int))))))) : HO))] ++ List.flatten [rosOwn gV (([(l_11, (((((List.map V.int ((cutL word none (some ((cell % (word.length : Int)))))))) ++ ([(List.getD ([(V.int heaps), (V.int ((heaps + (cell % 1000000000)))), (V.int ((-1))), (V.int (((-1) - (cell % 1000000000)))), (V.bl true), (V.bl false), V.non, (V.str ("0"))]) (Int.toNat (((cell / 60) % 8))) V.non)]))) ++ ((List.map V.int ((cutL word (some (((cell % (word.length : Int)) + 1))) none)))))), (l_15, (List.map V.int ((word ++ ([0])))))] : List (RO (List V))))]) := Fr.upk fr 1 rfl
    have fr : Fr H _ ([(l_23, (.lst [V.ref l_11, V.ref l_15, V.ref l_21] : HO)), (l_19, (.lst ([(List.getD ([(V.int heaps), (V.int ((heaps + (cell % 1000000000)))), (V.int ((-1))), (V.int (((-1) - (cell % 1000000000)))), (V.bl true), (V.bl false), V.non, (V.str ("0"))]) (Int.toNat (((cell / 60) % 8))) V.non), (V.int 0)]) : HO)), (l_17, (.lst (List.map V.int ((cutL word (some 1) none))) : HO)), (l_13, (.lst (List.map V.int ([0])) : HO)), (l_9, (.lst (List.map V.int ((cutL word (some (((cell % (word.length : Int)) + 1))) none))) : HO)), (l_7, (.lst ((((List.map V.int ((cutL word none (some ((cell % (word.length : Int)))))))) ++ ([(List.getD ([(V.int heaps), (V.int ((heaps + (cell % 1000000000)))), (V.int ((-1))), (V.int (((-1) - (cell % 1000000000)))), (V.bl true), (V.bl false), V.non, (V.str ("0"))]) (Int.toNat (((cell / 60) % 8))) V.non)]))) : HO)), (l_5, (.lst ([(List.getD ([(V.int heaps), (V.int ((heaps + (cell % 1000000000)))), (V.int ((-1))), (V.int (((-1) - (cell % 1000000000)))), (V.bl true), (V.bl false), V.non, (V.str ("0"))]) (Int.toNat (((cell / 60) % 8))) V.non)]) : HO)), (l_3, (.lst (List.map V.int ((cutL word none (some ((cell % (word.length : Int))))))) : HO))] ++ List.flatten [rosOwn gV (([(l_11, (((((List.map V.int ((cutL word none (some ((cell % (word.length : Int)))))))) ++ ([(List.getD ([(V.int heaps), (V.int ((heaps + (cell % 1000000000)))), (V.int ((-1))), (V.int (((-1) - (cell % 1000000000)))), (V.bl true), (V.bl false), V.non, (V.str ("0"))]) (Int.toNat (((cell / 60) % 8))) V.non)]))) ++ ((List.map V.int ((cutL word (some (((cell % (word.length : Int)) + 1))) none)))))), (l_15, (List.map V.int ((word ++ ([0]))))), (l_21, (((List.map V.int ((cutL word (some 1) none)))) ++ ([(List.getD ([(V.int heaps), (V.int ((heaps + (cell % 1000000000)))), (V.int ((-1))), (V.int (((-1) - (cell % 1000000000)))), (V.bl true), (V.bl false), V.non, (V.str ("0"))]) (Int.toNat (((cell / 60) % 8))) V.non), (V.int 0)])))] : List (RO (List V))))]) := Fr.radd (g := gV) (pre := [(l_23, (.lst [V.ref l_11, V.ref l_15, V.ref l_21] : HO)), (l_19, (.lst ([(List.getD ([(V.int heaps), (V.int ((heaps + (cell % 1000000000)))), (V.int ((-1))), (V.int (((-1) - (cell % 1000000000)))), (V.bl true), (V.bl false), V.non, (V.str ("0"))]) (Int.toNat (((cell / 60) % 8))) V.non), (V.int 0)]) : HO)), (l_17, (.lst (List.map V.int ((cutL word (some 1) none))) : HO)), (l_13, (.lst (List.map V.int ([0])) : HO)), (l_9, (.lst (List.map V.int ((cutL word (some (((cell % (word.length : Int)) + 1))) none))) : HO)), (l_7, (.lst ((((List.map V.int ((cutL word none (some ((cell % (word.length : Int)))))))) ++ ([(List.getD ([(V.int heaps), (V.int ((heaps + (cell % 1000000000)))), (V.int ((-1))), (V.int (((-1) - (cell % 1000000000)))), (V.bl true), (V.bl false), V.non, (V.str ("0"))]) (Int.toNat (((cell / 60) % 8))) V.non)]))) : HO)), (l_5, (.lst ([(List.getD ([(V.int heaps), (V.int ((heaps + (cell % 1000000000)))), (V.int ((-1))), (V.int (((-1) - (cell % 1000000000)))), (V.bl true), (V.bl false), V.non, (V.str ("0"))]) (Int.toNat (((cell / 60) % 8))) V.non)]) : HO)), (l_3, (.lst (List.map V.int ((cutL word none (some ((cell % (word.length : Int))))))) : HO))]) (ts := []) (rows := ([(l_11, (((((List.map V.int ((cutL word none (some ((cell % (word.length : Int)))))))) ++ ([(List.getD ([(V.int heaps), (V.int ((heaps + (cell % 1000000000)))), (V.int ((-1))), (V.int (((-1) - (cell % 1000000000)))), (V.bl true), (V.bl false), V.non, (V.str ("0"))]) (Int.toNat (((cell / 60) % 8))) V.non)]))) ++ ((List.map V.int ((cutL word (some (((cell % (word.length : Int)) + 1))) none)))))), (l_15, (List.map V.int ((word ++ ([0])))))] : List (RO (List V)))) (x := (((List.map V.int ((cutL word (some 1) none)))) ++ ([(List.getD ([(V.int heaps), (V.int ((heaps + (cell % 1000000000)))), (V.int ((-1))), (V.int (((-1) - (cell % 1000000000)))), (V.bl true), (V.bl false), V.non, (V.str ("0"))]) (Int.toNat (((cell / 60) % 8))) V.non), (V.int 0)]))) fr
    have fr : Fr H _ ([(l_23, (.lst (List.map rref (([(l_11, (((((List.map V.int ((cutL word none (some ((cell % (word.length : Int)))))))) ++ ([(List.getD ([(V.int heaps), (V.int ((heaps + (cell % 1000000000)))), (V.int ((-1))), (V.int (((-1) - (cell % 1000000000)))), (V.bl true), (V.bl false), V.non, (V.str ("0"))]) (Int.toNat (((cell / 60) % 8))) V.non)]))) ++ ((List.map V.int ((cutL word (some (((cell % (word.length : Int)) + 1))) none)))))), (l_15, (List.map V.int ((word ++ ([0]))))), (l_21, (((List.map V.int ((cutL word (some 1) none)))) ++ ([(List.getD ([(V.int heaps), (V.int ((heaps + (cell % 1000000000)))), (V.int ((-1))), (V.int (((-1) - (cell % 1000000000)))), (V.bl true), (V.bl false), V.non, (V.str ("0"))]) (Int.toNat (((cell / 60) % 8))) V.non), (V.int 0)])))] : List (RO (List V))))) : HO)), (l_19, (.lst ([(List.getD ([(V.int heaps), (V.int ((heaps + (cell % 1000000000)))), (V.int ((-1))), (V.int (((-1) - (cell % 1000000000)))), (V.bl true), (V.bl false), V.non, (V.str ("0"))]) (Int.toNat (((cell / 60) % 8))) V.non), (V.int 0)]) : HO)), (l_17, (.lst (List.map V.int ((cutL word (some 1) none))) : HO)), (l_13, (.lst (List.map V.int ([0])) : HO)), (l_9, (.lst (List.map V.int ((cutL word (some (((cell % (word.length : Int)) + 1))) none))) : HO)), (l_7, (.lst ((((List.map V.int ((cutL word none (some ((cell % (word.length : Int)))))))) ++ ([(List.getD ([(V.int heaps), (V.int ((heaps + (cell % 1000000000)))), (V.int ((-1))), (V.int (((-1) - (cell % 1000000000)))), (V.bl true), (V.bl false), V.non, (V.str ("0"))]) (Int.toNat (((cell / 60) % 8))) V.non)]))) : HO)), (l_5, (.lst ([(List.getD ([(V.int heaps), (V.int ((heaps + (cell % 1000000000)))), (V.int ((-1))), (V.int (((-1) - (cell % 1000000000)))), (V.bl true), (V.bl false), V.non, (V.str ("0"))]) (Int.toNat (((cell / 60) % 8))) V.non)]) : HO)), (l_3, (.lst (List.map V.int ((cutL word none (some ((cell % (word.length : Int))))))) : HO))] ++ List.flatten [rosOwn gV (([(l_11, (((((List.map V.int ((cutL word none (some ((cell % (word.length : Int)))))))) ++ ([(List.getD ([(V.int heaps), (V.int ((heaps + (cell % 1000000000)))), (V.int ((-1))), (V.int (((-1) - (cell % 1000000000)))), (V.bl true), (V.bl false), V.non, (V.str ("0"))]) (Int.toNat (((cell / 60) % 8))) V.non)]))) ++ ((List.map V.int ((cutL word (some (((cell % (word.length : Int)) + 1))) none)))))), (l_15, (List.map V.int ((word ++ ([0]))))), (l_21, (((List.map V.int ((cutL word (some 1) none)))) ++ ([(List.getD ([(V.int heaps), (V.int ((heaps + (cell % 1000000000)))), (V.int ((-1))), (V.int (((-1) - (cell % 1000000000)))), (V.bl true), (V.bl false), V.non, (V.str ("0"))]) (Int.toNat (((cell / 60) % 8))) V.non), (V.int 0)])))] : List (RO (List V))))]) := fr
    have fr : Fr H _ ([(l_23, (.lst (List.map rref (([(l_11, (((((List.map V.int ((cutL word none (some ((cell % (word.length : Int)))))))) ++ ([(List.getD ([(V.int heaps), (V.int ((heaps + (cell % 1000000000)))), (V.int ((-1))), (V.int (((-1) - (cell % 1000000000)))), (V.bl true), (V.bl false), V.non, (V.str ("0"))]) (Int.toNat (((cell / 60) % 8))) V.non)]))) ++ ((List.map V.int ((cutL word (some (((cell % (word.length : Int)) + 1))) none)))))), (l_15, (List.map V.int ((word ++ ([0]))))), (l_21, (((List.map V.int ((cutL word (some 1) none)))) ++ ([(List.getD ([(V.int heaps), (V.int ((heaps + (cell % 1000000000)))), (V.int ((-1))), (V.int (((-1) - (cell % 1000000000)))), (V.bl true), (V.bl false), V.non, (V.str ("0"))]) (Int.toNat (((cell / 60) % 8))) V.non), (V.int 0)])))] : List (RO (List V))))) : HO)), (l_17, (.lst (List.map V.int ((cutL word (some 1) none))) : HO)), (l_13, (.lst (List.map V.int ([0])) : HO)), (l_9, (.lst (List.map V.int ((cutL word (some (((cell % (word.length : Int)) + 1))) none))) : HO)), (l_7, (.lst ((((List.map V.int ((cutL word none (some ((cell % (word.length : Int)))))))) ++ ([(List.getD ([(V.int heaps), (V.int ((heaps + (cell % 1000000000)))), (V.int ((-1))), (V.int (((-1) - (cell % 1000000000)))), (V.bl true), (V.bl false), V.non, (V.str ("0"))]) (Int.toNat (((cell / 60) % 8))) V.non)]))) : HO)), (l_5, (.lst ([(List.getD ([(V.int heaps), (V.int ((heaps + (cell % 1000000000)))), (V.int ((-1))), (V.int (((-1) - (cell % 1000000000)))), (V.bl true), (V.bl false), V.non, (V.str ("0"))]) (Int.toNat (((cell / 60) % 8))) V.non)]) : HO)), (l_3, (.lst (List.map V.int ((cutL word none (some ((cell % (word.length : Int))))))) : HO))] ++ List.flatten [rosOwn gV (([(l_11, (((((List.map V.int ((cutL word none (some ((cell % (word.length : Int)))))))) ++ ([(List.getD ([(V.int heaps), (V.int ((heaps + (cell % 1000000000)))), (V.int ((-1))), (V.int (((-1) - (cell % 1000000000)))), (V.bl true), (V.bl false), V.non, (V.str ("0"))]) (Int.toNat (((cell / 60) % 8))) V.non)]))) ++ ((List.map V.int ((cutL word (some (((cell % (word.length : Int)) + 1))) none)))))), (l_15, (List.map V.int ((word ++ ([0]))))), (l_21, (((List.map V.int ((cutL word (some 1) none)))) ++ ([(List.getD ([(V.int heaps), (V.int ((heaps + (cell % 1000000000)))), (V.int ((-1))), (V.int (((-1) - (cell % 1000000000)))), (V.bl true), (V.bl false), V.non, (V.str ("0"))]) (Int.toNat (((cell / 60) % 8))) V.non), (V.int 0)])))] : List (RO (List V))))]) := Fr.dk fr 1
    have fr : Fr H _ ([(l_23, (.lst (List.map rref (([(l_11, (((((List.map V.int ((cutL word none (some ((cell % (word.length : Int)))))))) ++ ([(List.getD ([(V.int heaps), (V.int ((heaps + (cell % 1000000000)))), (V.int ((-1))), (V.int (((-1) - (cell % 1000000000)))), (V.bl true), (V.bl false), V.non, (V.str ("0"))]) (Int.toNat (((cell / 60) % 8))) V.non)]))) ++ ((List.map V.int ((cutL word (some (((cell % (word.length : Int)) + 1))) none)))))), (l_15, (List.map V.int ((word ++ ([0]))))), (l_21, (((List.map V.int ((cutL word (some 1) none)))) ++ ([(List.getD ([(V.int heaps), (V.int ((heaps + (cell % 1000000000)))), (V.int ((-1))), (V.int (((-1) - (cell % 1000000000)))), (V.bl true), (V.bl false), V.non, (V.str ("0"))]) (Int.toNat (((cell / 60) % 8))) V.non), (V.int 0)])))] : List (RO (List V))))) : HO)), (l_13, (.lst (List.map V.int ([0])) : HO)), (l_9, (.lst (List.map V.int ((cutL word (some (((cell % (word.length : Int)) + 1))) none))) : HO)), (l_7, (.lst ((((List.map V.int ((cutL word none (some ((cell % (word.length : Int)))))))) ++ ([(List.getD ([(V.int heaps), (V.int ((heaps + (cell % 1000000000)))), (V.int ((-1))), (V.int (((-1) - (cell % 1000000000)))), (V.bl true), (V.bl false), V.non, (V.str ("0"))]) (Int.toNat (((cell / 60) % 8))) V.non)]))) : HO)), (l_5, (.lst ([(List.getD ([(V.int heaps), (V.int ((heaps + (cell % 1000000000)))), (V.int ((-1))), (V.int (((-1) - (cell % 1000000000)))), (V.bl true), (V.bl false), V.non, (V.str ("0"))]) (Int.toNat (((cell / 60) % 8))) V.non)]) : HO)), (l_3, (.lst (List.map V.int ((cutL word none (some ((cell % (word.length : Int))))))) : HO))] ++ List.flatten [rosOwn gV (([(l_11, (((((List.map V.int ((cutL word none (some ((cell % (word.length : Int)))))))) ++ ([(List.getD ([(V.int heaps), (V.int ((heaps + (cell % 1000000000)))), (V.int ((-1))), (V.int (((-1) - (cell % 1000000000)))), (V.bl true), (V.bl false), V.non, (V.str ("0"))]) (Int.toNat (((cell / 60) % 8))) V.non)]))) ++ ((List.map V.int ((cutL word (some (((cell % (word.length : Int)) + 1))) none)))))), (l_15, (List.map V.int ((word ++ ([0]))))), (l_21, (((List.map V.int ((cutL word (some 1) none)))) ++ ([(List.getD ([(V.int heaps), (V.int ((heaps + (cell % 1000000000)))), (V.int ((-1))), (V.int (((-1) - (cell % 1000000000)))), (V.bl true), (V.bl false), V.non, (V.str ("0"))]) (Int.toNat (((cell / 60) % 8))) V.non), (V.int 0)])))] : List (RO (List V))))]) := Fr.dk fr 1
    have fr : Fr H _ ([(l_23, (.lst (List.map rref (([(l_11, (((((List.map V.int ((cutL word none (some ((cell % (word.length : Int)))))))) ++ ([(List.getD ([(V.int heaps), (V.int ((heaps + (cell % 1000000000)))), (V.int ((-1))), (V.int (((-1) - (cell % 1000000000)))), (V.bl true), (V.bl false), V.non, (V.str ("0"))]) (Int.toNat (((cell / 60) % 8))) V.non)]))) ++ ((List.map V.int ((cutL word (some (((cell % (word.length : Int)) + 1))) none)))))), (l_15, (List.map V.int ((word ++ ([0]))))), (l_21, (((List.map V.int ((cutL word (some 1) none)))) ++ ([(List.getD ([(V.int heaps), (V.int ((heaps + (cell % 1000000000)))), (V.int ((-1))), (V.int (((-1) - (cell % 1000000000)))), (V.bl true), (V.bl false), V.non, (V.str ("0"))]) (Int.toNat (((cell / 60) % 8))) V.non), (V.int 0)])))] : List (RO (List V))))) : HO)), (l_9, (.lst (List.map V.int ((cutL word (some (((cell % (word.length : Int)) + 1))) none))) : HO)), (l_7, (.lst ((((List.map V.int ((cutL word none (some ((cell % (word.length : Int)))))))) ++ ([(List.getD ([(V.int heaps), (V.int ((heaps + (cell % 1000000000)))), (V.int ((-1))), (V.int (((-1) - (cell % 1000000000)))), (V.bl true), (V.bl false), V.non, (V.str ("0"))]) (Int.toNat (((cell / 60) % 8))) V.non)]))) : HO)), (l_5, (.lst ([(List.getD ([(V.int heaps), (V.int ((heaps + (cell % 1000000000)))), (V.int ((-1))), (V.int (((-1) - (cell % 1000000000)))), (V.bl true), (V.bl false), V.non, (V.str ("0"))]) (Int.toNat (((cell / 60) % 8))) V.non)]) : HO)), (l_3, (.lst (List.map V.int ((cutL word none (some ((cell % (word.length : Int))))))) : HO))] ++ List.flatten [rosOwn gV (([(l_11, (((((List.map V.int ((cutL word none (some ((cell % (word.length : Int)))))))) ++ ([(List.getD ([(V.int heaps), (V.int ((heaps + (cell % 1000000000)))), (V.int ((-1))), (V.int (((-1) - (cell % 1000000000)))), (V.bl true), (V.bl false), V.non, (V.str ("0"))]) (Int.toNat (((cell / 60) % 8))) V.non)]))) ++ ((List.map V.int ((cutL word (some (((cell % (word.length : Int)) + 1))) none)))))), (l_15, (List.map V.int ((word ++ ([0]))))), (l_21, (((List.map V.int ((cutL word (some 1) none)))) ++ ([(List.getD ([(V.int heaps), (V.int ((heaps + (cell % 1000000000)))), (V.int ((-1))), (V.int (((-1) - (cell % 1000000000)))), (V.bl true), (V.bl false), V.non, (V.str ("0"))]) (Int.toNat (((cell / 60) % 8))) V.non), (V.int 0)])))] : List (RO (List V))))]) := Fr.dk fr 1
    have fr : Fr H _ ([(l_23, (.lst (List.map rref (([(l_11, (((((List.map V.int ((cutL word none (some ((cell % (word.length : Int)))))))) ++ ([(List.getD ([(V.int heaps), (V.int ((heaps + (cell % 1000000000)))), (V.int ((-1))), (V.int (((-1) - (cell % 1000000000)))), (V.bl true), (V.bl false), V.non, (V.str ("0"))]) (Int.toNat (((cell / 60) % 8))) V.non)]))) ++ ((List.map V.int ((cutL word (some (((cell % (word.length : Int)) + 1))) none)))))), (l_15, (List.map V.int ((word ++ ([0]))))), (l_21, (((List.map V.int ((cutL word (some 1) none)))) ++ ([(List.getD ([(V.int heaps), (V.int ((heaps + (cell % 1000000000)))), (V.int ((-1))), (V.int (((-1) - (cell % 1000000000)))), (V.bl true), (V.bl false), V.non, (V.str ("0"))]) (Int.toNat (((cell / 60) % 8))) V.non), (V.int 0)])))] : List (RO (List V))))) : HO)), (l_7, (.lst ((((List.map V.int ((cutL word none (some ((cell % (word.length : Int)))))))) ++ ([(List.getD ([(V.int heaps), (V.int ((heaps + (cell % 1000000000)))), (V.int ((-1))), (V.int (((-1) - (cell % 1000000000)))), (V.bl true), (V.bl false), V.non, (V.str ("0"))]) (Int.toNat (((cell / 60) % 8))) V.non)]))) : HO)), (l_5, (.lst ([(List.getD ([(V.int heaps), (V.int ((heaps + (cell % 1000000000)))), (V.int ((-1))), (V.int (((-1) - (cell % 1000000000)))), (V.bl true), (V.bl false), V.non, (V.str ("0"))]) (Int.toNat (((cell / 60) % 8))) V.non)]) : HO)), (l_3, (.lst (List.map V.int ((cutL word none (some ((cell % (word.length : Int))))))) : HO))] ++ List.flatten [rosOwn gV (([(l_11, (((((List.map V.int ((cutL word none (some ((cell % (word.length : Int)))))))) ++ ([(List.getD ([(V.int heaps), (V.int ((heaps + (cell % 1000000000)))), (V.int ((-1))), (V.int (((-1) - (cell % 1000000000)))), (V.bl true), (V.bl false), V.non, (V.str ("0"))]) (Int.toNat (((cell / 60) % 8))) V.non)]))) ++ ((List.map V.int ((cutL word (some (((cell % (word.length : Int)) + 1))) none)))))), (l_15, (List.map V.int ((word ++ ([0]))))), (l_21, (((List.map V.int ((cutL word (some 1) none)))) ++ ([(List.getD ([(V.int heaps), (V.int ((heaps + (cell % 1000000000)))), (V.int ((-1))), (V.int (((-1) - (cell % 1000000000)))), (V.bl true), (V.bl false), V.non, (V.str ("0"))]) (Int.toNat (((cell / 60) % 8))) V.non), (V.int 0)])))] : List (RO (List V))))]) := Fr.dk fr 1
    have fr : Fr H _ ([(l_23, (.lst (List.map rref (([(l_11, (((((List.map V.int ((cutL word none (some ((cell % (word.length : Int)))))))) ++ ([(List.getD ([(V.int heaps), (V.int ((heaps + (cell % 1000000000)))), (V.int ((-1))), (V.int (((-1) - (cell % 1000000000)))), (V.bl true), (V.bl false), V.non, (V.str ("0"))]) (Int.toNat (((cell / 60) % 8))) V.non)]))) ++ ((List.map V.int ((cutL word (some (((cell % (word.length : Int)) + 1))) none)))))), (l_15, (List.map V.int ((word ++ ([0]))))), (l_21, (((List.map V.int ((cutL word (some 1) none)))) ++ ([(List.getD ([(V.int heaps), (V.int ((heaps + (cell % 1000000000)))), (V.int ((-1))), (V.int (((-1) - (cell % 1000000000)))), (V.bl true), (V.bl false), V.non, (V.str ("0"))]) (Int.toNat (((cell / 60) % 8))) V.non), (V.int 0)])))] : List (RO (List V))))) : HO)), (l_5, (.lst ([(List.getD ([(V.int heaps), (V.int ((heaps + (cell % 1000000000)))), (V.int ((-1))), (V.int (((-1) - (cell % 1000000000)))), (V.bl true), (V.bl false), V.non, (V.str ("0"))]) (Int.toNat (((cell / 60) % 8))) V.non)]) : HO)), (l_3, (.lst (List.map V.int ((cutL word none (some ((cell % (word.length : Int))))))) : HO))] ++ List.flatten [rosOwn gV (([(l_11, (((((List.map V.int ((cutL word none (some ((cell % (word.length : Int)))))))) ++ ([(List.getD ([(V.int heaps), (V.int ((heaps + (cell % 1000000000)))), (V.int ((-1))), (V.int (((-1) - (cell % 1000000000)))), (V.bl true), (V.bl false), V.non, (V.str ("0"))]) (Int.toNat (((cell / 60) % 8))) V.non)]))) ++ ((List.map V.int ((cutL word (some (((cell % (word.length : Int)) + 1))) none)))))), (l_15, (List.map V.int ((word ++ ([0]))))), (l_21, (((List.map V.int ((cutL word (some 1) none)))) ++ ([(List.getD ([(V.int heaps), (V.int ((heaps + (cell % 1000000000)))), (V.int ((-1))), (V.int (((-1) - (cell % 1000000000)))), (V.bl true), (V.bl false), V.non, (V.str ("0"))]) (Int.toNat (((cell / 60) % 8))) V.non), (V.int 0)])))] : List (RO (List V))))]) := Fr.dk fr 1
    have fr : Fr H _ ([(l_23, (.lst (List.map rref (([(l_11, (((((List.map V.int ((cutL word none (some ((cell % (word.length : Int)))))))) ++ ([(List.getD ([(V.int heaps), (V.int ((heaps + (cell % 1000000000)))), (V.int ((-1))), (V.int (((-1) - (cell % 1000000000)))), (V.bl true), (V.bl false), V.non, (V.str ("0"))]) (Int.toNat (((cell / 60) % 8))) V.non)]))) ++ ((List.map V.int ((cutL word (some (((cell % (word.length : Int)) + 1))) none)))))), (l_15, (List.map V.int ((word ++ ([0]))))), (l_21, (((List.map V.int ((cutL word (some 1) none)))) ++ ([(List.getD ([(V.int heaps), (V.int ((heaps + (cell % 1000000000)))), (V.int ((-1))), (V.int (((-1) - (cell % 1000000000)))), (V.bl true), (V.bl false), V.non, (V.str ("0"))]) (Int.toNat (((cell / 60) % 8))) V.non), (V.int 0)])))] : List (RO (List V))))) : HO)), (l_3, (.lst (List.map V.int ((cutL word none (some ((cell % (word.length : Int))))))) : HO))] ++ List.flatten [rosOwn gV (([(l_11, (((((List.map V.int ((cutL word none (some ((cell % (word.length : Int)))))))) ++ ([(List.getD ([(V.int heaps), (V.int ((heaps + (cell % 1000000000)))), (V.int ((-1))), (V.int (((-1) - (cell % 1000000000)))), (V.bl true), (V.bl false), V.non, (V.str ("0"))]) (Int.toNat (((cell / 60) % 8))) V.non)]))) ++ ((List.map V.int ((cutL word (some (((cell % (word.length : Int)) + 1))) none)))))), (l_15, (List.map V.int ((word ++ ([0]))))), (l_21, (((List.map V.int ((cutL word (some 1) none)))) ++ ([(List.getD ([(V.int heaps), (V.int ((heaps + (cell % 1000000000)))), (V.int ((-1))), (V.int (((-1) - (cell % 1000000000)))), (V.bl true), (V.bl false), V.non, (V.str ("0"))]) (Int.toNat (((cell / 60) % 8))) V.non), (V.int 0)])))] : List (RO (List V))))]) := Fr.dk fr 1
    have fr : Fr H _ ([(l_23, (.lst (List.map rref (([(l_11, (((((List.map V.int ((cutL word none (some ((cell % (word.length : Int)))))))) ++ ([(List.getD ([(V.int heaps), (V.int ((heaps + (cell % 1000000000)))), (V.int ((-1))), (V.int (((-1) - (cell % 1000000000)))), (V.bl true), (V.bl false), V.non, (V.str ("0"))]) (Int.toNat (((cell / 60) % 8))) V.non)]))) ++ ((List.map V.int ((cutL word (some (((cell % (word.length : Int)) + 1))) none)))))), (l_15, (List.map V.int ((word ++ ([0]))))), (l_21, (((List.map V.int ((cutL word (some 1) none)))) ++ ([(List.getD ([(V.int heaps), (V.int ((heaps + (cell % 1000000000)))), (V.int ((-1))), (V.int (((-1) - (cell % 1000000000)))), (V.bl true), (V.bl false), V.non, (V.str ("0"))]) (Int.toNat (((cell / 60) % 8))) V.non), (V.int 0)])))] : List (RO (List V))))) : HO))] ++ List.flatten [rosOwn gV (([(l_11, (((((List.map V.int ((cutL word none (some ((cell % (word.length : Int)))))))) ++ ([(List.getD ([(V.int heaps), (V.int ((heaps + (cell % 1000000000)))), (V.int ((-1))), (V.int (((-1) - (cell % 1000000000)))), (V.bl true), (V.bl false), V.non, (V.str ("0"))]) (Int.toNat (((cell / 60) % 8))) V.non)]))) ++ ((List.map V.int ((cutL word (some (((cell % (word.length : Int)) + 1))) none)))))), (l_15, (List.map V.int ((word ++ ([0]))))), (l_21, (((List.map V.int ((cutL word (some 1) none)))) ++ ([(List.getD ([(V.int heaps), (V.int ((heaps + (cell % 1000000000)))), (V.int ((-1))), (V.int (((-1) - (cell % 1000000000)))), (V.bl true), (V.bl false), V.non, (V.str ("0"))]) (Int.toNat (((cell / 60) % 8))) V.non), (V.int 0)])))] : List (RO (List V))))]) := Fr.dk fr 1
    exact q _ _ _ (([(((((List.map V.int ((cutL word none (some ((cell % (word.length : Int)))))))) ++ ([(List.getD ([(V.int heaps), (V.int ((heaps + (cell % 1000000000)))), (V.int ((-1))), (V.int (((-1) - (cell % 1000000000)))), (V.bl true), (V.bl false), V.non, (V.str ("0"))]) (Int.toNat (((cell / 60) % 8))) V.non)]))) ++ ((List.map V.int ((cutL word (some (((cell % (word.length : Int)) + 1))) none))))), (List.map V.int ((word ++ ([0])))), (((List.map V.int ((cutL word (some 1) none)))) ++ ([(List.getD ([(V.int heaps), (V.int ((heaps + (cell % 1000000000)))), (V.int ((-1))), (V.int (((-1) - (cell % 1000000000)))), (V.bl true), (V.bl false), V.non, (V.str ("0"))]) (Int.toNat (((cell / 60) % 8))) V.non), (V.int 0)]))] : List (List V))) (by exact all3 (P := fun z : List V => Sca z ∧ z.length ≤ 200 ∧ (isWordV (Int.toNat heaps) z (z.length : Int) = false ∨ (z.length : Int) ≠ (word.length : Int))) ⟨Sca.app (Sca.app (Sca.ints _) (Sca.cons hpart Sca.nil)) (Sca.ints _), by simp only [List.length_append, List.length_map, List.length_cons, List.length_nil, cutL_length]; omega, Or.inl (isWordV_mem mid_mem hpartn)⟩ ⟨Sca.ints _, by rw [List.length_map, List.length_append]; simp only [List.length_cons, List.length_nil]; omega, Or.inr (by rw [List.length_map, List.length_append]; simp only [List.length_cons, List.length_nil]; omega)⟩ ⟨Sca.app (Sca.ints _) (Sca.cons hpart (Sca.cons rfl Sca.nil)), by simp only [List.length_append, List.length_map, List.length_cons, List.length_nil, cutL_length]; omega, Or.inl (isWordV_mem (List.mem_append_right _ List.mem_cons_self) hpartn)⟩) (by exact (by decide : 1 ≤ 3)) (by exact isWordV_mem mid_mem hpartn) (Fr.tabback (g := gV) (pre := []) (ts := []) (rows := (([(l_11, (((((List.map V.int ((cutL word none (some ((cell % (word.length : Int)))))))) ++ ([(List.getD ([(V.int heaps), (V.int ((heaps + (cell % 1000000000)))), (V.int ((-1))), (V.int (((-1) - (cell % 1000000000)))), (V.bl true), (V.bl false), V.non, (V.str ("0"))]) (Int.toNat (((cell / 60) % 8))) V.non)]))) ++ ((List.map V.int ((cutL word (some (((cell % (word.length : Int)) + 1))) none)))))), (l_15, (List.map V.int ((word ++ ([0]))))), (l_21, (((List.map V.int ((cutL word (some 1) none)))) ++ ([(List.getD ([(V.int heaps), (V.int ((heaps + (cell % 1000000000)))), (V.int ((-1))), (V.int (((-1) - (cell % 1000000000)))), (V.bl true), (V.bl false), V.non, (V.str ("0"))]) (Int.toNat (((cell / 60) % 8))) V.non), (V.int 0)])))] : List (RO (List V))))) fr rfl) fr.same
def sp_is_whole (K : PySem.W.Frag) : Sp := fun vs H Q _ => ∃ (thing : V), vs = [thing] ∧ (sca thing = true) ∧ (∀ (H1 : Hp) (res : Bool), (res = wholeV thing) → Same H H1 → Q (V.bl res) H1)
theorem sc_is_whole : FnScope ["thing"] ["thing"] (defScope s_is_whole) := ⟨rfl, rfl, rfl, by decide +kernel, rfl, by decide +kernel, by decide +kernel⟩
theorem ok_is_whole (T : Txt K mg) : FnOk P w K mg base CX0 1 T.f_is_whole T.fd_is_whole ["thing"] (sp_is_whole K) := by
  refine T.F_is_whole.ok sc_is_whole (fun vs H Q E h => ?_) (fun cdv A outer s H vs Q E hr h => ?_)
  · obtain ⟨thing, rfl, _⟩ := h; rfl
  · obtain ⟨thing, rfl, pre0, q⟩ := h
    have fr := Fr.nil H
    refine ⟨_, (pss_one (ps_ret (pe_and (pe_splS (pe_callB (show CallR _ _ (rIsi K) from call_isi) (by rfl) T.m_isinstance (by decide +kernel) (pa_cons (pv 0) (pa_cons (pe_bltn (v := .ty "int") (by rfl) T.m_int (by decide +kernel) rfl) pa_nil)))) (pe_one (pe_not (pe_callB (show CallR _ _ (rIsi K) from call_isi) (by rfl) T.m_isinstance (by decide +kernel) (pa_cons (pv 0) (pa_cons (pe_bltn (v := .ty "bool") (by rfl) T.m_bool (by decide +kernel) rfl) pa_nil)))))))), ?_⟩
    refine ⟨_, rfl, _, _, _, _, _, rfl, (ClsV.ty _), (tyx_val ?_), (kit_int ?_), _, rfl, ?_, ?_⟩
    · walk_at "side"
    · walk_at "side"
    · intro h1
      refine ⟨_, rfl, ?_⟩
      refine iteT ?_
      refine ⟨_, rfl, _, _, _, _, _, rfl, (ClsV.ty _), (tyx_val ?_), (kit_bool ?_), _, rfl, ?_⟩
      · walk_at "side"
      · walk_at "side"
      exact q _ ((!((is_bool thing)))) (by simp_all [wholeV]) fr.same
    · intro h1
      refine ⟨_, rfl, ?_⟩
      refine iteF ?_
      exact q _ false (by simp_all [wholeV]) fr.same
def sp_is_word (K : PySem.W.Frag) : Sp := fun vs H Q _ => ∃ (a_marks : Addr) (marks : List Bool) (a_word : Addr) (word : List V) (n : Int), vs = [V.ref a_marks, V.ref a_word, V.int n] ∧ H a_marks = some (.lst (List.map V.bl marks)) ∧ H a_word = some (.lst word) ∧ (Sca word) ∧ (word.length ≤ 1000) ∧ (∀ (H1 : Hp) (res : Bool), (res = isWordV marks.length word n) → Same H H1 → Q (V.bl res) H1)
theorem sc_is_word : FnScope ["marks", "word", "n", "heap"] ["marks", "word", "n"] (defScope s_is_word) := ⟨rfl, rfl, rfl, by decide +kernel, rfl, by decide +kernel, by decide +kernel⟩
theorem ok_is_word (T : Txt K mg) : FnOk P w K mg base CX0 2 T.f_is_word T.fd_is_word ["marks", "word", "n"] (sp_is_word K) := by
  refine T.F_is_word.ok sc_is_word (fun vs H Q E h => ?_) (fun cdv A outer s H vs Q E hr h => ?_)
  · obtain ⟨a_marks, marks, a_word, word, n, rfl, _⟩ := h; rfl
  · obtain ⟨a_marks, marks, a_word, word, n, rfl, h_marks, h_word, pre0, pre1, q⟩ := h
    have fr := Fr.nil H
    refine ⟨_, (pss_cons (ps_if (pt_cmpR op_neS (pe_callB (show CallR _ _ (rLenL K) from call_lenL) (by rfl) T.m_len (by decide +kernel) (pa_cons (pv 1) pa_nil)) (pv 2) (nomark _)) (pss_one (ps_ret pe_bl)) pss_nil)
          (pss_one (ps_ret (pe_callB (show CallR _ _ (rAll K) from cr_all rfl) (by rfl) T.m_all (by decide +kernel) (pa_cons (pe_lc (own := [("heap", 3)]) (g := gName 3) (tt := tYes) rfl sc_is_word.nd (pi_list (pv 1)) (blkOk_by (N := ["marks", "word", "n", "heap"]) (sc := (defScope s_is_word)) (by decide +kernel)) (fun _ _ _ _ _ => pg_name (i := 3) sc_is_word.nd rfl (Or.inl rfl)) (fun _ _ _ _ _ => pts_nil) (fun _ _ _ _ _ => (pe_and (pe_splS (pe_call (ok_is_whole T) (hr.mono (by decide)) (by rfl) T.g_is_whole T.F_is_whole.kp T.b_is_whole .nil pass0 (pa_cons (pv 3) pa_nil))) (pe_one (pe_chain op_leS op_ltS pe_int (pv 3) (pe_callB (show CallR _ _ (rLenL K) from call_lenL) (by rfl) T.m_len (by decide +kernel) (pa_cons (pv 0) pa_nil))))))) pa_nil))))), ?_⟩
    refine ⟨_, rfl, _, _, _, rfl, (SqL.of (fr.same _ _ h_word)), rfl, _, rfl, _, _, rfl, rfl, ?_, ?_⟩
    · intro h1
      refine ⟨_, rfl, ?_⟩
      refine iteT ?_
      exact q _ false (by first | (simp_all [isWordV]; done) | (simp_all [isWordV]; exact (List.all_map ..).symm)) fr.same
    · intro h1
      refine ⟨_, rfl, ?_⟩
      refine iteF ?_
      refine ⟨_, rfl, _, rfl, ⟨_, (SqL.of (fr.same _ _ h_word))⟩, ?_⟩
      intro D_2 nD_3
      refine lc_it (walkV word) (fun (i : Nat) H1 => Fr H H1 [(D_2, (.lst (List.map V.bl ((List.map (fun y : V => wordPart marks.length y) (List.take i word)))) : HO))]) (fr.new nD_3) (fun i H1 hi fr => (fr.same _ _ h_word)) ?_ ?_
      · rintro i_5 x_9 H_7 H_8 hi_6 fr ⟨rfl, hy_11⟩
        refine ⟨rfl, ?_⟩
        refine ⟨_, rfl, x_9, rfl, ?_, fun H_12 is_whole_13 hp_15 sm_14 => ?_⟩
        · exact pre0 _ (List.mem_of_getElem? (by assumption))
        have fr : Fr H _ [(D_2, (.lst (List.map V.bl ((List.map (fun y : V => wordPart marks.length y) (List.take i_5 word)))) : HO))] := fr.call sm_14
        subst hp_15
        refine ⟨_, rfl, ?_, ?_⟩
        · intro h16
          obtain ⟨z_17, ez_18⟩ := wholeV_int h16
          subst ez_18
          refine ⟨_, rfl, ?_⟩
          refine iteT ?_
          refine ⟨_, rfl, _, _, rfl, rfl, ?_, ?_⟩
          · intro h19
            refine ⟨_, rfl, ?_⟩
            refine iteT ?_
            refine ⟨_, rfl, _, _, _, rfl, (SqL.of (fr.same _ _ h_marks)), (List.length_map _), _, _, rfl, rfl, ?_, ?_⟩
            · intro h20
              refine ⟨_, (Fr.atk fr 0 rfl), ?_, ?_⟩
              · walk_at "csize"
              exact (Fr.wr fr).cast (lc_lx hy_11 (by first | exact wp_no (by assumption) | exact wp_f1 (by assumption) | exact wp_f2 (by assumption) | exact wp_t (by assumption) (by assumption)))
            · intro h20
              refine ⟨_, (Fr.atk fr 0 rfl), ?_, ?_⟩
              · walk_at "csize"
              exact (Fr.wr fr).cast (lc_lx hy_11 (by first | exact wp_no (by assumption) | exact wp_f1 (by assumption) | exact wp_f2 (by assumption) | exact wp_t (by assumption) (by assumption)))
          · intro h19
            refine ⟨_, rfl, ?_⟩
            refine iteF ?_
            refine ⟨_, (Fr.atk fr 0 rfl), ?_, ?_⟩
            · walk_at "csize"
            exact (Fr.wr fr).cast (lc_lx hy_11 (by first | exact wp_no (by assumption) | exact wp_f1 (by assumption) | exact wp_f2 (by assumption) | exact wp_t (by assumption) (by assumption)))
        · intro h16
          refine ⟨_, rfl, ?_⟩
          refine iteF ?_
          refine ⟨_, (Fr.atk fr 0 rfl), ?_, ?_⟩
          · walk_at "csize"
          exact (Fr.wr fr).cast (lc_lx hy_11 (by first | exact wp_no (by assumption) | exact wp_f1 (by assumption) | exact wp_f2 (by assumption) | exact wp_t (by assumption) (by assumption)))
      intro H_21 fr
      have fr : Fr H _ [(D_2, (.lst (List.map V.bl ((List.map (fun y : V => wordPart marks.length y) word))) : HO))] := fr.cast (by rw [List.take_length])
      refine ⟨_, _, rfl, (SqL.of fr.at0), ?_⟩
      exact q _ ((List.all ((List.map (fun y : V => wordPart marks.length y) word)) id)) (by first | (simp_all [isWordV]; done) | (simp_all [isWordV]; exact (List.all_map ..).symm)) fr.same
def sp_check_x {K : PySem.W.Frag} {mg : Str → Option Value} (T : Txt K mg) : Sp := fun vs H Q E => ∃ (a_marks : Addr) (marks : List Bool) (a_word : Addr) (word : List V) (n : Int), vs = [V.ref a_marks, V.ref a_word, V.int n] ∧ H a_marks = some (.lst (List.map V.bl marks)) ∧ H a_word = some (.lst word) ∧ (Sca word) ∧ (word.length ≤ 1000) ∧ (∀ (H1 : Hp), (isWordV marks.length word n = true) → Same H H1 → Q V.non H1) ∧ (∀ (H1 : Hp), (isWordV marks.length word n = false) → Same H H1 → E (.ref T.C_NoRiffle) none H1)
theorem sc_check_x : FnScope ["marks", "word", "n"] ["marks", "word", "n"] (defScope s_check) := ⟨rfl, rfl, rfl, by decide +kernel, rfl, by decide +kernel, by decide +kernel⟩
theorem ok_check_x (T : Txt K mg) : FnOk P w K mg base (L2.CX P w) 3 T.f_check T.fd_check ["marks", "word", "n"] (sp_check_x T) := by
  refine T.F_check.okX sc_check_x (fun vs H Q E h => ?_) (fun cdv A outer s H vs Q E hr h => ?_)
  · obtain ⟨a_marks, marks, a_word, word, n, rfl, _⟩ := h; rfl
  · obtain ⟨a_marks, marks, a_word, word, n, rfl, h_marks, h_word, pre0, pre1, q, qe0⟩ := h
    have fr := Fr.nil H
    refine ⟨_, (pss_one (ps_if (pt_not (pt_valS (pe_call (ok_is_word T) (hr.mono (by decide)) (by rfl) T.g_is_word T.F_is_word.kp T.b_is_word .nil pass0 (pa_cons (pv 0) (pa_cons (pv 1) (pa_cons (pv 2) pa_nil)))))) (pss_one (ps_raise rfl (takes_of rfl rfl rfl rfl) (pmk_own PySem.F.excBase_ValueError T.X_NoRiffle.ex T.X_NoRiffle.g T.X_NoRiffle.kp (raises_own T.X_NoRiffle.c.hs T.X_NoRiffle.ty) rfl))) pss_nil)), ?_⟩
    refine ⟨_, rfl, _, rfl, _, rfl, a_marks, marks, a_word, word, n, rfl, (fr.same _ _ h_marks), (fr.same _ _ h_word), ?_, ?_, fun H_1 is_word_2 hp_4 sm_3 => ?_⟩
    · assumption
    · assumption
    have fr : Fr H _ [] := fr.call sm_3
    subst hp_4
    refine ⟨_, rfl, ?_, ?_⟩
    · intro h5
      refine iteF ?_
      exact q _ (by walk_at "post") fr.same
    · intro h5
      refine iteT ?_
      exact qe0 _ (by walk_at "post") fr.same
def sp_first (K : PySem.W.Frag) : Sp := fun vs H Q _ => ∃ (n : Int), vs = [V.int n] ∧ (0 ≤ n ∧ n ≤ 1000) ∧ (∀ (H1 : Hp) (rA : Addr) (res : List Int), (res = upto (Int.toNat n)) → Same H H1 → H rA = none → H1 rA = some (.lst (List.map V.int res)) → Q (V.ref rA) H1)
theorem sc_first : FnScope ["n"] ["n"] (defScope s_first) := ⟨rfl, rfl, rfl, by decide +kernel, rfl, by decide +kernel, by decide +kernel⟩
theorem ok_first (T : Txt K mg) : FnOk P w K mg base CX0 1 T.f_first T.fd_first ["n"] (sp_first K) := by
  refine T.F_first.ok sc_first (fun vs H Q E h => ?_) (fun cdv A outer s H vs Q E hr h => ?_)
  · obtain ⟨n, rfl, _⟩ := h; rfl
  · obtain ⟨n, rfl, pre0, q⟩ := h
    have fr := Fr.nil H
    refine ⟨_, (pss_one (ps_ret (pe_listRg rfl (by rfl) T.m_list (prg_1 (by rfl) T.m_range (pv 0))))), ?_⟩
    refine ⟨_, rfl, _, rfl, ?_, fun l_1 nl_2 => ?_⟩
    · walk_at "rgok"
    have fr : Fr H _ [(l_1, (.lst (List.map V.int ((rangeI n))) : HO))] := (fr.new nl_2).cast (lst_rng _)
    exact q _ _ ((rangeI n)) (by rfl) fr.same fr.n0 fr.at0
def sp_must_be_word_x {K : PySem.W.Frag} {mg : Str → Option Value} (T : Txt K mg) : Sp := fun vs H Q E => ∃ (a_marks : Addr) (marks : List Bool) (a_word : Addr) (word : List V) (n : Int), vs = [V.ref a_marks, V.ref a_word, V.int n] ∧ H a_marks = some (.lst (List.map V.bl marks)) ∧ H a_word = some (.lst word) ∧ (Sca word) ∧ (word.length ≤ 1000) ∧ (∀ (H1 : Hp), (isWordV marks.length word n = true) → Same H H1 → Q V.non H1) ∧ (∀ (H1 : Hp), (isWordV marks.length word n = false) → Same H H1 → E (.ref T.C_NoRiffle) none H1)
theorem sc_must_be_word_x : FnScope ["marks", "word", "n"] ["marks", "word", "n"] (defScope s_must_be_word) := ⟨rfl, rfl, rfl, by decide +kernel, rfl, by decide +kernel, by decide +kernel⟩
theorem ok_must_be_word_x (T : Txt K mg) : FnOk P w K mg base (L2.CX P w) 3 T.f_must_be_word T.fd_must_be_word ["marks", "word", "n"] (sp_must_be_word_x T) := by
  refine T.F_must_be_word.okX sc_must_be_word_x (fun vs H Q E h => ?_) (fun cdv A outer s H vs Q E hr h => ?_)
  · obtain ⟨a_marks, marks, a_word, word, n, rfl, _⟩ := h; rfl
  · obtain ⟨a_marks, marks, a_word, word, n, rfl, h_marks, h_word, pre0, pre1, q, qe0⟩ := h
    have fr := Fr.nil H
    refine ⟨_, (pss_one (ps_if (pt_not (pt_valS (pe_call (ok_is_word T) (hr.mono (by decide)) (by rfl) T.g_is_word T.F_is_word.kp T.b_is_word .nil pass0 (pa_cons (pv 0) (pa_cons (pv 1) (pa_cons (pv 2) pa_nil)))))) (pss_one (ps_raise rfl (takes_of rfl rfl rfl rfl) (pmk_own PySem.F.excBase_ValueError T.X_NoRiffle.ex T.X_NoRiffle.g T.X_NoRiffle.kp (raises_own T.X_NoRiffle.c.hs T.X_NoRiffle.ty) rfl))) pss_nil)), ?_⟩
    refine ⟨_, rfl, _, rfl, _, rfl, a_marks, marks, a_word, word, n, rfl, (fr.same _ _ h_marks), (fr.same _ _ h_word), ?_, ?_, fun H_1 is_word_2 hp_4 sm_3 => ?_⟩
    · assumption
    · assumption
    have fr : Fr H _ [] := fr.call sm_3
    subst hp_4
    refine ⟨_, rfl, ?_, ?_⟩
    · intro h5
      refine iteF ?_
      exact q _ (by walk_at "post") fr.same
    · intro h5
      refine iteT ?_
      exact qe0 _ (by walk_at "post") fr.same
def sp_sizes (K : PySem.W.Frag) : Sp := fun vs H Q _ => ∃ (a_marks : Addr) (marks : List Bool) (a_word : Addr) (word : List Int), vs = [V.ref a_marks, V.ref a_word] ∧ H a_marks = some (.lst (List.map V.bl marks)) ∧ H a_word = some (.lst (List.map V.int word)) ∧ (IsW marks.length word) ∧ (marks.length ≤ 400 ∧ word.length ≤ 1000) ∧ (∀ (H1 : Hp) (rA : Addr) (res : List Int), (res = sizesI marks.length word) → Same H H1 → H rA = none → H1 rA = some (.lst (List.map V.int res)) → Q (V.ref rA) H1)
theorem sc_sizes : FnScope ["marks", "word", "found", "heap", "mark"] ["marks", "word"] (defScope s_sizes) := ⟨rfl, rfl, rfl, by decide +kernel, rfl, by decide +kernel, by decide +kernel⟩
theorem ok_sizes (T : Txt K mg) : FnOk P w K mg base CX0 1 T.f_sizes T.fd_sizes ["marks", "word"] (sp_sizes K) := by
  refine T.F_sizes.ok sc_sizes (fun vs H Q E h => ?_) (fun cdv A outer s H vs Q E hr h => ?_)
  · obtain ⟨a_marks, marks, a_word, word, rfl, _⟩ := h; rfl
  · obtain ⟨a_marks, marks, a_word, word, rfl, h_marks, h_word, pre0, pre1, q⟩ := h
    have fr := Fr.nil H
    refine ⟨_, (pss_cons (ps_setLc (i := 2) (own := [("mark", 4)]) (g := gName 4) (tt := tYes) rfl sc_sizes.nd rfl rfl (sw_true rfl rfl rfl (by decide +kernel)) (pi_list (pv 0)) (blkOk_by (N := ["marks", "word", "found", "heap", "mark"]) (sc := (defScope s_sizes)) (by decide +kernel)) (fun _ _ _ _ _ => pg_name (i := 4) sc_sizes.nd rfl (Or.inl rfl)) (fun _ _ _ _ _ => pts_nil) (fun _ _ _ _ _ => pe_int))
          (pss_cons (ps_for PassesOwn.never rfl (pi_list (pv 1)) (pg_name (i := 3) sc_sizes.nd rfl (Or.inl rfl)) (pss_one (ps_augS (pv 2) (pv 3) get_list pe_int ip_add set_list)))
          (pss_one (ps_ret (pv 2))))), ?_⟩
    refine ⟨_, rfl, _, rfl, ⟨_, (SqL.of (fr.same _ _ h_marks))⟩, ?_⟩
    intro D_1 nD_2
    refine lc_it (walkL V.bl marks) (fun (i : Nat) H1 => Fr H H1 [(D_1, (.lst (List.map V.int ((List.map (fun y : Bool => 0) (List.take i marks)))) : HO))]) (fr.new nD_2) (fun i H1 hi fr => (fr.same _ _ h_marks)) ?_ ?_
    · rintro i_4 x_8 H_6 H_7 hi_5 fr ⟨rfl, y_9, hy_10, rfl⟩
      refine ⟨rfl, ?_⟩
      refine ⟨_, (Fr.atk fr 0 rfl), ?_, ?_⟩
      · walk_at "csize"
      exact (Fr.wr fr).cast (lc_l hy_10)
    intro H_11 fr
    have fr : Fr H _ [(D_1, (.lst (List.map V.int ((List.map (fun y : Bool => 0) marks))) : HO))] := fr.cast (by rw [List.take_length])
    refine ⟨_, rfl, _, rfl, ⟨_, (SqL.of (fr.same _ _ h_word))⟩, ?_⟩
    refine for_it (walkL V.int word) (fun (i : Nat) σ H1 => ∃ (found_12 : List Int) (y_13 : Option V), σ = [some (V.ref a_marks), some (V.ref a_word), some (V.ref D_1), y_13, none] ∧ Fr H H1 [(D_1, (.lst (List.map V.int found_12) : HO))] ∧ (found_12 = sizesI marks.length (word.take i))) ?_ ?_ ?_ ?_
    · refine ⟨(List.map (fun y : Bool => 0) marks), _, rfl, fr, ?_⟩
      · rw [List.take_zero, sizesI_nil]; exact map_c _ _
    · rintro i σ H1 hi ⟨found_12, y_13, rfl, fr, hf⟩
      exact (fr.same _ _ h_word)
    · rintro i_14 x_16 s_19 H_17 H_18 hi_15 ⟨found_12, y_13, rfl, fr, hf⟩ ⟨rfl, y_20, hy_21, rfl⟩
      have hb := pre0.at hy_21
      have hfl : found_12.length = marks.length := by rw [hf]; simp
      refine ⟨_, rfl, _, rfl, _, _, _, _, rfl, rfl, (SqL.of fr.at0), (atD 0 ?_ ?_), _, _, rfl, rfl, _, _, _, _, rfl, rfl, fr.at0, (ixDm ?_ ?_), ?_⟩
      · walk_at "side"
      · walk_at "side"
      · walk_at "side"
      · walk_at "side"
      have fr : Fr H _ [(D_1, (.lst (List.map V.int ((List.set found_12 (Int.toNat y_20) ((List.getD found_12 (Int.toNat y_20) 0) + 1)))) : HO))] := Fr.wrk fr 0 rfl (lst_set _ _ _ _)
      refine ⟨(List.set found_12 (Int.toNat y_20) ((List.getD found_12 (Int.toNat y_20) 0) + 1)), _, rfl, fr, ?_⟩
      · rw [hf]; exact sizesI_next pre0 hy_21
    rintro s_23 H_22 ⟨found_12, y_13, rfl, fr, hf⟩
    rw [List.take_length] at hf
    refine ⟨_, rfl, ?_⟩
    exact q _ _ found_12 (by walk_at "post") fr.same fr.n0 fr.at0
def sp_numbers_in (K : PySem.W.Frag) : Sp := fun vs H Q _ => ∃ (a_marks : Addr) (marks : List Bool) (a_word : Addr) (word : List Int), vs = [V.ref a_marks, V.ref a_word] ∧ H a_marks = some (.lst (List.map V.bl marks)) ∧ H a_word = some (.lst (List.map V.int word)) ∧ (IsW marks.length word) ∧ (marks.length ≤ 400 ∧ word.length ≤ 1000) ∧ (∀ (H1 : Hp) (rA : Addr) (res : List Int), (res = numI marks word) → Same H H1 → H rA = none → H1 rA = some (.lst (List.map V.int res)) → Q (V.ref rA) H1)
theorem sc_numbers_in : FnScope ["marks", "word", "tops", "start", "heap", "size", "found"] ["marks", "word"] (defScope s_numbers_in) := ⟨rfl, rfl, rfl, by decide +kernel, rfl, by decide +kernel, by decide +kernel⟩
theorem ok_numbers_in (T : Txt K mg) : FnOk P w K mg base CX0 2 T.f_numbers_in T.fd_numbers_in ["marks", "word"] (sp_numbers_in K) := by
  refine T.F_numbers_in.ok sc_numbers_in (fun vs H Q E h => ?_) (fun cdv A outer s H vs Q E hr h => ?_)
  · obtain ⟨a_marks, marks, a_word, word, rfl, _⟩ := h; rfl
  · obtain ⟨a_marks, marks, a_word, word, rfl, h_marks, h_word, pre0, pre1, q⟩ := h
    have fr := Fr.nil H
    refine ⟨_, (pss_cons (ps_set (i := 2) sc_numbers_in.nd rfl (Or.inl rfl) (pe_lst pa_nil))
          (pss_cons (ps_set (i := 3) sc_numbers_in.nd rfl (Or.inl rfl) pe_int)
          (pss_cons (ps_for PassesOwn.never rfl (pi_enum (by rfl) T.m_enumerate (pa_cons (pe_call (ok_sizes T) (hr.mono (by decide)) (by rfl) T.g_sizes T.F_sizes.kp T.b_sizes .nil pass0 (pa_cons (pv 0) (pa_cons (pv 1) pa_nil))) pa_nil)) (pg_tup rfl (pgs_cons (pg_name (i := 4) sc_numbers_in.nd rfl (Or.inl rfl)) (pgs_cons (pg_name (i := 5) sc_numbers_in.nd rfl (Or.inl rfl)) pgs_nil))) (pss_cons (ps_expr (pe_bmK (K := K) (pe_bm PySem.F.plainAttrs_list PySem.F.slot_list_append PySem.F.type_list_append mt_append (pv 2) (pa_cons (pe_ifExp (pt_valS (pe_ix (show IxR _ (rIxL K) from ix_list) (pv 0) (pv 4) (fun _ _ => rfl))) (pe_op op_sub (pe_op op_add (pv 3) (pv 5)) pe_int) (pv 3)) pa_nil))))
          (pss_one (ps_aug (i := 3) sc_numbers_in.nd rfl (Or.inl rfl) (pv 5) ip_add))))
          (pss_cons (ps_set (i := 6) sc_numbers_in.nd rfl (Or.inl rfl) (pe_lst pa_nil))
          (pss_cons (ps_for PassesOwn.never rfl (pi_list (pv 1)) (pg_name (i := 4) sc_numbers_in.nd rfl (Or.inl rfl)) (pss_cons (ps_expr (pe_bmK (K := K) (pe_bm PySem.F.plainAttrs_list PySem.F.slot_list_append PySem.F.type_list_append mt_append (pv 6) (pa_cons (pe_ix (show IxR _ (rIxL K) from ix_list) (pv 2) (pv 4) (fun _ _ => rfl)) pa_nil))))
          (pss_one (ps_if (pt_valS (pe_ix (show IxR _ (rIxL K) from ix_list) (pv 0) (pv 4) (fun _ _ => rfl))) (pss_one (ps_augS (pv 2) (pv 4) get_list pe_int ip_sub set_list)) (pss_one (ps_augS (pv 2) (pv 4) get_list pe_int ip_add set_list))))))
          (pss_one (ps_ret (pv 6)))))))), ?_⟩
    refine ⟨(Evl.sz_of (show 0 ≤ 100000 by decide)), fun l_1 nl_2 => ?_⟩
    have fr : Fr H _ [(l_1, (.lst [] : HO))] := fr.new nl_2
    have fr : Fr H _ [(l_1, (.lst (List.map V.int ([])) : HO))] := fr
    refine ⟨_, rfl, _, rfl, a_marks, marks, a_word, word, rfl, (fr.same _ _ h_marks), (fr.same _ _ h_word), ?_, ?_, fun H_3 p_7 sizes_4 hp_6 sm_5 np_8 ep_9 => ?_⟩
    · walk_at "side"
    · walk_at "side"
    have fr : Fr H _ [(p_7, (.lst (List.map V.int sizes_4) : HO)), (l_1, (.lst (List.map V.int ([])) : HO))] := fr.cnew sm_5 np_8 ep_9
    subst hp_6
    have hszl := sizesI_length marks.length word
    refine ⟨_, _, rfl, (SqL.of fr.at0), ?_⟩
    refine for_it (walkE V.int (((sizesI marks.length word)))) (fun (i : Nat) σ H1 => ∃ (tops_10 : List Int) (start_11 : Int) (y_12 : Option V) (y_13 : Option V), σ = [some (V.ref a_marks), some (V.ref a_word), some (V.ref l_1), some (V.int start_11), y_12, y_13, none] ∧ Fr H H1 [(p_7, (.lst (List.map V.int (((sizesI marks.length word)))) : HO)), (l_1, (.lst (List.map V.int tops_10) : HO))] ∧ (tops_10 = topsTo marks word i 0) ∧ (start_11 = (startI word i : Int))) ?_ ?_ ?_ ?_
    · refine ⟨[], 0, _, _, rfl, fr, ?_, ?_⟩
      · rfl
      · rfl
    · rintro i σ H1 hi ⟨tops_10, start_11, y_12, y_13, rfl, fr, ht, hs⟩
      exact fr.at0
    · rintro i_14 x_16 s_19 H_17 H_18 hi_15 ⟨tops_10, start_11, y_12, y_13, rfl, fr, ht, hs⟩ ⟨T_20, y_21, rfl, nT_23, rfl, hy_24⟩
      have fr := fr.tmp (o := .tup [(V.int ((i_14 : Int))), (V.int y_21)]) nT_23
      refine ⟨_, _, rfl, (SqT.of upd_same), rfl, _, _, rfl, _, _, rfl, rfl, ?_⟩
      have hsz := size_at hy_24
      have htl : tops_10.length = i_14 := by rw [ht]; simp [topsTo]
      refine ⟨_, rfl, (.inl ⟨rfl, _, (SqL.of fr.at1)⟩), _, rfl, _, rfl, _, _, _, _, rfl, rfl, (SqL.of (fr.same _ _ h_marks)), (atD false ?_ ?_), _, rfl, ?_, ?_⟩
      · walk_at "side"
      · walk_at "side"
      · intro h26
        refine iteT ?_
        refine ⟨_, rfl, _, rfl, _, _, rfl, rfl, _, _, rfl, rfl, _, _, _, rfl, rfl, fr.at1, ?_, ?_⟩
        · walk_at "size"
        have fr : Fr H _ [(p_7, (.lst (List.map V.int (((sizesI marks.length word)))) : HO)), (l_1, (.lst (List.map V.int ((tops_10 ++ [((start_11 + y_21) - 1)]))) : HO))] := Fr.wrk fr 1 rfl (lst_app V.int _ _)
        refine ⟨_, rfl, _, rfl, _, _, rfl, rfl, ?_⟩
        refine ⟨(tops_10 ++ [((start_11 + y_21) - 1)]), (start_11 + y_21), _, _, rfl, fr, ?_, ?_⟩
        · rw [ht]; exact topsTo_next _ _ _ (by first | (rw [topI_t (by assumption), hs, hsz]; omega) | (rw [topI_f (by assumption), hs]; omega))
        · rw [hs, hsz]; rfl
      · intro h26
        refine iteF ?_
        refine ⟨_, rfl, _, _, _, rfl, rfl, fr.at1, ?_, ?_⟩
        · walk_at "size"
        have fr : Fr H _ [(p_7, (.lst (List.map V.int (((sizesI marks.length word)))) : HO)), (l_1, (.lst (List.map V.int ((tops_10 ++ [start_11]))) : HO))] := Fr.wrk fr 1 rfl (lst_app V.int _ _)
        refine ⟨_, rfl, _, rfl, _, _, rfl, rfl, ?_⟩
        refine ⟨(tops_10 ++ [start_11]), (start_11 + y_21), _, _, rfl, fr, ?_, ?_⟩
        · rw [ht]; exact topsTo_next _ _ _ (by first | (rw [topI_t (by assumption), hs, hsz]; omega) | (rw [topI_f (by assumption), hs]; omega))
        · rw [hs, hsz]; rfl
    rintro s_28 H_27 ⟨tops_10, start_11, y_12, y_13, rfl, fr, ht, hs⟩
    rw [sizesI_length] at ht
    have fr : Fr H _ [(l_1, (.lst (List.map V.int tops_10) : HO))] := Fr.dk fr 0
    refine ⟨(Evl.sz_of (show 0 ≤ 100000 by decide)), fun l_29 nl_30 => ?_⟩
    have fr : Fr H _ [(l_29, (.lst [] : HO)), (l_1, (.lst (List.map V.int tops_10) : HO))] := fr.new nl_30
    have fr : Fr H _ [(l_29, (.lst (List.map V.int ([])) : HO)), (l_1, (.lst (List.map V.int tops_10) : HO))] := fr
    refine ⟨_, rfl, _, rfl, ⟨_, (SqL.of (fr.same _ _ h_word))⟩, ?_⟩
    refine for_it (walkL V.int word) (fun (i : Nat) σ H1 => ∃ (tops_31 : List Int) (y_32 : Option V) (found_33 : List Int), σ = [some (V.ref a_marks), some (V.ref a_word), some (V.ref l_1), some (V.int start_11), y_32, y_13, some (V.ref l_29)] ∧ Fr H H1 [(l_29, (.lst (List.map V.int found_33) : HO)), (l_1, (.lst (List.map V.int tops_31) : HO))] ∧ (tops_31 = topsTo marks word marks.length i) ∧ (found_33 = numTo marks word i)) ?_ ?_ ?_ ?_
    · refine ⟨tops_10, _, [], rfl, fr, ?_, ?_⟩
      · exact ht
      · rfl
    · rintro i σ H1 hi ⟨tops_31, y_32, found_33, rfl, fr, ht, hf⟩
      exact (fr.same _ _ h_word)
    · rintro i_34 x_36 s_39 H_37 H_38 hi_35 ⟨tops_31, y_32, found_33, rfl, fr, ht, hf⟩ ⟨rfl, y_40, hy_41, rfl⟩
      have hb := pre0.at hy_41
      have htl : tops_31.length = marks.length := by rw [ht]; simp [topsTo]
      have hfl : found_33.length = i_34 := by rw [hf]; simp [numTo]
      refine ⟨_, rfl, (.inl ⟨rfl, _, (SqL.of fr.at0)⟩), _, rfl, _, rfl, _, _, _, _, rfl, rfl, (SqL.of fr.at1), (atD 0 ?_ ?_), _, _, _, rfl, rfl, fr.at0, ?_, ?_⟩
      · walk_at "side"
      · walk_at "side"
      · walk_at "size"
      have fr : Fr H _ [(l_29, (.lst (List.map V.int ((found_33 ++ [(List.getD tops_31 (Int.toNat y_40) 0)]))) : HO)), (l_1, (.lst (List.map V.int tops_31) : HO))] := Fr.wrk fr 0 rfl (lst_app V.int _ _)
      refine ⟨_, rfl, _, rfl, _, _, _, _, rfl, rfl, (SqL.of (fr.same _ _ h_marks)), (atD false ?_ ?_), _, rfl, ?_, ?_⟩
      · walk_at "side"
      · walk_at "side"
      · intro h42
        refine iteT ?_
        refine ⟨_, rfl, _, rfl, _, _, _, _, rfl, rfl, (SqL.of fr.at1), (atD 0 ?_ ?_), _, _, rfl, rfl, _, _, _, _, rfl, rfl, fr.at1, (ixDm ?_ ?_), ?_⟩
        · walk_at "side"
        · walk_at "side"
        · walk_at "side"
        · walk_at "side"
        have fr : Fr H _ [(l_29, (.lst (List.map V.int ((found_33 ++ [(List.getD tops_31 (Int.toNat y_40) 0)]))) : HO)), (l_1, (.lst (List.map V.int ((List.set tops_31 (Int.toNat y_40) ((List.getD tops_31 (Int.toNat y_40) 0) - 1)))) : HO))] := Fr.wrk fr 1 rfl (lst_set _ _ _ _)
        refine ⟨(List.set tops_31 (Int.toNat y_40) ((List.getD tops_31 (Int.toNat y_40) 0) - 1)), _, (found_33 ++ [(List.getD tops_31 (Int.toNat y_40) 0)]), rfl, fr, ?_, ?_⟩
        · rw [ht]; first | exact tops_t pre0 hy_41 (by assumption) | exact tops_f pre0 hy_41 (by assumption)
        · rw [hf, ht]; exact numTo_next pre0 hy_41
      · intro h42
        refine iteF ?_
        refine ⟨_, rfl, _, rfl, _, _, _, _, rfl, rfl, (SqL.of fr.at1), (atD 0 ?_ ?_), _, _, rfl, rfl, _, _, _, _, rfl, rfl, fr.at1, (ixDm ?_ ?_), ?_⟩
        · walk_at "side"
        · walk_at "side"
        · walk_at "side"
        · walk_at "side"
        have fr : Fr H _ [(l_29, (.lst (List.map V.int ((found_33 ++ [(List.getD tops_31 (Int.toNat y_40) 0)]))) : HO)), (l_1, (.lst (List.map V.int ((List.set tops_31 (Int.toNat y_40) ((List.getD tops_31 (Int.toNat y_40) 0) + 1)))) : HO))] := Fr.wrk fr 1 rfl (lst_set _ _ _ _)
        refine ⟨(List.set tops_31 (Int.toNat y_40) ((List.getD tops_31 (Int.toNat y_40) 0) + 1)), _, (found_33 ++ [(List.getD tops_31 (Int.toNat y_40) 0)]), rfl, fr, ?_, ?_⟩
        · rw [ht]; first | exact tops_t pre0 hy_41 (by assumption) | exact tops_f pre0 hy_41 (by assumption)
        · rw [hf, ht]; exact numTo_next pre0 hy_41
    rintro s_44 H_43 ⟨tops_31, y_32, found_33, rfl, fr, ht, hf⟩
    refine ⟨_, rfl, ?_⟩
    exact q _ _ found_33 (by rw [hf]; rfl) fr.same fr.n0 fr.at0
def sp_riffled_x {K : PySem.W.Frag} {mg : Str → Option Value} (T : Txt K mg) : Sp := fun vs H Q E => ∃ (a_order : Addr) (order : List Int) (a_marks : Addr) (marks : List Bool) (a_word : Addr) (word : List V), vs = [V.ref a_order, V.ref a_marks, V.ref a_word] ∧ H a_order = some (.lst (List.map V.int order)) ∧ H a_marks = some (.lst (List.map V.bl marks)) ∧ H a_word = some (.lst word) ∧ (Sca word) ∧ (word.length ≤ 1000) ∧ (isWordV marks.length word (order.length : Int) = false) ∧ (∀ (H1 : Hp), (False) → Same H H1 → Q V.non H1) ∧ (∀ (H1 : Hp), Same H H1 → E (.ref T.C_NoRiffle) none H1)
theorem sc_riffled_x : FnScope ["order", "marks", "word", "place"] ["order", "marks", "word"] (defScope s_riffled) := ⟨rfl, rfl, rfl, by decide +kernel, rfl, by decide +kernel, by decide +kernel⟩
theorem ok_riffled_x (T : Txt K mg) : FnOk P w K mg base (L2.CX P w) 4 T.f_riffled T.fd_riffled ["order", "marks", "word"] (sp_riffled_x T) := by
  refine T.F_riffled.okX sc_riffled_x (fun vs H Q E h => ?_) (fun cdv A outer s H vs Q E hr h => ?_)
  · obtain ⟨a_order, order, a_marks, marks, a_word, word, rfl, _⟩ := h; rfl
  · obtain ⟨a_order, order, a_marks, marks, a_word, word, rfl, h_order, h_marks, h_word, pre0, pre1, pre2, q, qe0⟩ := h
    have fr := Fr.nil H
    refine ⟨_, (pss_cons (ps_expr (pe_callS (ok_must_be_word_x T) (hr.mono (by decide)) (by rfl) T.g_must_be_word T.F_must_be_word.kp T.b_must_be_word (fun σ => passAt (takes_of rfl rfl rfl rfl) σ) (pa_cons (pv 1) (pa_cons (pv 2) (pa_cons (pe_callB (show CallR _ _ (rLenL K) from call_lenL) (by rfl) T.m_len (by decide +kernel) (pa_cons (pv 0) pa_nil)) pa_nil)))))
          (pss_one (ps_ret (pe_lc (own := [("place", 3)]) (g := gName 3) (tt := tYes) rfl sc_riffled_x.nd (pi_list (pe_call (ok_numbers_in T) (hr.mono (by decide)) (by rfl) T.g_numbers_in T.F_numbers_in.kp T.b_numbers_in .nil pass0 (pa_cons (pv 1) (pa_cons (pv 2) pa_nil)))) (blkOk_by (N := ["order", "marks", "word", "place"]) (sc := (defScope s_riffled)) (by decide +kernel)) (fun _ _ _ _ _ => pg_name (i := 3) sc_riffled_x.nd rfl (Or.inl rfl)) (fun _ _ _ _ _ => pts_nil) (fun _ _ _ _ _ => (pe_ix (show IxR _ (rIxL K) from ix_list) (pv 0) (pv 3) (fun _ _ => rfl))))))), ?_⟩
    refine ⟨_, rfl, _, rfl, _, rfl, _, _, _, rfl, (SqL.of (fr.same _ _ h_order)), (List.length_map _), a_marks, marks, a_word, word, ((order.length : Int)), rfl, (fr.same _ _ h_marks), (fr.same _ _ h_word), ?_, ?_, ?_, ?_⟩
    · exact pre0
    · exact pre1
    · intro H_1 hp_4 sm_3
      exfalso
      rw [pre2] at hp_4; cases hp_4
    · intro H_9 hr_8 sm_10
      have fr : Fr H _ [] := fr.call sm_10
      exact qe0 _  fr.same
def sp_turned_about (K : PySem.W.Frag) : Sp := fun vs H Q _ => ∃ (a_marks : Addr) (marks : List Bool) (a_others : Addr) (others : List Bool) (heap : Int) (other : Int), vs = [V.ref a_marks, V.ref a_others, V.int heap, V.int other] ∧ H a_marks = some (.lst (List.map V.bl marks)) ∧ H a_others = some (.lst (List.map V.bl others)) ∧ (0 ≤ heap ∧ heap < (marks.length : Int)) ∧ (∀ (H1 : Hp) (res : Int), (res = turnedI marks others heap other) → Same H H1 → Q (V.int res) H1)
theorem sc_turned_about : FnScope ["marks", "others", "heap", "other"] ["marks", "others", "heap", "other"] (defScope s_turned_about) := ⟨rfl, rfl, rfl, by decide +kernel, rfl, by decide +kernel, by decide +kernel⟩
theorem ok_turned_about (T : Txt K mg) : FnOk P w K mg base CX0 1 T.f_turned_about T.fd_turned_about ["marks", "others", "heap", "other"] (sp_turned_about K) := by
  refine T.F_turned_about.ok sc_turned_about (fun vs H Q E h => ?_) (fun cdv A outer s H vs Q E hr h => ?_)
  · obtain ⟨a_marks, marks, a_others, others, heap, other, rfl, _⟩ := h; rfl
  · obtain ⟨a_marks, marks, a_others, others, heap, other, rfl, h_marks, h_others, pre0, q⟩ := h
    have fr := Fr.nil H
    refine ⟨_, (pss_cons (ps_if (pt_valS (pe_ix (show IxR _ (rIxL K) from ix_list) (pv 0) (pv 2) (fun _ _ => rfl))) (pss_one (ps_ret (pe_op op_sub (pe_op op_sub (pe_callB (show CallR _ _ (rLenL K) from call_lenL) (by rfl) T.m_len (by decide +kernel) (pa_cons (pv 1) pa_nil)) pe_int) (pv 3)))) pss_nil)
          (pss_one (ps_ret (pv 3)))), ?_⟩
    refine ⟨_, rfl, _, rfl, _, _, _, _, rfl, rfl, (SqL.of (fr.same _ _ h_marks)), (atD false ?_ ?_), _, rfl, ?_, ?_⟩
    · walk_at "side"
    · walk_at "side"
    · intro h1
      refine iteT ?_
      refine ⟨_, rfl, _, _, _, rfl, (SqL.of (fr.same _ _ h_others)), (List.length_map _), _, _, rfl, rfl, _, rfl, _, _, rfl, rfl, ?_⟩
      exact q _ ((((others.length : Int) - 1) - other)) (by simp_all [turnedI]) fr.same
    · intro h1
      refine iteF ?_
      refine ⟨_, rfl, ?_⟩
      exact q _ other (by simp_all [turnedI]) fr.same
def sp_joined_x {K : PySem.W.Frag} {mg : Str → Option Value} (T : Txt K mg) : Sp := fun vs H Q E => ∃ (a_marks : Addr) (marks : List Bool) (a_word : Addr) (word : List V) (a_others : Addr) (others : List Bool) (a_more : Addr) (more : List V), vs = [V.ref a_marks, V.ref a_word, V.ref a_others, V.ref a_more] ∧ H a_marks = some (.lst (List.map V.bl marks)) ∧ H a_word = some (.lst word) ∧ H a_others = some (.lst (List.map V.bl others)) ∧ H a_more = some (.lst more) ∧ (Sca word) ∧ (word.length ≤ 1000) ∧ (Sca more) ∧ (more.length ≤ 1000) ∧ (isWordV marks.length word (word.length : Int) = false ∨ isWordV others.length more (word.length : Int) = false) ∧ (∀ (H1 : Hp), (False) → Same H H1 → Q V.non H1) ∧ (∀ (H1 : Hp), Same H H1 → E (.ref T.C_NoRiffle) none H1)
theorem sc_joined_x : FnScope ["marks", "word", "others", "more", "row", "ahead", "other", "heap"] ["marks", "word", "others", "more"] (defScope s_joined) := ⟨rfl, rfl, rfl, by decide +kernel, rfl, by decide +kernel, by decide +kernel⟩
theorem ok_joined_x (T : Txt K mg) : FnOk P w K mg base (L2.CX P w) 5 T.f_joined T.fd_joined ["marks", "word", "others", "more"] (sp_joined_x T) := by
  refine T.F_joined.okX sc_joined_x (fun vs H Q E h => ?_) (fun cdv A outer s H vs Q E hr h => ?_)
  · obtain ⟨a_marks, marks, a_word, word, a_others, others, a_more, more, rfl, _⟩ := h; rfl
  · obtain ⟨a_marks, marks, a_word, word, a_others, others, a_more, more, rfl, h_marks, h_word, h_others, h_more, pre0, pre1, pre2, pre3, pre4, q, qe0⟩ := h
    have fr := Fr.nil H
    refine ⟨_, (pss_cons (ps_expr (pe_callS (ok_check_x T) (hr.mono (by decide)) (by rfl) T.g_check T.F_check.kp T.b_check (fun σ => passAt (takes_of rfl rfl rfl rfl) σ) (pa_cons (pv 0) (pa_cons (pv 1) (pa_cons (pe_callB (show CallR _ _ (rLenL K) from call_lenL) (by rfl) T.m_len (by decide +kernel) (pa_cons (pv 1) pa_nil)) pa_nil)))))
          (pss_cons (ps_expr (pe_callS (ok_check_x T) (hr.mono (by decide)) (by rfl) T.g_check T.F_check.kp T.b_check (fun σ => passAt (takes_of rfl rfl rfl rfl) σ) (pa_cons (pv 2) (pa_cons (pv 3) (pa_cons (pe_callB (show CallR _ _ (rLenL K) from call_lenL) (by rfl) T.m_len (by decide +kernel) (pa_cons (pv 1) pa_nil)) pa_nil)))))
          (pss_cons (ps_set (i := 4) sc_joined_x.nd rfl (Or.inl rfl) (pe_lst pa_nil))
          (pss_cons (ps_for (passes_of rfl) rfl (pi_zip (by rfl) T.m_zip (pa_cons (pe_callS (ok_riffled_x T) (hr.mono (by decide)) (by rfl) T.g_riffled T.F_riffled.kp T.b_riffled (fun σ => passAt (takes_of rfl rfl rfl rfl) σ) (pa_cons (pe_call (ok_first T) (hr.mono (by decide)) (by rfl) T.g_first T.F_first.kp T.b_first .nil pass0 (pa_cons (pe_callB (show CallR _ _ (rLenL K) from call_lenL) (by rfl) T.m_len (by decide +kernel) (pa_cons (pv 1) pa_nil)) pa_nil)) (pa_cons (pv 2) (pa_cons (pv 3) pa_nil)))) (pa_cons (pv 3) pa_nil))) (pg_tup rfl (pgs_cons (pg_name (i := 5) sc_joined_x.nd rfl (Or.inl rfl)) (pgs_cons (pg_name (i := 6) sc_joined_x.nd rfl (Or.inl rfl)) pgs_nil))) (pss_cons (ps_set (i := 7) sc_joined_x.nd rfl (Or.inl rfl) (pe_ix (show IxR _ (rIxL K) from ix_list) (pv 1) (pv 5) (fun _ _ => rfl)))
          (pss_one (ps_expr (pe_bmK (K := K) (pe_bm PySem.F.plainAttrs_list PySem.F.slot_list_append PySem.F.type_list_append mt_append (pv 4) (pa_cons (pe_op op_add (pe_op op_mul (pv 7) (pe_callB (show CallR _ _ (rLenL K) from call_lenL) (by rfl) T.m_len (by decide +kernel) (pa_cons (pv 2) pa_nil))) (pe_call (ok_turned_about T) (hr.mono (by decide)) (by rfl) T.g_turned_about T.F_turned_about.kp T.b_turned_about .nil pass0 (pa_cons (pv 0) (pa_cons (pv 2) (pa_cons (pv 7) (pa_cons (pv 6) pa_nil)))))) pa_nil)))))))
          (pss_one (ps_ret (pv 4))))))), ?_⟩
    refine ⟨_, rfl, _, rfl, _, rfl, _, _, _, rfl, (SqL.of (fr.same _ _ h_word)), rfl, a_marks, marks, a_word, word, ((word.length : Int)), rfl, (fr.same _ _ h_marks), (fr.same _ _ h_word), ?_, ?_, ?_, ?_⟩
    · assumption
    · omega
    · intro H_1 hp_4 sm_3
      have fr : Fr H _ [] := fr.call sm_3
      have hok := hp_4
      refine ⟨_, rfl, _, rfl, _, rfl, _, _, _, rfl, (SqL.of (fr.same _ _ h_word)), rfl, a_others, others, a_more, more, ((word.length : Int)), rfl, (fr.same _ _ h_others), (fr.same _ _ h_more), ?_, ?_, ?_, ?_⟩
      · assumption
      · omega
      · intro H_5 hp_8 sm_7
        exfalso
        rcases pre4 with hb | hb
        · rw [hok] at hb; cases hb
        · rw [hp_8] at hb; cases hb
      · intro H_13 hr_12 sm_14
        have fr : Fr H _ [] := fr.call sm_14
        exact qe0 _  fr.same
    · intro H_16 hr_15 sm_17
      have fr : Fr H _ [] := fr.call sm_17
      exact qe0 _  fr.same
def sp_joined_marks (K : PySem.W.Frag) : Sp := fun vs H Q _ => ∃ (a_marks : Addr) (marks : List Bool) (a_others : Addr) (others : List Bool), vs = [V.ref a_marks, V.ref a_others] ∧ H a_marks = some (.lst (List.map V.bl marks)) ∧ H a_others = some (.lst (List.map V.bl others)) ∧ (marks.length ≤ 400 ∧ others.length ≤ 400 ∧ marks.length * others.length ≤ 400) ∧ (∀ (H1 : Hp) (rA : Addr) (res : List Bool), (res = joinedM marks others) → Same H H1 → H rA = none → H1 rA = some (.lst (List.map V.bl res)) → Q (V.ref rA) H1)
theorem sc_joined_marks : FnScope ["marks", "others", "row", "heap", "other"] ["marks", "others"] (defScope s_joined_marks) := ⟨rfl, rfl, rfl, by decide +kernel, rfl, by decide +kernel, by decide +kernel⟩
theorem ok_joined_marks (T : Txt K mg) : FnOk P w K mg base CX0 2 T.f_joined_marks T.fd_joined_marks ["marks", "others"] (sp_joined_marks K) := by
  refine T.F_joined_marks.ok sc_joined_marks (fun vs H Q E h => ?_) (fun cdv A outer s H vs Q E hr h => ?_)
  · obtain ⟨a_marks, marks, a_others, others, rfl, _⟩ := h; rfl
  · obtain ⟨a_marks, marks, a_others, others, rfl, h_marks, h_others, pre0, q⟩ := h
    have fr := Fr.nil H
    refine ⟨_, (pss_cons (ps_set (i := 2) sc_joined_marks.nd rfl (Or.inl rfl) (pe_lst pa_nil))
          (pss_cons (ps_for PassesOwn.never rfl (pi_range1 (by rfl) T.m_range (pa_cons (pe_callB (show CallR _ _ (rLenL K) from call_lenL) (by rfl) T.m_len (by decide +kernel) (pa_cons (pv 0) pa_nil)) pa_nil)) (pg_name (i := 3) sc_joined_marks.nd rfl (Or.inl rfl)) (pss_one (ps_for PassesOwn.never rfl (pi_range1 (by rfl) T.m_range (pa_cons (pe_callB (show CallR _ _ (rLenL K) from call_lenL) (by rfl) T.m_len (by decide +kernel) (pa_cons (pv 1) pa_nil)) pa_nil)) (pg_name (i := 4) sc_joined_marks.nd rfl (Or.inl rfl)) (pss_one (ps_expr (pe_bmK (K := K) (pe_bm PySem.F.plainAttrs_list PySem.F.slot_list_append PySem.F.type_list_append mt_append (pv 2) (pa_cons (pe_cmpR op_neB (pe_ix (show IxR _ (rIxL K) from ix_list) (pv 0) (pv 3) (fun _ _ => rfl)) (pe_ix (show IxR _ (rIxL K) from ix_list) (pv 1) (pe_call (ok_turned_about T) (hr.mono (by decide)) (by rfl) T.g_turned_about T.F_turned_about.kp T.b_turned_about .nil pass0 (pa_cons (pv 0) (pa_cons (pv 1) (pa_cons (pv 3) (pa_cons (pv 4) pa_nil))))) (fun _ _ => rfl)) (nomark _)) pa_nil))))))))
          (pss_one (ps_ret (pv 2))))), ?_⟩
    refine ⟨(Evl.sz_of (show 0 ≤ 100000 by decide)), fun l_1 nl_2 => ?_⟩
    have fr : Fr H _ [(l_1, (.lst [] : HO))] := fr.new nl_2
    have fr : Fr H _ [(l_1, (.lst (List.map V.bl ([])) : HO))] := fr
    refine ⟨_, rfl, _, _, _, rfl, (SqL.of (fr.same _ _ h_marks)), (List.length_map _), _, rfl, ?_, ?_, ?_⟩
    · walk_at "side"
    · walk_at "side"
    refine for_it (walkR (n := marks.length)) (fun (i : Nat) σ H1 => ∃ (row_3 : List Bool) (y_4 : Option V) (y_5 : Option V), σ = [some (V.ref a_marks), some (V.ref a_others), some (V.ref l_1), y_4, y_5] ∧ Fr H H1 [(l_1, (.lst (List.map V.bl row_3) : HO))] ∧ (row_3 = joinedTo marks others i)) ?_ ?_ ?_ ?_
    · refine ⟨[], _, _, rfl, fr, ?_⟩
      · rfl
    · rintro i σ H1 hi ⟨row_3, y_4, y_5, rfl, fr, hrow⟩
      exact trivial
    · rintro i_6 x_8 s_11 H_9 H_10 hi_7 ⟨row_3, y_4, y_5, rfl, fr, hrow⟩ ⟨rfl, rfl⟩
      refine ⟨_, rfl, _, _, _, rfl, (SqL.of (fr.same _ _ h_others)), (List.length_map _), _, rfl, ?_, ?_, ?_⟩
      · walk_at "side"
      · walk_at "side"
      refine for_it (walkR (n := others.length)) (fun (i : Nat) σ H1 => ∃ (row_12 : List Bool) (y_13 : Option V), σ = [some (V.ref a_marks), some (V.ref a_others), some (V.ref l_1), some (V.int ((i_6 : Int))), y_13] ∧ Fr H H1 [(l_1, (.lst (List.map V.bl row_12) : HO))] ∧ (row_12 = joinedTo marks others i_6 ++ joinedRow marks others i_6 i)) ?_ ?_ ?_ ?_
      · refine ⟨row_3, _, rfl, fr, ?_⟩
        · rw [hrow]; simp [joinedRow]
      · rintro i σ H1 hi ⟨row_12, y_13, rfl, fr, hrow⟩
        exact trivial
      · rintro i_14 x_16 s_19 H_17 H_18 hi_15 ⟨row_12, y_13, rfl, fr, hrow⟩ ⟨rfl, rfl⟩
        refine ⟨_, rfl, (.inl ⟨rfl, _, (SqL.of fr.at0)⟩), _, rfl, _, rfl, _, _, _, _, rfl, rfl, (SqL.of (fr.same _ _ h_marks)), (atD false ?_ ?_), _, rfl, _, rfl, _, rfl, _, rfl, _, rfl, a_marks, marks, a_others, others, ((i_6 : Int)), ((i_14 : Int)), rfl, (fr.same _ _ h_marks), (fr.same _ _ h_others), ?_, fun H_20 turned_about_21 hp_23 sm_22 => ?_⟩
        · walk_at "side"
        · walk_at "side"
        · omega
        have fr : Fr H _ [(l_1, (.lst (List.map V.bl row_12) : HO))] := fr.call sm_22
        subst hp_23
        refine ⟨_, _, _, _, rfl, rfl, (SqL.of (fr.same _ _ h_others)), (atD false ?_ ?_), _, _, rfl, rfl, _, _, _, rfl, rfl, fr.at0, ?_, ?_⟩
        · have := turnedI_bd marks others ((i_6 : Int)) ((i_14 : Int)) (by omega) (by omega); omega
        · have := turnedI_bd marks others ((i_6 : Int)) ((i_14 : Int)) (by omega) (by omega); omega
        · rw [hrow]; exact Evl.sz_lt (by rw [List.length_map]; exact joined_size hi_7 hi_15 pre0.2.2)
        have fr : Fr H _ [(l_1, (.lst (List.map V.bl ((row_12 ++ [((List.getD marks (Int.toNat ((i_6 : Int))) false) != (List.getD others (Int.toNat (((turnedI marks others ((i_6 : Int)) ((i_14 : Int)))))) false))]))) : HO))] := Fr.wrk fr 0 rfl (lst_app V.bl _ _)
        refine ⟨(row_12 ++ [((List.getD marks (Int.toNat ((i_6 : Int))) false) != (List.getD others (Int.toNat (((turnedI marks others ((i_6 : Int)) ((i_14 : Int)))))) false))]), _, rfl, fr, ?_⟩
        · rw [hrow]; exact joinedRow_next _ _ _ _ _
      rintro s_25 H_24 ⟨row_12, y_13, rfl, fr, hrow⟩
      refine ⟨row_12, _, _, rfl, fr, ?_⟩
      · rw [hrow]; exact joinedTo_next _ _ _
    rintro s_27 H_26 ⟨row_3, y_4, y_5, rfl, fr, hrow⟩
    refine ⟨_, rfl, ?_⟩
    exact q _ _ row_3 (by first | assumption | rfl) fr.same fr.n0 fr.at0
def sp_parted_x {K : PySem.W.Frag} {mg : Str → Option Value} (T : Txt K mg) : Sp := fun vs H Q E => ∃ (a_marks : Addr) (marks : List Bool) (a_others : Addr) (others : List Bool) (a_word : Addr) (word : List V), vs = [V.ref a_marks, V.ref a_others, V.ref a_word] ∧ H a_marks = some (.lst (List.map V.bl marks)) ∧ H a_others = some (.lst (List.map V.bl others)) ∧ H a_word = some (.lst word) ∧ (Sca word) ∧ (word.length ≤ 1000) ∧ (marks.length ≤ 400 ∧ others.length ≤ 400 ∧ marks.length * others.length ≤ 400) ∧ (isWordV (joinedM marks others).length word (word.length : Int) = false) ∧ (∀ (H1 : Hp), (False) → Same H H1 → Q V.non H1) ∧ (∀ (H1 : Hp), Same H H1 → E (.ref T.C_NoRiffle) none H1)
theorem sc_parted_x : FnScope ["marks", "others", "word", "more", "number", "heap", "other", "early", "ahead"] ["marks", "others", "word"] (defScope s_parted) := ⟨rfl, rfl, rfl, by decide +kernel, rfl, by decide +kernel, by decide +kernel⟩
theorem ok_parted_x (T : Txt K mg) : FnOk P w K mg base (L2.CX P w) 5 T.f_parted T.fd_parted ["marks", "others", "word"] (sp_parted_x T) := by
  refine T.F_parted.okX sc_parted_x (fun vs H Q E h => ?_) (fun cdv A outer s H vs Q E hr h => ?_)
  · obtain ⟨a_marks, marks, a_others, others, a_word, word, rfl, _⟩ := h; rfl
  · obtain ⟨a_marks, marks, a_others, others, a_word, word, rfl, h_marks, h_others, h_word, pre0, pre1, pre2, pre3, q, qe0⟩ := h
    have fr := Fr.nil H
    refine ⟨_, (pss_cons (ps_expr (pe_callS (ok_check_x T) (hr.mono (by decide)) (by rfl) T.g_check T.F_check.kp T.b_check (fun σ => passAt (takes_of rfl rfl rfl rfl) σ) (pa_cons (pe_call (ok_joined_marks T) (hr.mono (by decide)) (by rfl) T.g_joined_marks T.F_joined_marks.kp T.b_joined_marks .nil pass0 (pa_cons (pv 0) (pa_cons (pv 1) pa_nil))) (pa_cons (pv 2) (pa_cons (pe_callB (show CallR _ _ (rLenL K) from call_lenL) (by rfl) T.m_len (by decide +kernel) (pa_cons (pv 2) pa_nil)) pa_nil)))))
          (pss_cons (ps_set (i := 3) sc_parted_x.nd rfl (Or.inl rfl) (pe_lst pa_nil))
          (pss_cons (ps_for (passes_of rfl) rfl (pi_list (pv 2)) (pg_name (i := 4) sc_parted_x.nd rfl (Or.inl rfl)) (pss_cons (ps_asg (pe_callB call_divmod (by rfl) T.m_divmod (by decide +kernel) (pa_cons (pv 4) (pa_cons (pe_callB (show CallR _ _ (rLenL K) from call_lenL) (by rfl) T.m_len (by decide +kernel) (pa_cons (pv 1) pa_nil)) pa_nil))) (pg_tup rfl (pgs_cons (pg_name (i := 5) sc_parted_x.nd rfl (Or.inl rfl)) (pgs_cons (pg_name (i := 6) sc_parted_x.nd rfl (Or.inl rfl)) pgs_nil))))
          (pss_one (ps_expr (pe_bmK (K := K) (pe_bm PySem.F.plainAttrs_list PySem.F.slot_list_append PySem.F.type_list_append mt_append (pv 3) (pa_cons (pe_call (ok_turned_about T) (hr.mono (by decide)) (by rfl) T.g_turned_about T.F_turned_about.kp T.b_turned_about .nil pass0 (pa_cons (pv 0) (pa_cons (pv 1) (pa_cons (pv 5) (pa_cons (pv 6) pa_nil))))) pa_nil)))))))
          (pss_cons (ps_set (i := 7) sc_parted_x.nd rfl (Or.inl rfl) (pe_op op_rep (pe_lst (pa_cons pe_int pa_nil)) (pe_callB (show CallR _ _ (rLenL K) from call_lenL) (by rfl) T.m_len (by decide +kernel) (pa_cons (pv 2) pa_nil))))
          (pss_cons (ps_for (passes_of rfl) rfl (pi_zip (by rfl) T.m_zip (pa_cons (pv 2) (pa_cons (pe_callS (ok_riffled_x T) (hr.mono (by decide)) (by rfl) T.g_riffled T.F_riffled.kp T.b_riffled (fun σ => passAt (takes_of rfl rfl rfl rfl) σ) (pa_cons (pe_call (ok_first T) (hr.mono (by decide)) (by rfl) T.g_first T.F_first.kp T.b_first .nil pass0 (pa_cons (pe_callB (show CallR _ _ (rLenL K) from call_lenL) (by rfl) T.m_len (by decide +kernel) (pa_cons (pv 2) pa_nil)) pa_nil)) (pa_cons (pv 1) (pa_cons (pv 3) pa_nil)))) pa_nil))) (pg_tup rfl (pgs_cons (pg_name (i := 4) sc_parted_x.nd rfl (Or.inl rfl)) (pgs_cons (pg_name (i := 8) sc_parted_x.nd rfl (Or.inl rfl)) pgs_nil))) (pss_one (ps_asg (pe_op op_fdiv (pv 4) (pe_callB (show CallR _ _ (rLenL K) from call_lenL) (by rfl) T.m_len (by decide +kernel) (pa_cons (pv 1) pa_nil))) (pg_sub (pv 7) (pv 8) set_list))))
          (pss_one (ps_ret (pe_tup (pa_cons (pv 7) (pa_cons (pv 3) pa_nil)))))))))), ?_⟩
    refine ⟨_, rfl, _, rfl, a_marks, marks, a_others, others, rfl, (fr.same _ _ h_marks), (fr.same _ _ h_others), ?_, fun H_1 p_5 joined_marks_2 hp_4 sm_3 np_6 ep_7 => ?_⟩
    · exact pre2
    have fr : Fr H _ [(p_5, (.lst (List.map V.bl joined_marks_2) : HO))] := fr.cnew sm_3 np_6 ep_7
    subst hp_4
    refine ⟨_, rfl, _, rfl, _, _, _, rfl, (SqL.of (fr.same _ _ h_word)), rfl, p_5, (((joinedM marks others))), a_word, word, ((word.length : Int)), rfl, fr.at0, (fr.same _ _ h_word), ?_, ?_, ?_, ?_⟩
    · assumption
    · omega
    · intro H_8 hp_11 sm_10
      exfalso
      rw [pre3] at hp_11; cases hp_11
    · intro H_16 hr_15 sm_17
      have fr : Fr H _ [(p_5, (.lst (List.map V.bl (((joinedM marks others)))) : HO))] := fr.call sm_17
      exact qe0 _  fr.same
def sp_law_refused (K : PySem.W.Frag) : Sp := fun vs H Q _ => ∃ (a_marks : Addr) (marks : List Bool) (a_word : Addr) (word : List V) (a_others : Addr) (others : List Bool) (a_more : Addr) (more : List V) (apart : Bool), vs = [V.ref a_marks, V.ref a_word, V.ref a_others, V.ref a_more, V.bl apart] ∧ H a_marks = some (.lst (List.map V.bl marks)) ∧ H a_word = some (.lst word) ∧ H a_others = some (.lst (List.map V.bl others)) ∧ H a_more = some (.lst more) ∧ (Sca word) ∧ (word.length ≤ 1000) ∧ (Sca more) ∧ (more.length ≤ 1000) ∧ (marks.length ≤ 400 ∧ others.length ≤ 400 ∧ marks.length * others.length ≤ 400) ∧ (apart = false → isWordV marks.length word (word.length : Int) = false ∨ isWordV others.length more (word.length : Int) = false) ∧ (apart = true → isWordV (joinedM marks others).length word (word.length : Int) = false) ∧ (∀ (H1 : Hp) (res : Bool), (res = true) → Same H H1 → Q (V.bl res) H1)
theorem sc_law_refused : FnScope ["_law_marks_here", "_law_word_here", "_law_others", "_law_more", "_law_apart", "e"] ["_law_marks_here", "_law_word_here", "_law_others", "_law_more", "_law_apart"] (defScope s_law_refused) := ⟨rfl, rfl, rfl, by decide +kernel, rfl, by decide +kernel, by decide +kernel⟩
theorem ok_law_refused (T : Txt K mg) : FnOk P w K mg base CX0 6 T.f_law_refused T.fd_law_refused ["_law_marks_here", "_law_word_here", "_law_others", "_law_more", "_law_apart"] (sp_law_refused K) := by
  refine T.F_law_refused.ok sc_law_refused (fun vs H Q E h => ?_) (fun cdv A outer s H vs Q E hr h => ?_)
  · obtain ⟨a_marks, marks, a_word, word, a_others, others, a_more, more, apart, rfl, _⟩ := h; rfl
  · obtain ⟨a_marks, marks, a_word, word, a_others, others, a_more, more, apart, rfl, h_marks, h_word, h_others, h_more, pre0, pre1, pre2, pre3, pre4, pre5, pre6, q⟩ := h
    have fr := Fr.nil H
    refine ⟨_, (pss_cons (ps_try_as (i := 5) (Wout := fun _ _ _ _ => False) rfl rfl sc_law_refused.nd rfl rfl ⟨rfl, by decide, .inl T.X_NoRiffle.g⟩ takes0 (fun W xpn xxe xtk _ => (pss_one (ps_if (pt_valS (pv 4)) (pss_one (ps_expr (pe_callS (ok_parted_x T) (hr.mono (by decide)) (by rfl) T.g_parted T.F_parted.kp T.b_parted (fun σ => passAt xtk σ) (pa_cons (pe_callTy (show CallR _ _ (rListL K) from call_listL) (by rfl) T.m_list (by decide +kernel) (pa_cons (pv 0) pa_nil)) (pa_cons (pe_callTy (show CallR _ _ (rListL K) from call_listL) (by rfl) T.m_list (by decide +kernel) (pa_cons (pv 2) pa_nil)) (pa_cons (pe_callTy (show CallR _ _ (rListL K) from call_listL) (by rfl) T.m_list (by decide +kernel) (pa_cons (pv 1) pa_nil)) pa_nil)))))) (pss_one (ps_expr (pe_callS (ok_joined_x T) (hr.mono (by decide)) (by rfl) T.g_joined T.F_joined.kp T.b_joined (fun σ => passAt xtk σ) (pa_cons (pe_callTy (show CallR _ _ (rListL K) from call_listL) (by rfl) T.m_list (by decide +kernel) (pa_cons (pv 0) pa_nil)) (pa_cons (pe_callTy (show CallR _ _ (rListL K) from call_listL) (by rfl) T.m_list (by decide +kernel) (pa_cons (pv 1) pa_nil)) (pa_cons (pe_callTy (show CallR _ _ (rListL K) from call_listL) (by rfl) T.m_list (by decide +kernel) (pa_cons (pv 2) pa_nil)) (pa_cons (pe_callTy (show CallR _ _ (rListL K) from call_listL) (by rfl) T.m_list (by decide +kernel) (pa_cons (pv 3) pa_nil)) pa_nil)))))))))) (fun xa xoe xcls xd xpn xhz xhf => (pss_cons (ps_if (PW.pt (pw_or (pt_valS (pe_callB (show CallR _ _ (rIsP K xa xcls xd) from call_isP xhz xhf List.mem_cons_self) (by rfl) T.m_isinstance (by decide +kernel) (pa_cons (pv 5) (pa_cons (pe_glob rfl T.X_NoPack.g (show RelV (.ref T.C_NoPack) (.ref T.C_NoPack) from rfl)) pa_nil)))) (pw_or (pt_valS (pe_callB (show CallR _ _ (rIsP K xa xcls xd) from call_isP xhz xhf List.mem_cons_self) (by rfl) T.m_isinstance (by decide +kernel) (pa_cons (pv 5) (pa_cons (pe_glob rfl T.X_NoMarks.g (show RelV (.ref T.C_NoMarks) (.ref T.C_NoMarks) from rfl)) pa_nil)))) (pw_or (pt_valS (pe_callB (show CallR _ _ (rIsP K xa xcls xd) from call_isP xhz xhf List.mem_cons_self) (by rfl) T.m_isinstance (by decide +kernel) (pa_cons (pv 5) (pa_cons (pe_glob rfl T.X_NoWay.g (show RelV (.ref T.C_NoWay) (.ref T.C_NoWay) from rfl)) pa_nil)))) (pw_or1 (pt_valS (pe_callB (show CallR _ _ (rIsP K xa xcls xd) from call_isP xhz xhf List.mem_cons_self) (by rfl) T.m_isinstance (by decide +kernel) (pa_cons (pv 5) (pa_cons (pe_glob rfl T.X_TooMany.g (show RelV (.ref T.C_TooMany) (.ref T.C_TooMany) from rfl)) pa_nil))))))))) (pss_one (ps_ret pe_bl)) pss_nil)
          (pss_one (ps_ret (pe_and (pe_splS (pe_not (pe_callB (show CallR _ _ (rIsP K xa xcls xd) from call_isP xhz xhf List.mem_cons_self) (by rfl) T.m_isinstance (by decide +kernel) (pa_cons (pv 5) (pa_cons (pe_glob rfl T.X_NoFigures.g (show RelV (.ref T.C_NoFigures) (.ref T.C_NoFigures) from rfl)) pa_nil))))) (pe_and (pe_splS (pe_not (pe_callB (show CallR _ _ (rIsP K xa xcls xd) from call_isP xhz xhf List.mem_cons_self) (by rfl) T.m_isinstance (by decide +kernel) (pa_cons (pv 5) (pa_cons (pe_glob rfl T.X_NoText.g (show RelV (.ref T.C_NoText) (.ref T.C_NoText) from rfl)) pa_nil))))) (pe_one (pe_callB (show CallR _ _ (rIsP K xa xcls xd) from call_isP xhz xhf List.mem_cons_self) (by rfl) T.m_isinstance (by decide +kernel) (pa_cons (pv 5) (pa_cons (pe_glob rfl T.X_RiftError.g (show RelV (.ref T.C_RiftError) (.ref T.C_RiftError) from rfl)) pa_nil)))))))))))
          (pss_one (ps_ret pe_bl))), ?_⟩
    refine ⟨_, rfl, _, rfl, ?_, ?_⟩
    · intro h1
      refine iteT ?_
      refine ⟨_, rfl, _, _, rfl, (.inl (SqL.of (fr.same _ _ h_marks))), fun l_2 nl_3 => ?_⟩
      have fr : Fr H _ [(l_2, (.lst (List.map V.bl marks) : HO))] := fr.new nl_3
      refine ⟨_, rfl, _, _, rfl, (.inl (SqL.of (fr.same _ _ h_others))), fun l_4 nl_5 => ?_⟩
      have fr : Fr H _ [(l_4, (.lst (List.map V.bl others) : HO)), (l_2, (.lst (List.map V.bl marks) : HO))] := fr.new nl_5
      refine ⟨_, rfl, _, _, rfl, (.inl (SqL.of (fr.same _ _ h_word))), fun l_6 nl_7 => ?_⟩
      have fr : Fr H _ [(l_6, (.lst word : HO)), (l_4, (.lst (List.map V.bl others) : HO)), (l_2, (.lst (List.map V.bl marks) : HO))] := fr.new nl_7
      refine ⟨l_2, marks, l_4, others, l_6, word, rfl, fr.at2, fr.at1, fr.at0, ?_, ?_, ?_, ?_, ?_, ?_⟩
      · exact pre0
      · exact pre1
      · exact pre4
      · exact pre6 (by assumption)
      · intro H_8 hp_11 sm_10
        exfalso
        exact hp_11
      · intro H_15  sm_16
        have fr : Fr H _ [(l_6, (.lst word : HO)), (l_4, (.lst (List.map V.bl others) : HO)), (l_2, (.lst (List.map V.bl marks) : HO))] := fr.call sm_16
        refine ⟨true, T.X_NoRiffle.exm T.S_NoRiffle_NoRiffle, fun _ ax_17 _ => ?_, fun q => nomatch q⟩
        refine ⟨_, rfl, _, _, _, _, rfl, rfl, T.X_NoRiffle.c, rfl, rel_ref, (T.X_NoPack.kit T.S_NoRiffle_NoPack (fun _ => T.N_NoRiffle_NoPack)), _, rfl, (fun h => nomatch h), fun _ => ?_⟩
        refine iteF ?_
        refine ⟨_, rfl, _, _, _, _, rfl, rfl, T.X_NoRiffle.c, rfl, rel_ref, (T.X_NoMarks.kit T.S_NoRiffle_NoMarks (fun _ => T.N_NoRiffle_NoMarks)), _, rfl, (fun h => nomatch h), fun _ => ?_⟩
        refine iteF ?_
        refine ⟨_, rfl, _, _, _, _, rfl, rfl, T.X_NoRiffle.c, rfl, rel_ref, (T.X_NoWay.kit T.S_NoRiffle_NoWay (fun _ => T.N_NoRiffle_NoWay)), _, rfl, (fun h => nomatch h), fun _ => ?_⟩
        refine iteF ?_
        refine ⟨_, rfl, _, _, _, _, rfl, rfl, T.X_NoRiffle.c, rfl, rel_ref, (T.X_TooMany.kit T.S_NoRiffle_TooMany (fun _ => T.N_NoRiffle_TooMany)), _, rfl, (fun h => nomatch h), fun _ => ?_⟩
        refine iteF ?_
        have fr : Fr H _ [(l_4, (.lst (List.map V.bl others) : HO)), (l_2, (.lst (List.map V.bl marks) : HO))] := Fr.dk fr 0
        have fr : Fr H _ [(l_2, (.lst (List.map V.bl marks) : HO))] := Fr.dk fr 0
        have fr : Fr H _ [] := Fr.dk fr 0
        refine ⟨_, rfl, _, _, _, _, rfl, rfl, T.X_NoRiffle.c, rfl, rel_ref, (T.X_NoFigures.kit T.S_NoRiffle_NoFigures (fun _ => T.N_NoRiffle_NoFigures)), _, rfl, _, rfl, fun _ => ?_, (fun h => nomatch h)⟩
        refine ⟨_, rfl, ?_⟩
        refine iteT ?_
        refine ⟨_, rfl, _, _, _, _, rfl, rfl, T.X_NoRiffle.c, rfl, rel_ref, (T.X_NoText.kit T.S_NoRiffle_NoText (fun _ => T.N_NoRiffle_NoText)), _, rfl, _, rfl, fun _ => ?_, (fun h => nomatch h)⟩
        refine ⟨_, rfl, ?_⟩
        refine iteT ?_
        refine ⟨_, rfl, _, _, _, _, rfl, rfl, T.X_NoRiffle.c, rfl, rel_ref, (T.X_RiftError.kit T.S_NoRiffle_RiftError (fun z => nomatch z)), ?_⟩
        exact q _ true (by rfl) fr.same
    · intro h1
      refine iteF ?_
      refine ⟨_, rfl, _, _, rfl, (.inl (SqL.of (fr.same _ _ h_marks))), fun l_18 nl_19 => ?_⟩
      have fr : Fr H _ [(l_18, (.lst (List.map V.bl marks) : HO))] := fr.new nl_19
      refine ⟨_, rfl, _, _, rfl, (.inl (SqL.of (fr.same _ _ h_word))), fun l_20 nl_21 => ?_⟩
      have fr : Fr H _ [(l_20, (.lst word : HO)), (l_18, (.lst (List.map V.bl marks) : HO))] := fr.new nl_21
      refine ⟨_, rfl, _, _, rfl, (.inl (SqL.of (fr.same _ _ h_others))), fun l_22 nl_23 => ?_⟩
      have fr : Fr H _ [(l_22, (.lst (List.map V.bl others) : HO)), (l_20, (.lst word : HO)), (l_18, (.lst (List.map V.bl marks) : HO))] := fr.new nl_23
      refine ⟨_, rfl, _, _, rfl, (.inl (SqL.of (fr.same _ _ h_more))), fun l_24 nl_25 => ?_⟩
      have fr : Fr H _ [(l_24, (.lst more : HO)), (l_22, (.lst (List.map V.bl others) : HO)), (l_20, (.lst word : HO)), (l_18, (.lst (List.map V.bl marks) : HO))] := fr.new nl_25
      refine ⟨l_18, marks, l_20, word, l_22, others, l_24, more, rfl, fr.at3, fr.at2, fr.at1, fr.at0, ?_, ?_, ?_, ?_, ?_, ?_, ?_⟩
      · exact pre0
      · exact pre1
      · exact pre2
      · exact pre3
      · exact pre5 (by assumption)
      · intro H_26 hp_29 sm_28
        exfalso
        exact hp_29
      · intro H_33  sm_34
        have fr : Fr H _ [(l_24, (.lst more : HO)), (l_22, (.lst (List.map V.bl others) : HO)), (l_20, (.lst word : HO)), (l_18, (.lst (List.map V.bl marks) : HO))] := fr.call sm_34
        refine ⟨true, T.X_NoRiffle.exm T.S_NoRiffle_NoRiffle, fun _ ax_35 _ => ?_, fun q => nomatch q⟩
        refine ⟨_, rfl, _, _, _, _, rfl, rfl, T.X_NoRiffle.c, rfl, rel_ref, (T.X_NoPack.kit T.S_NoRiffle_NoPack (fun _ => T.N_NoRiffle_NoPack)), _, rfl, (fun h => nomatch h), fun _ => ?_⟩
        refine iteF ?_
        refine ⟨_, rfl, _, _, _, _, rfl, rfl, T.X_NoRiffle.c, rfl, rel_ref, (T.X_NoMarks.kit T.S_NoRiffle_NoMarks (fun _ => T.N_NoRiffle_NoMarks)), _, rfl, (fun h => nomatch h), fun _ => ?_⟩
        refine iteF ?_
        refine ⟨_, rfl, _, _, _, _, rfl, rfl, T.X_NoRiffle.c, rfl, rel_ref, (T.X_NoWay.kit T.S_NoRiffle_NoWay (fun _ => T.N_NoRiffle_NoWay)), _, rfl, (fun h => nomatch h), fun _ => ?_⟩
        refine iteF ?_
        refine ⟨_, rfl, _, _, _, _, rfl, rfl, T.X_NoRiffle.c, rfl, rel_ref, (T.X_TooMany.kit T.S_NoRiffle_TooMany (fun _ => T.N_NoRiffle_TooMany)), _, rfl, (fun h => nomatch h), fun _ => ?_⟩
        refine iteF ?_
        have fr : Fr H _ [(l_22, (.lst (List.map V.bl others) : HO)), (l_20, (.lst word : HO)), (l_18, (.lst (List.map V.bl marks) : HO))] := Fr.dk fr 0
        have fr : Fr H _ [(l_20, (.lst word : HO)), (l_18, (.lst (List.map V.bl marks) : HO))] := Fr.dk fr 0
        have fr : Fr H _ [(l_18, (.lst (List.map V.bl marks) : HO))] := Fr.dk fr 0
        have fr : Fr H _ [] := Fr.dk fr 0
        refine ⟨_, rfl, _, _, _, _, rfl, rfl, T.X_NoRiffle.c, rfl, rel_ref, (T.X_NoFigures.kit T.S_NoRiffle_NoFigures (fun _ => T.N_NoRiffle_NoFigures)), _, rfl, _, rfl, fun _ => ?_, (fun h => nomatch h)⟩
        refine ⟨_, rfl, ?_⟩
        refine iteT ?_
        refine ⟨_, rfl, _, _, _, _, rfl, rfl, T.X_NoRiffle.c, rfl, rel_ref, (T.X_NoText.kit T.S_NoRiffle_NoText (fun _ => T.N_NoRiffle_NoText)), _, rfl, _, rfl, fun _ => ?_, (fun h => nomatch h)⟩
        refine ⟨_, rfl, ?_⟩
        refine iteT ?_
        refine ⟨_, rfl, _, _, _, _, rfl, rfl, T.X_NoRiffle.c, rfl, rel_ref, (T.X_RiftError.kit T.S_NoRiffle_RiftError (fun z => nomatch z)), ?_⟩
        exact q _ true (by rfl) fr.same
def sp_law_all_refused (K : PySem.W.Frag) : Sp := fun vs H Q _ => ∃ (a_marks : Addr) (marks : List Bool) (a_word : Addr) (word : List Int) (a_others : Addr) (others : List Bool) (a_more : Addr) (more : List Int) (a_whole : Addr) (whole : List Int) (cell : Int), vs = [V.ref a_marks, V.ref a_word, V.ref a_others, V.ref a_more, V.ref a_whole, V.int cell] ∧ H a_marks = some (.lst (List.map V.bl marks)) ∧ H a_word = some (.lst (List.map V.int word)) ∧ H a_others = some (.lst (List.map V.bl others)) ∧ H a_more = some (.lst (List.map V.int more)) ∧ H a_whole = some (.lst (List.map V.int whole)) ∧ (IsW marks.length word) ∧ (IsW others.length more) ∧ (IsW (joinedM marks others).length whole) ∧ (word.length = more.length ∧ word.length = whole.length ∧ 1 ≤ word.length ∧ word.length ≤ 60) ∧ ((marks.length ≤ 400 ∧ others.length ≤ 400 ∧ marks.length * others.length ≤ 400) ∧ 1 ≤ marks.length ∧ 1 ≤ others.length) ∧ (∀ (H1 : Hp) (res : Bool), (res = true) → Same H H1 → Q (V.bl res) H1)
theorem sc_law_all_refused : FnScope ["_law_marks_here", "_law_word_here", "_law_others", "_law_more", "_law_whole", "_law_cell", "_law_bad_here"] ["_law_marks_here", "_law_word_here", "_law_others", "_law_more", "_law_whole", "_law_cell"] (defScope s_law_all_refused) := ⟨rfl, rfl, rfl, by decide +kernel, rfl, by decide +kernel, by decide +kernel⟩
theorem ok_law_all_refused (T : Txt K mg) : FnOk P w K mg base CX0 7 T.f_law_all_refused T.fd_law_all_refused ["_law_marks_here", "_law_word_here", "_law_others", "_law_more", "_law_whole", "_law_cell"] (sp_law_all_refused K) := by
  refine T.F_law_all_refused.ok sc_law_all_refused (fun vs H Q E h => ?_) (fun cdv A outer s H vs Q E hr h => ?_)
  · obtain ⟨a_marks, marks, a_word, word, a_others, others, a_more, more, a_whole, whole, cell, rfl, _⟩ := h; rfl
  · obtain ⟨a_marks, marks, a_word, word, a_others, others, a_more, more, a_whole, whole, cell, rfl, h_marks, h_word, h_others, h_more, h_whole, pre0, pre1, pre2, pre3, pre4, q⟩ := h
    have fr := Fr.nil H
    have hjl := joinedM_len marks others
    have hjp : 0 < marks.length * others.length := Nat.mul_pos (by omega) (by omega)
    refine ⟨_, (pss_cons (ps_for PassesOwn.never rfl (pi_list (pe_call (ok_law_bad T) (hr.mono (by decide)) (by rfl) T.g_law_bad T.F_law_bad.kp T.b_law_bad .nil pass0 (pa_cons (pv 1) (pa_cons (pe_callB (show CallR _ _ (rLenL K) from call_lenL) (by rfl) T.m_len (by decide +kernel) (pa_cons (pv 0) pa_nil)) (pa_cons (pv 5) pa_nil))))) (pg_name (i := 6) sc_law_all_refused.nd rfl (Or.inl rfl)) (pss_one (ps_if (pt_not (pt_valS (pe_call (ok_law_refused T) (hr.mono (by decide)) (by rfl) T.g_law_refused T.F_law_refused.kp T.b_law_refused .nil pass0 (pa_cons (pv 0) (pa_cons (pv 6) (pa_cons (pv 2) (pa_cons (pv 3) (pa_cons pe_bl pa_nil)))))))) (pss_one (ps_ret pe_bl)) pss_nil)))
          (pss_cons (ps_for PassesOwn.never rfl (pi_list (pe_call (ok_law_bad T) (hr.mono (by decide)) (by rfl) T.g_law_bad T.F_law_bad.kp T.b_law_bad .nil pass0 (pa_cons (pv 3) (pa_cons (pe_callB (show CallR _ _ (rLenL K) from call_lenL) (by rfl) T.m_len (by decide +kernel) (pa_cons (pv 2) pa_nil)) (pa_cons (pe_op op_fdiv (pv 5) pe_int) pa_nil))))) (pg_name (i := 6) sc_law_all_refused.nd rfl (Or.inl rfl)) (pss_one (ps_if (pt_not (pt_valS (pe_call (ok_law_refused T) (hr.mono (by decide)) (by rfl) T.g_law_refused T.F_law_refused.kp T.b_law_refused .nil pass0 (pa_cons (pv 0) (pa_cons (pv 1) (pa_cons (pv 2) (pa_cons (pv 6) (pa_cons pe_bl pa_nil)))))))) (pss_one (ps_ret pe_bl)) pss_nil)))
          (pss_cons (ps_set (i := 6) sc_law_all_refused.nd rfl (Or.inl rfl) (pe_ix (show IxR _ (rIxL K) from ix_list) (pe_call (ok_law_bad T) (hr.mono (by decide)) (by rfl) T.g_law_bad T.F_law_bad.kp T.b_law_bad .nil pass0 (pa_cons (pv 4) (pa_cons (pe_op op_mul (pe_callB (show CallR _ _ (rLenL K) from call_lenL) (by rfl) T.m_len (by decide +kernel) (pa_cons (pv 0) pa_nil)) (pe_callB (show CallR _ _ (rLenL K) from call_lenL) (by rfl) T.m_len (by decide +kernel) (pa_cons (pv 2) pa_nil))) (pa_cons (pe_op op_fdiv (pv 5) pe_int) pa_nil)))) pe_int (fun _ _ => rfl)))
          (pss_one (ps_ret (pe_call (ok_law_refused T) (hr.mono (by decide)) (by rfl) T.g_law_refused T.F_law_refused.kp T.b_law_refused .nil pass0 (pa_cons (pv 0) (pa_cons (pv 6) (pa_cons (pv 2) (pa_cons (pe_lst pa_nil) (pa_cons pe_bl pa_nil))))))))))), ?_⟩
    refine ⟨_, rfl, _, rfl, _, _, _, rfl, (SqL.of (fr.same _ _ h_marks)), (List.length_map _), _, rfl, a_word, word, ((marks.length : Int)), cell, rfl, (fr.same _ _ h_word), ?_, ?_, ?_, fun H_1 p_7 rw_8 bad_2 hp_4 hp_5 hp_6 tn_9 sm_3 => ?_⟩
    · omega
    · first | omega | exact ⟨by exact_mod_cast hjp, by exact_mod_cast pre4.1.2.2⟩
    · first | (rw [Int.toNat_natCast]; assumption) | (rw [show Int.toNat ((marks.length : Int) * (others.length : Int)) = (joinedM marks others).length by rw [hjl]; exact_mod_cast rfl]; exact pre2)
    have fr : Fr H _ ([(p_7, (.lst (List.map rref rw_8) : HO))] ++ List.flatten [rosOwn gV rw_8]) := Fr.ctab (pre := []) (ts := []) fr sm_3 tn_9
    have hbz := hp_4
    rw [Int.toNat_natCast] at hbz
    refine ⟨_, rfl, ⟨_, (SqL.of fr.at0)⟩, ?_⟩
    refine for_it (walkT (K := K) (a := p_7) (rows := rw_8) tn_9.c) (fun (i : Nat) σ H1 => ∃ (y_10 : Option V), σ = [some (V.ref a_marks), some (V.ref a_word), some (V.ref a_others), some (V.ref a_more), some (V.ref a_whole), some (V.int cell), y_10] ∧ Fr H H1 ([(p_7, (.lst (List.map rref rw_8) : HO))] ++ List.flatten [rosOwn gV rw_8])) ?_ ?_ ?_ ?_
    · refine ⟨_, rfl, fr⟩
    · rintro i σ H1 hi ⟨y_10, rfl, fr⟩
      exact fr.at0
    · rintro i_11 x_13 s_16 H_14 H_15 hi_12 ⟨y_10, rfl, fr⟩ ⟨rfl, y_17, hr_18, hy_19, rfl⟩
      have hb := hbz _ (List.mem_of_getElem? hy_19)
      refine ⟨_, rfl, _, rfl, _, rfl, _, rfl, a_marks, marks, y_17.1, y_17.2, a_others, others, a_more, ((List.map V.int more)), false, rfl, (fr.same _ _ h_marks), (Fr.rmem (pre := [(p_7, (.lst (List.map rref rw_8) : HO))]) (ts := [rosOwn gV rw_8]) fr 0 rfl (List.mem_of_getElem? hr_18)), (fr.same _ _ h_others), (fr.same _ _ h_more), ?_, ?_, ?_, ?_, ?_, ?_, ?_, fun H_20 refused_21 hp_23 sm_22 => ?_⟩
      · first | exact hb.1 | exact hw0.1 | exact Sca.ints _
      · first | (have := hb.2.1; omega) | (have h9 := hw0.2.1; rw [show Int.toNat 0 = 0 from rfl]; omega) | (rw [List.length_map]; omega)
      · first | exact hb.1 | exact Sca.nil | exact Sca.ints _
      · first | (have := hb.2.1; omega) | exact Nat.zero_le _ | (rw [List.length_map]; omega)
      · exact pre4.1
      · first | (intro h9; cases h9; done) | (intro _; exact hb.2.2.imp id (fun h9 => isWordV_len (by rw [List.length_map]; omega))) | (intro _; right; rcases hb.2.2 with h9 | h9; exact isWordV_self h9 _; exact isWordV_len (by rw [List.length_map]; omega))
      · first | (intro h9; cases h9; done) | (intro _; exact hw2)
      have fr : Fr H _ ([(p_7, (.lst (List.map rref rw_8) : HO))] ++ List.flatten [rosOwn gV rw_8]) := fr.call sm_22
      subst hp_23
      refine ⟨_, rfl, fun _ => ?_, (fun h => nomatch h)⟩
      refine iteF ?_
      refine ⟨_, rfl, fr⟩
    rintro s_25 H_24 ⟨y_10, rfl, fr⟩
    have fr : Fr H _ [(p_7, (.lst (List.map rref rw_8) : HO))] := Fr.tdrop (pre := [(p_7, (.lst (List.map rref rw_8) : HO))]) (ts := [rosOwn gV rw_8]) fr 0 rfl
    have fr : Fr H _ [] := Fr.dk fr 0
    refine ⟨_, rfl, _, rfl, _, _, _, rfl, (SqL.of (fr.same _ _ h_others)), (List.length_map _), _, rfl, _, _, rfl, rfl, ⟨by decide, by decide⟩, a_more, more, ((others.length : Int)), ((cell / 3)), rfl, (fr.same _ _ h_more), ?_, ?_, ?_, fun H_26 p_32 rw_33 bad_27 hp_29 hp_30 hp_31 tn_34 sm_28 => ?_⟩
    · omega
    · first | omega | exact ⟨by exact_mod_cast hjp, by exact_mod_cast pre4.1.2.2⟩
    · first | (rw [Int.toNat_natCast]; assumption) | (rw [show Int.toNat ((marks.length : Int) * (others.length : Int)) = (joinedM marks others).length by rw [hjl]; exact_mod_cast rfl]; exact pre2)
    have fr : Fr H _ ([(p_32, (.lst (List.map rref rw_33) : HO))] ++ List.flatten [rosOwn gV rw_33]) := Fr.ctab (pre := []) (ts := []) fr sm_28 tn_34
    have hbz := hp_29
    rw [Int.toNat_natCast] at hbz
    refine ⟨_, rfl, ⟨_, (SqL.of fr.at0)⟩, ?_⟩
    refine for_it (walkT (K := K) (a := p_32) (rows := rw_33) tn_34.c) (fun (i : Nat) σ H1 => ∃ (y_35 : Option V), σ = [some (V.ref a_marks), some (V.ref a_word), some (V.ref a_others), some (V.ref a_more), some (V.ref a_whole), some (V.int cell), y_35] ∧ Fr H H1 ([(p_32, (.lst (List.map rref rw_33) : HO))] ++ List.flatten [rosOwn gV rw_33])) ?_ ?_ ?_ ?_
    · refine ⟨_, rfl, fr⟩
    · rintro i σ H1 hi ⟨y_35, rfl, fr⟩
      exact fr.at0
    · rintro i_36 x_38 s_41 H_39 H_40 hi_37 ⟨y_35, rfl, fr⟩ ⟨rfl, y_42, hr_43, hy_44, rfl⟩
      have hb := hbz _ (List.mem_of_getElem? hy_44)
      refine ⟨_, rfl, _, rfl, _, rfl, _, rfl, a_marks, marks, a_word, ((List.map V.int word)), a_others, others, y_42.1, y_42.2, false, rfl, (fr.same _ _ h_marks), (fr.same _ _ h_word), (fr.same _ _ h_others), (Fr.rmem (pre := [(p_32, (.lst (List.map rref rw_33) : HO))]) (ts := [rosOwn gV rw_33]) fr 0 rfl (List.mem_of_getElem? hr_43)), ?_, ?_, ?_, ?_, ?_, ?_, ?_, fun H_45 refused_46 hp_48 sm_47 => ?_⟩
      · first | exact hb.1 | exact hw0.1 | exact Sca.ints _
      · first | (have := hb.2.1; omega) | (have h9 := hw0.2.1; rw [show Int.toNat 0 = 0 from rfl]; omega) | (rw [List.length_map]; omega)
      · first | exact hb.1 | exact Sca.nil | exact Sca.ints _
      · first | (have := hb.2.1; omega) | exact Nat.zero_le _ | (rw [List.length_map]; omega)
      · exact pre4.1
      · first | (intro h9; cases h9; done) | (intro _; exact hb.2.2.imp id (fun h9 => isWordV_len (by rw [List.length_map]; omega))) | (intro _; right; rcases hb.2.2 with h9 | h9; exact isWordV_self h9 _; exact isWordV_len (by rw [List.length_map]; omega))
      · first | (intro h9; cases h9; done) | (intro _; exact hw2)
      have fr : Fr H _ ([(p_32, (.lst (List.map rref rw_33) : HO))] ++ List.flatten [rosOwn gV rw_33]) := fr.call sm_47
      subst hp_48
      refine ⟨_, rfl, fun _ => ?_, (fun h => nomatch h)⟩
      refine iteF ?_
      refine ⟨_, rfl, fr⟩
    rintro s_50 H_49 ⟨y_35, rfl, fr⟩
    have fr : Fr H _ [(p_32, (.lst (List.map rref rw_33) : HO))] := Fr.tdrop (pre := [(p_32, (.lst (List.map rref rw_33) : HO))]) (ts := [rosOwn gV rw_33]) fr 0 rfl
    have fr : Fr H _ [] := Fr.dk fr 0
    refine ⟨_, rfl, _, rfl, _, _, _, rfl, (SqL.of (fr.same _ _ h_marks)), (List.length_map _), _, rfl, _, _, _, rfl, (SqL.of (fr.same _ _ h_others)), (List.length_map _), _, _, rfl, rfl, ?_, _, rfl, _, _, rfl, rfl, ⟨by decide, by decide⟩, a_whole, whole, (((marks.length : Int) * (others.length : Int))), ((cell / 7)), rfl, (fr.same _ _ h_whole), ?_, ?_, ?_, fun H_51 p_57 rw_58 bad_52 hp_54 hp_55 hp_56 tn_59 sm_53 => ?_⟩
    · first | exact .inl (by omega) | exact .inr (by omega)
    · omega
    · first | omega | exact ⟨by exact_mod_cast hjp, by exact_mod_cast pre4.1.2.2⟩
    · first | (rw [Int.toNat_natCast]; assumption) | (rw [show Int.toNat ((marks.length : Int) * (others.length : Int)) = (joinedM marks others).length by rw [hjl]; exact_mod_cast rfl]; exact pre2)
    have fr : Fr H _ ([(p_57, (.lst (List.map rref rw_58) : HO))] ++ List.flatten [rosOwn gV rw_58]) := Fr.ctab (pre := []) (ts := []) fr sm_53 tn_59
    have hw0 := hp_54 _ (getD_mem (d := []) (show 0 < bad_52.length by have := hp_55; omega))
    have hw1 := hp_55
    have hw2 := hp_56
    rw [show Int.toNat ((marks.length : Int) * (others.length : Int)) = (joinedM marks others).length by rw [hjl]; exact_mod_cast rfl] at hw2
    have hlt_60 : (Int.toNat 0) < List.length bad_52 := by rw [show Int.toNat 0 = 0 from rfl]; omega
    refine ⟨_, _, _, _, rfl, rfl, (SqL.of fr.at0), (atRow tn_59.c [] ?_ ?_), ?_⟩
    · omega
    · omega
    refine ⟨_, rfl, _, rfl, _, rfl, (Evl.sz_of (show 0 ≤ 100000 by decide)), fun l_61 nl_62 => ?_⟩
    have fr : Fr H _ ([(l_61, (.lst [] : HO)), (p_57, (.lst (List.map rref rw_58) : HO))] ++ List.flatten [rosOwn gV rw_58]) := fr.new nl_62
    refine ⟨a_marks, marks, (List.getD rw_58 (Int.toNat 0) (0, [])).1, ((List.getD bad_52 (Int.toNat 0) [])), a_others, others, l_61, ([]), true, rfl, (fr.same _ _ h_marks), (ros_at (fun z hz => Fr.rmem (pre := [(l_61, (.lst [] : HO)), (p_57, (.lst (List.map rref rw_58) : HO))]) (ts := [rosOwn gV rw_58]) fr 0 rfl hz) tn_59.c [] (Int.toNat 0) hlt_60), (fr.same _ _ h_others), fr.at0, ?_, ?_, ?_, ?_, ?_, ?_, ?_, fun H_63 refused_64 hp_66 sm_65 => ?_⟩
    · first | exact hb.1 | exact hw0.1 | exact Sca.ints _
    · first | (have := hb.2.1; omega) | (have h9 := hw0.2.1; rw [show Int.toNat 0 = 0 from rfl]; omega) | (rw [List.length_map]; omega)
    · first | exact hb.1 | exact Sca.nil | exact Sca.ints _
    · first | (have := hb.2.1; omega) | exact Nat.zero_le _ | (rw [List.length_map]; omega)
    · exact pre4.1
    · first | (intro h9; cases h9; done) | (intro _; exact hb.2.2.imp id (fun h9 => isWordV_len (by rw [List.length_map]; omega))) | (intro _; right; rcases hb.2.2 with h9 | h9; exact isWordV_self h9 _; exact isWordV_len (by rw [List.length_map]; omega))
    · first | (intro h9; cases h9; done) | (intro _; exact hw2)
    have fr : Fr H _ ([(l_61, (.lst [] : HO)), (p_57, (.lst (List.map rref rw_58) : HO))] ++ List.flatten [rosOwn gV rw_58]) := fr.call sm_65
    subst hp_66
    exact q _ true (by rfl) fr.same
def sp_check (K : PySem.W.Frag) : Sp := fun vs H Q _ => ∃ (a_marks : Addr) (marks : List Bool) (a_word : Addr) (word : List V) (n : Int), vs = [V.ref a_marks, V.ref a_word, V.int n] ∧ H a_marks = some (.lst (List.map V.bl marks)) ∧ H a_word = some (.lst word) ∧ (Sca word) ∧ (word.length ≤ 1000) ∧ (isWordV marks.length word n = true) ∧ (∀ (H1 : Hp), Same H H1 → Q V.non H1)
theorem sc_check : FnScope ["marks", "word", "n"] ["marks", "word", "n"] (defScope s_check) := ⟨rfl, rfl, rfl, by decide +kernel, rfl, by decide +kernel, by decide +kernel⟩
theorem ok_check (T : Txt K mg) : FnOk P w K mg base CX0 3 T.f_check T.fd_check ["marks", "word", "n"] (sp_check K) := by
  refine T.F_check.ok sc_check (fun vs H Q E h => ?_) (fun cdv A outer s H vs Q E hr h => ?_)
  · obtain ⟨a_marks, marks, a_word, word, n, rfl, _⟩ := h; rfl
  · obtain ⟨a_marks, marks, a_word, word, n, rfl, h_marks, h_word, pre0, pre1, pre2, q⟩ := h
    have fr := Fr.nil H
    refine ⟨_, (pss_one (ps_if (pt_not (pt_valS (pe_call (ok_is_word T) (hr.mono (by decide)) (by rfl) T.g_is_word T.F_is_word.kp T.b_is_word .nil pass0 (pa_cons (pv 0) (pa_cons (pv 1) (pa_cons (pv 2) pa_nil)))))) pss_never pss_nil)), ?_⟩
    refine ⟨_, rfl, _, rfl, _, rfl, a_marks, marks, a_word, word, n, rfl, (fr.same _ _ h_marks), (fr.same _ _ h_word), ?_, ?_, fun H_1 is_word_2 hp_4 sm_3 => ?_⟩
    · assumption
    · assumption
    have fr : Fr H _ [] := fr.call sm_3
    subst hp_4
    refine ⟨_, rfl, ?_, ?_⟩
    · intro h5
      refine iteF ?_
      exact q _  fr.same
    · intro h5
      exfalso
      rw [pre2] at h5; cases h5
def sp_must_be_word (K : PySem.W.Frag) : Sp := fun vs H Q _ => ∃ (a_marks : Addr) (marks : List Bool) (a_word : Addr) (word : List V) (n : Int), vs = [V.ref a_marks, V.ref a_word, V.int n] ∧ H a_marks = some (.lst (List.map V.bl marks)) ∧ H a_word = some (.lst word) ∧ (Sca word) ∧ (word.length ≤ 1000) ∧ (isWordV marks.length word n = true) ∧ (∀ (H1 : Hp), Same H H1 → Q V.non H1)
theorem sc_must_be_word : FnScope ["marks", "word", "n"] ["marks", "word", "n"] (defScope s_must_be_word) := ⟨rfl, rfl, rfl, by decide +kernel, rfl, by decide +kernel, by decide +kernel⟩
theorem ok_must_be_word (T : Txt K mg) : FnOk P w K mg base CX0 3 T.f_must_be_word T.fd_must_be_word ["marks", "word", "n"] (sp_must_be_word K) := by
  refine T.F_must_be_word.ok sc_must_be_word (fun vs H Q E h => ?_) (fun cdv A outer s H vs Q E hr h => ?_)
  · obtain ⟨a_marks, marks, a_word, word, n, rfl, _⟩ := h; rfl
  · obtain ⟨a_marks, marks, a_word, word, n, rfl, h_marks, h_word, pre0, pre1, pre2, q⟩ := h
    have fr := Fr.nil H
    refine ⟨_, (pss_one (ps_if (pt_not (pt_valS (pe_call (ok_is_word T) (hr.mono (by decide)) (by rfl) T.g_is_word T.F_is_word.kp T.b_is_word .nil pass0 (pa_cons (pv 0) (pa_cons (pv 1) (pa_cons (pv 2) pa_nil)))))) pss_never pss_nil)), ?_⟩
    refine ⟨_, rfl, _, rfl, _, rfl, a_marks, marks, a_word, word, n, rfl, (fr.same _ _ h_marks), (fr.same _ _ h_word), ?_, ?_, fun H_1 is_word_2 hp_4 sm_3 => ?_⟩
    · assumption
    · assumption
    have fr : Fr H _ [] := fr.call sm_3
    subst hp_4
    refine ⟨_, rfl, ?_, ?_⟩
    · intro h5
      refine iteF ?_
      exact q _  fr.same
    · intro h5
      exfalso
      rw [pre2] at h5; cases h5
def sp_riffled (K : PySem.W.Frag) : Sp := fun vs H Q _ => ∃ (a_order : Addr) (order : List Int) (a_marks : Addr) (marks : List Bool) (a_word : Addr) (word : List Int), vs = [V.ref a_order, V.ref a_marks, V.ref a_word] ∧ H a_order = some (.lst (List.map V.int order)) ∧ H a_marks = some (.lst (List.map V.bl marks)) ∧ H a_word = some (.lst (List.map V.int word)) ∧ (IsW marks.length word) ∧ (word.length = order.length ∧ marks.length ≤ 400 ∧ order.length ≤ 60) ∧ (∀ (H1 : Hp) (rA : Addr) (res : List Int), (res = riffleI order marks word) → Same H H1 → H rA = none → H1 rA = some (.lst (List.map V.int res)) → Q (V.ref rA) H1)
theorem sc_riffled : FnScope ["order", "marks", "word", "place"] ["order", "marks", "word"] (defScope s_riffled) := ⟨rfl, rfl, rfl, by decide +kernel, rfl, by decide +kernel, by decide +kernel⟩
theorem ok_riffled (T : Txt K mg) : FnOk P w K mg base CX0 4 T.f_riffled T.fd_riffled ["order", "marks", "word"] (sp_riffled K) := by
  refine T.F_riffled.ok sc_riffled (fun vs H Q E h => ?_) (fun cdv A outer s H vs Q E hr h => ?_)
  · obtain ⟨a_order, order, a_marks, marks, a_word, word, rfl, _⟩ := h; rfl
  · obtain ⟨a_order, order, a_marks, marks, a_word, word, rfl, h_order, h_marks, h_word, pre0, pre1, q⟩ := h
    have fr := Fr.nil H
    refine ⟨_, (pss_cons (ps_expr (pe_call (ok_must_be_word T) (hr.mono (by decide)) (by rfl) T.g_must_be_word T.F_must_be_word.kp T.b_must_be_word .nil pass0 (pa_cons (pv 1) (pa_cons (pv 2) (pa_cons (pe_callB (show CallR _ _ (rLenL K) from call_lenL) (by rfl) T.m_len (by decide +kernel) (pa_cons (pv 0) pa_nil)) pa_nil)))))
          (pss_one (ps_ret (pe_lc (own := [("place", 3)]) (g := gName 3) (tt := tYes) rfl sc_riffled.nd (pi_list (pe_call (ok_numbers_in T) (hr.mono (by decide)) (by rfl) T.g_numbers_in T.F_numbers_in.kp T.b_numbers_in .nil pass0 (pa_cons (pv 1) (pa_cons (pv 2) pa_nil)))) (blkOk_by (N := ["order", "marks", "word", "place"]) (sc := (defScope s_riffled)) (by decide +kernel)) (fun _ _ _ _ _ => pg_name (i := 3) sc_riffled.nd rfl (Or.inl rfl)) (fun _ _ _ _ _ => pts_nil) (fun _ _ _ _ _ => (pe_ix (show IxR _ (rIxL K) from ix_list) (pv 0) (pv 3) (fun _ _ => rfl))))))), ?_⟩
    refine ⟨_, rfl, _, rfl, _, rfl, _, _, _, rfl, (SqL.of (fr.same _ _ h_order)), (List.length_map _), a_marks, marks, a_word, ((List.map V.int word)), ((order.length : Int)), rfl, (fr.same _ _ h_marks), (fr.same _ _ h_word), ?_, ?_, ?_, fun H_1  sm_3 => ?_⟩
    · exact Sca.ints _
    · simp; omega
    · exact isWordV_ints pre0 (by omega)
    have fr : Fr H _ [] := fr.call sm_3
    refine ⟨_, rfl, _, rfl, a_marks, marks, a_word, word, rfl, (fr.same _ _ h_marks), (fr.same _ _ h_word), ?_, ?_, fun H_4 p_8 numbers_in_5 hp_7 sm_6 np_9 ep_10 => ?_⟩
    · exact pre0
    · omega
    have fr : Fr H _ [(p_8, (.lst (List.map V.int numbers_in_5) : HO))] := fr.cnew sm_6 np_9 ep_10
    subst hp_7
    have hnl := numI_length marks word
    refine ⟨_, rfl, ⟨_, (SqL.of fr.at0)⟩, ?_⟩
    intro D_11 nD_12
    refine lc_it (walkL V.int (((numI marks word)))) (fun (i : Nat) H1 => Fr H H1 [(D_11, (.lst (List.map V.int ((List.map (fun y : Int => (List.getD order (Int.toNat y) 0)) (List.take i (((numI marks word))))))) : HO)), (p_8, (.lst (List.map V.int (((numI marks word)))) : HO))]) (fr.new nD_12) (fun i H1 hi fr => fr.at1) ?_ ?_
    · rintro i_14 x_18 H_16 H_17 hi_15 fr ⟨rfl, y_19, hy_20, rfl⟩
      refine ⟨rfl, ?_⟩
      have hb := (isOrd_numI marks pre0).bd hy_20; rw [numI_length] at hb
      refine ⟨_, rfl, _, rfl, _, _, _, _, rfl, rfl, (SqL.of (fr.same _ _ h_order)), (atD 0 ?_ ?_), _, (Fr.atk fr 0 rfl), ?_, ?_⟩
      · walk_at "side"
      · walk_at "side"
      · walk_at "csize"
      exact (Fr.wr fr).cast (lc_l hy_20)
    intro H_21 fr
    have fr : Fr H _ [(D_11, (.lst (List.map V.int ((List.map (fun y : Int => (List.getD order (Int.toNat y) 0)) ((numI marks word))))) : HO)), (p_8, (.lst (List.map V.int (((numI marks word)))) : HO))] := fr.cast (by rw [List.take_length])
    exact q _ _ ((List.map (fun y : Int => (List.getD order (Int.toNat y) 0)) ((numI marks word)))) (by rfl) fr.same fr.n0 fr.at0
def sp_joined (K : PySem.W.Frag) : Sp := fun vs H Q _ => ∃ (a_marks : Addr) (marks : List Bool) (a_word : Addr) (word : List Int) (a_others : Addr) (others : List Bool) (a_more : Addr) (more : List Int), vs = [V.ref a_marks, V.ref a_word, V.ref a_others, V.ref a_more] ∧ H a_marks = some (.lst (List.map V.bl marks)) ∧ H a_word = some (.lst (List.map V.int word)) ∧ H a_others = some (.lst (List.map V.bl others)) ∧ H a_more = some (.lst (List.map V.int more)) ∧ (IsW marks.length word) ∧ (IsW others.length more) ∧ (word.length = more.length ∧ 1 ≤ word.length ∧ word.length ≤ 60) ∧ (marks.length ≤ 400 ∧ others.length ≤ 400 ∧ marks.length * others.length ≤ 400) ∧ (∀ (H1 : Hp) (rA : Addr) (res : List Int), (res = bothW marks word others more) → Same H H1 → H rA = none → H1 rA = some (.lst (List.map V.int res)) → Q (V.ref rA) H1)
theorem sc_joined : FnScope ["marks", "word", "others", "more", "row", "ahead", "other", "heap"] ["marks", "word", "others", "more"] (defScope s_joined) := ⟨rfl, rfl, rfl, by decide +kernel, rfl, by decide +kernel, by decide +kernel⟩
theorem ok_joined (T : Txt K mg) : FnOk P w K mg base CX0 5 T.f_joined T.fd_joined ["marks", "word", "others", "more"] (sp_joined K) := by
  refine T.F_joined.ok sc_joined (fun vs H Q E h => ?_) (fun cdv A outer s H vs Q E hr h => ?_)
  · obtain ⟨a_marks, marks, a_word, word, a_others, others, a_more, more, rfl, _⟩ := h; rfl
  · obtain ⟨a_marks, marks, a_word, word, a_others, others, a_more, more, rfl, h_marks, h_word, h_others, h_more, pre0, pre1, pre2, pre3, q⟩ := h
    have fr := Fr.nil H
    have hlu := upto_length (Int.toNat (word.length : Int))
    refine ⟨_, (pss_cons (ps_expr (pe_call (ok_check T) (hr.mono (by decide)) (by rfl) T.g_check T.F_check.kp T.b_check .nil pass0 (pa_cons (pv 0) (pa_cons (pv 1) (pa_cons (pe_callB (show CallR _ _ (rLenL K) from call_lenL) (by rfl) T.m_len (by decide +kernel) (pa_cons (pv 1) pa_nil)) pa_nil)))))
          (pss_cons (ps_expr (pe_call (ok_check T) (hr.mono (by decide)) (by rfl) T.g_check T.F_check.kp T.b_check .nil pass0 (pa_cons (pv 2) (pa_cons (pv 3) (pa_cons (pe_callB (show CallR _ _ (rLenL K) from call_lenL) (by rfl) T.m_len (by decide +kernel) (pa_cons (pv 1) pa_nil)) pa_nil)))))
          (pss_cons (ps_set (i := 4) sc_joined.nd rfl (Or.inl rfl) (pe_lst pa_nil))
          (pss_cons (ps_for PassesOwn.never rfl (pi_zip (by rfl) T.m_zip (pa_cons (pe_call (ok_riffled T) (hr.mono (by decide)) (by rfl) T.g_riffled T.F_riffled.kp T.b_riffled .nil pass0 (pa_cons (pe_call (ok_first T) (hr.mono (by decide)) (by rfl) T.g_first T.F_first.kp T.b_first .nil pass0 (pa_cons (pe_callB (show CallR _ _ (rLenL K) from call_lenL) (by rfl) T.m_len (by decide +kernel) (pa_cons (pv 1) pa_nil)) pa_nil)) (pa_cons (pv 2) (pa_cons (pv 3) pa_nil)))) (pa_cons (pv 3) pa_nil))) (pg_tup rfl (pgs_cons (pg_name (i := 5) sc_joined.nd rfl (Or.inl rfl)) (pgs_cons (pg_name (i := 6) sc_joined.nd rfl (Or.inl rfl)) pgs_nil))) (pss_cons (ps_set (i := 7) sc_joined.nd rfl (Or.inl rfl) (pe_ix (show IxR _ (rIxL K) from ix_list) (pv 1) (pv 5) (fun _ _ => rfl)))
          (pss_one (ps_expr (pe_bmK (K := K) (pe_bm PySem.F.plainAttrs_list PySem.F.slot_list_append PySem.F.type_list_append mt_append (pv 4) (pa_cons (pe_op op_add (pe_op op_mul (pv 7) (pe_callB (show CallR _ _ (rLenL K) from call_lenL) (by rfl) T.m_len (by decide +kernel) (pa_cons (pv 2) pa_nil))) (pe_call (ok_turned_about T) (hr.mono (by decide)) (by rfl) T.g_turned_about T.F_turned_about.kp T.b_turned_about .nil pass0 (pa_cons (pv 0) (pa_cons (pv 2) (pa_cons (pv 7) (pa_cons (pv 6) pa_nil)))))) pa_nil)))))))
          (pss_one (ps_ret (pv 4))))))), ?_⟩
    refine ⟨_, rfl, _, rfl, _, rfl, _, _, _, rfl, (SqL.of (fr.same _ _ h_word)), (List.length_map _), a_marks, marks, a_word, ((List.map V.int word)), ((word.length : Int)), rfl, (fr.same _ _ h_marks), (fr.same _ _ h_word), ?_, ?_, ?_, fun H_1  sm_3 => ?_⟩
    · exact Sca.ints _
    · simp; omega
    · first | exact isWordV_ints pre0 (by omega) | exact isWordV_ints pre1 (by omega)
    have fr : Fr H _ [] := fr.call sm_3
    refine ⟨_, rfl, _, rfl, _, rfl, _, _, _, rfl, (SqL.of (fr.same _ _ h_word)), (List.length_map _), a_others, others, a_more, ((List.map V.int more)), ((word.length : Int)), rfl, (fr.same _ _ h_others), (fr.same _ _ h_more), ?_, ?_, ?_, fun H_4  sm_6 => ?_⟩
    · exact Sca.ints _
    · simp; omega
    · first | exact isWordV_ints pre0 (by omega) | exact isWordV_ints pre1 (by omega)
    have fr : Fr H _ [] := fr.call sm_6
    refine ⟨(Evl.sz_of (show 0 ≤ 100000 by decide)), fun l_7 nl_8 => ?_⟩
    have fr : Fr H _ [(l_7, (.lst [] : HO))] := fr.new nl_8
    have fr : Fr H _ [(l_7, (.lst (List.map V.int ([])) : HO))] := fr
    refine ⟨_, rfl, _, _, _, rfl, (SqL.of (fr.same _ _ h_word)), (List.length_map _), ((word.length : Int)), rfl, ?_, fun H_9 p_13 first_10 hp_12 sm_11 np_14 ep_15 => ?_⟩
    · omega
    have fr : Fr H _ [(p_13, (.lst (List.map V.int first_10) : HO)), (l_7, (.lst (List.map V.int ([])) : HO))] := fr.cnew sm_11 np_14 ep_15
    subst hp_12
    refine ⟨_, rfl, _, rfl, p_13, (((upto (Int.toNat ((word.length : Int)))))), a_others, others, a_more, more, rfl, fr.at0, (fr.same _ _ h_others), (fr.same _ _ h_more), ?_, ?_, fun H_16 p_20 riffled_17 hp_19 sm_18 np_21 ep_22 => ?_⟩
    · exact pre1
    · rw [hlu]; omega
    have fr : Fr H _ [(p_20, (.lst (List.map V.int riffled_17) : HO)), (p_13, (.lst (List.map V.int (((upto (Int.toNat ((word.length : Int))))))) : HO)), (l_7, (.lst (List.map V.int ([])) : HO))] := fr.cnew sm_18 np_21 ep_22
    subst hp_19
    have hrl := riffleI_length (upto (Int.toNat (word.length : Int))) others more
    refine ⟨_, rfl, _, _, _, _, rfl, (SqL.of fr.at0), (SqL.of (fr.same _ _ h_more)), ?_⟩
    have fr : Fr H _ [(p_20, (.lst (List.map V.int (((riffleI (((upto (Int.toNat ((word.length : Int)))))) others more)))) : HO)), (l_7, (.lst (List.map V.int ([])) : HO))] := Fr.dk fr 1
    refine for_it (walkZ V.int V.int (((riffleI (((upto (Int.toNat ((word.length : Int)))))) others more))) more) (fun (i : Nat) σ H1 => ∃ (row_23 : List Int) (y_24 : Option V) (y_25 : Option V) (y_26 : Option V), σ = [some (V.ref a_marks), some (V.ref a_word), some (V.ref a_others), some (V.ref a_more), some (V.ref l_7), y_24, y_25, y_26] ∧ Fr H H1 [(p_20, (.lst (List.map V.int (((riffleI (((upto (Int.toNat ((word.length : Int)))))) others more)))) : HO)), (l_7, (.lst (List.map V.int row_23) : HO))] ∧ (row_23 = bothTo marks word others more i)) ?_ ?_ ?_ ?_
    · refine ⟨[], _, _, _, rfl, fr, ?_⟩
      · rfl
    · rintro i σ H1 hi ⟨row_23, y_24, y_25, y_26, rfl, fr, hrow⟩
      exact ⟨fr.at0, (fr.same _ _ h_more)⟩
    · rintro i_27 x_29 s_32 H_30 H_31 hi_28 ⟨row_23, y_24, y_25, y_26, rfl, fr, hrow⟩ ⟨T_33, y_34, z_35, rfl, nT_36, rfl, hy_37, hz_38⟩
      have fr := fr.tmp (o := .tup [(V.int y_34), (V.int z_35)]) nT_36
      refine ⟨_, _, rfl, (SqT.of upd_same), rfl, _, _, rfl, _, _, rfl, rfl, ?_⟩
      have hah := ahead_eq pre1 (by omega) hy_37
      have hbb := both_bd pre0 pre1 pre2.1 hah.2
      rw [← hah.1] at hbb
      have hrwl : row_23.length = i_27 := by rw [hrow]; simp [bothTo]
      refine ⟨_, rfl, _, rfl, _, _, _, _, rfl, rfl, (SqL.of (fr.same _ _ h_word)), (atD 0 ?_ ?_), ?_⟩
      · omega
      · omega
      refine ⟨_, rfl, (.inl ⟨rfl, _, (SqL.of fr.at1)⟩), _, rfl, _, rfl, _, _, _, rfl, (SqL.of (fr.same _ _ h_others)), (List.length_map _), _, _, rfl, rfl, ?_, _, rfl, _, rfl, _, rfl, _, rfl, a_marks, marks, a_others, others, ((List.getD word (Int.toNat y_34) 0)), z_35, rfl, (fr.same _ _ h_marks), (fr.same _ _ h_others), ?_, fun H_39 turned_about_40 hp_42 sm_41 => ?_⟩
      · first | exact .inl (by omega) | exact .inr (by omega)
      · omega
      have fr : Fr H _ [(p_20, (.lst (List.map V.int (((riffleI (((upto (Int.toNat ((word.length : Int)))))) others more)))) : HO)), (l_7, (.lst (List.map V.int row_23) : HO))] := fr.call sm_41
      subst hp_42
      refine ⟨_, _, rfl, rfl, _, _, _, rfl, rfl, fr.at1, ?_, ?_⟩
      · walk_at "size"
      have fr : Fr H _ [(p_20, (.lst (List.map V.int (((riffleI (((upto (Int.toNat ((word.length : Int)))))) others more)))) : HO)), (l_7, (.lst (List.map V.int ((row_23 ++ [(((List.getD word (Int.toNat y_34) 0) * (others.length : Int)) + ((turnedI marks others ((List.getD word (Int.toNat y_34) 0)) z_35)))]))) : HO))] := Fr.wrk fr 1 rfl (lst_app V.int _ _)
      refine ⟨(row_23 ++ [(((List.getD word (Int.toNat y_34) 0) * (others.length : Int)) + ((turnedI marks others ((List.getD word (Int.toNat y_34) 0)) z_35)))]), _, _, _, rfl, fr, ?_⟩
      · rw [hrow]; exact bothTo_step hah.1 hz_38
    rintro s_44 H_43 ⟨row_23, y_24, y_25, y_26, rfl, fr, hrow⟩
    have fr : Fr H _ [(l_7, (.lst (List.map V.int row_23) : HO))] := Fr.dk fr 0
    refine ⟨_, rfl, ?_⟩
    exact q _ _ row_23 (by rw [hrow, hrl]; unfold bothW; congr 1; omega) fr.same fr.n0 fr.at0
def sp_parted (K : PySem.W.Frag) : Sp := fun vs H Q _ => ∃ (a_marks : Addr) (marks : List Bool) (a_others : Addr) (others : List Bool) (a_word : Addr) (word : List Int), vs = [V.ref a_marks, V.ref a_others, V.ref a_word] ∧ H a_marks = some (.lst (List.map V.bl marks)) ∧ H a_others = some (.lst (List.map V.bl others)) ∧ H a_word = some (.lst (List.map V.int word)) ∧ (IsW (joinedM marks others).length word) ∧ (marks.length ≤ 400 ∧ others.length ≤ 400 ∧ marks.length * others.length ≤ 400) ∧ (1 ≤ word.length ∧ word.length ≤ 60) ∧ (∀ (H1 : Hp) (rA : Addr) (a0 : Addr) (res0 : List Int) (a1 : Addr) (res1 : List Int), (res0 = partE marks others word) → (res1 = partM marks others word) → Fr H H1 [(rA, HO.tup [V.ref a0, V.ref a1]), (a0, .lst (List.map V.int res0)), (a1, .lst (List.map V.int res1))] → Q (V.ref rA) H1)
theorem sc_parted : FnScope ["marks", "others", "word", "more", "number", "heap", "other", "early", "ahead"] ["marks", "others", "word"] (defScope s_parted) := ⟨rfl, rfl, rfl, by decide +kernel, rfl, by decide +kernel, by decide +kernel⟩
theorem ok_parted (T : Txt K mg) : FnOk P w K mg base CX0 5 T.f_parted T.fd_parted ["marks", "others", "word"] (sp_parted K) := by
  refine T.F_parted.ok sc_parted (fun vs H Q E h => ?_) (fun cdv A outer s H vs Q E hr h => ?_)
  · obtain ⟨a_marks, marks, a_others, others, a_word, word, rfl, _⟩ := h; rfl
  · obtain ⟨a_marks, marks, a_others, others, a_word, word, rfl, h_marks, h_others, h_word, pre0, pre1, pre2, q⟩ := h
    have fr := Fr.nil H
    have hlu := upto_length (Int.toNat (word.length : Int))
    have hpl := partM_length (ms := marks) (os := others) (w := word)
    have hpm := partM_isW pre0
    have hoj := isOrd_numI others hpm
    have hos : 0 < others.length := joined_len_of pre0 (by omega)
    refine ⟨_, (pss_cons (ps_expr (pe_call (ok_check T) (hr.mono (by decide)) (by rfl) T.g_check T.F_check.kp T.b_check .nil pass0 (pa_cons (pe_call (ok_joined_marks T) (hr.mono (by decide)) (by rfl) T.g_joined_marks T.F_joined_marks.kp T.b_joined_marks .nil pass0 (pa_cons (pv 0) (pa_cons (pv 1) pa_nil))) (pa_cons (pv 2) (pa_cons (pe_callB (show CallR _ _ (rLenL K) from call_lenL) (by rfl) T.m_len (by decide +kernel) (pa_cons (pv 2) pa_nil)) pa_nil)))))
          (pss_cons (ps_set (i := 3) sc_parted.nd rfl (Or.inl rfl) (pe_lst pa_nil))
          (pss_cons (ps_for PassesOwn.never rfl (pi_list (pv 2)) (pg_name (i := 4) sc_parted.nd rfl (Or.inl rfl)) (pss_cons (ps_asg (pe_callB call_divmod (by rfl) T.m_divmod (by decide +kernel) (pa_cons (pv 4) (pa_cons (pe_callB (show CallR _ _ (rLenL K) from call_lenL) (by rfl) T.m_len (by decide +kernel) (pa_cons (pv 1) pa_nil)) pa_nil))) (pg_tup rfl (pgs_cons (pg_name (i := 5) sc_parted.nd rfl (Or.inl rfl)) (pgs_cons (pg_name (i := 6) sc_parted.nd rfl (Or.inl rfl)) pgs_nil))))
          (pss_one (ps_expr (pe_bmK (K := K) (pe_bm PySem.F.plainAttrs_list PySem.F.slot_list_append PySem.F.type_list_append mt_append (pv 3) (pa_cons (pe_call (ok_turned_about T) (hr.mono (by decide)) (by rfl) T.g_turned_about T.F_turned_about.kp T.b_turned_about .nil pass0 (pa_cons (pv 0) (pa_cons (pv 1) (pa_cons (pv 5) (pa_cons (pv 6) pa_nil))))) pa_nil)))))))
          (pss_cons (ps_set (i := 7) sc_parted.nd rfl (Or.inl rfl) (pe_op op_rep (pe_lst (pa_cons pe_int pa_nil)) (pe_callB (show CallR _ _ (rLenL K) from call_lenL) (by rfl) T.m_len (by decide +kernel) (pa_cons (pv 2) pa_nil))))
          (pss_cons (ps_for PassesOwn.never rfl (pi_zip (by rfl) T.m_zip (pa_cons (pv 2) (pa_cons (pe_call (ok_riffled T) (hr.mono (by decide)) (by rfl) T.g_riffled T.F_riffled.kp T.b_riffled .nil pass0 (pa_cons (pe_call (ok_first T) (hr.mono (by decide)) (by rfl) T.g_first T.F_first.kp T.b_first .nil pass0 (pa_cons (pe_callB (show CallR _ _ (rLenL K) from call_lenL) (by rfl) T.m_len (by decide +kernel) (pa_cons (pv 2) pa_nil)) pa_nil)) (pa_cons (pv 1) (pa_cons (pv 3) pa_nil)))) pa_nil))) (pg_tup rfl (pgs_cons (pg_name (i := 4) sc_parted.nd rfl (Or.inl rfl)) (pgs_cons (pg_name (i := 8) sc_parted.nd rfl (Or.inl rfl)) pgs_nil))) (pss_one (ps_asg (pe_op op_fdiv (pv 4) (pe_callB (show CallR _ _ (rLenL K) from call_lenL) (by rfl) T.m_len (by decide +kernel) (pa_cons (pv 1) pa_nil))) (pg_sub (pv 7) (pv 8) set_list))))
          (pss_one (ps_ret (pe_tup (pa_cons (pv 7) (pa_cons (pv 3) pa_nil)))))))))), ?_⟩
    refine ⟨_, rfl, _, rfl, a_marks, marks, a_others, others, rfl, (fr.same _ _ h_marks), (fr.same _ _ h_others), ?_, fun H_1 p_5 joined_marks_2 hp_4 sm_3 np_6 ep_7 => ?_⟩
    · exact pre1
    have fr : Fr H _ [(p_5, (.lst (List.map V.bl joined_marks_2) : HO))] := fr.cnew sm_3 np_6 ep_7
    subst hp_4
    refine ⟨_, rfl, _, rfl, _, _, _, rfl, (SqL.of (fr.same _ _ h_word)), (List.length_map _), p_5, (((joinedM marks others))), a_word, ((List.map V.int word)), ((word.length : Int)), rfl, fr.at0, (fr.same _ _ h_word), ?_, ?_, ?_, fun H_8  sm_10 => ?_⟩
    · exact Sca.ints _
    · simp; omega
    · exact isWordV_ints pre0 rfl
    have fr : Fr H _ [(p_5, (.lst (List.map V.bl (((joinedM marks others)))) : HO))] := fr.call sm_10
    have fr : Fr H _ [] := Fr.dk fr 0
    refine ⟨(Evl.sz_of (show 0 ≤ 100000 by decide)), fun l_11 nl_12 => ?_⟩
    have fr : Fr H _ [(l_11, (.lst [] : HO))] := fr.new nl_12
    have fr : Fr H _ [(l_11, (.lst (List.map V.int ([])) : HO))] := fr
    refine ⟨_, rfl, _, rfl, ⟨_, (SqL.of (fr.same _ _ h_word))⟩, ?_⟩
    refine for_it (walkL V.int word) (fun (i : Nat) σ H1 => ∃ (more_13 : List Int) (y_14 : Option V) (y_15 : Option V) (y_16 : Option V), σ = [some (V.ref a_marks), some (V.ref a_others), some (V.ref a_word), some (V.ref l_11), y_14, y_15, y_16, none, none] ∧ Fr H H1 [(l_11, (.lst (List.map V.int more_13) : HO))] ∧ (more_13 = (word.take i).map (partAt marks others))) ?_ ?_ ?_ ?_
    · refine ⟨[], _, _, _, rfl, fr, ?_⟩
      · rfl
    · rintro i σ H1 hi ⟨more_13, y_14, y_15, y_16, rfl, fr, hmo⟩
      exact (fr.same _ _ h_word)
    · rintro i_17 x_19 s_22 H_20 H_21 hi_18 ⟨more_13, y_14, y_15, y_16, rfl, fr, hmo⟩ ⟨rfl, y_23, hy_24, rfl⟩
      have hyb := part_bd pre0 (List.mem_of_getElem? hy_24)
      have hmlen : more_13.length ≤ word.length := by rw [hmo, List.length_map, List.length_take]; omega
      refine ⟨_, rfl, _, rfl, _, _, _, rfl, (SqL.of (fr.same _ _ h_others)), (List.length_map _), _, _, rfl, ?_, fun t_25 nt_26 => ?_⟩
      · exact ⟨by omega, by omega⟩
      have fr : Fr H _ [(t_25, (.tup [(V.int ((y_23 / (others.length : Int)))), (V.int ((y_23 % (others.length : Int))))] : HO)), (l_11, (.lst (List.map V.int more_13) : HO))] := fr.new nt_26
      refine ⟨_, _, rfl, (SqT.of fr.at0), rfl, _, _, rfl, _, _, rfl, rfl, ?_⟩
      have fr : Fr H _ [(l_11, (.lst (List.map V.int more_13) : HO))] := Fr.dk fr 0
      refine ⟨_, rfl, (.inl ⟨rfl, _, (SqL.of fr.at0)⟩), _, rfl, _, rfl, _, rfl, _, rfl, a_marks, marks, a_others, others, ((y_23 / (others.length : Int))), ((y_23 % (others.length : Int))), rfl, (fr.same _ _ h_marks), (fr.same _ _ h_others), ?_, fun H_27 turned_about_28 hp_30 sm_29 => ?_⟩
      · exact ⟨(part_bd pre0 (List.mem_of_getElem? hy_24)).1, (part_bd pre0 (List.mem_of_getElem? hy_24)).2.1⟩
      have fr : Fr H _ [(l_11, (.lst (List.map V.int more_13) : HO))] := fr.call sm_29
      subst hp_30
      refine ⟨_, _, _, rfl, rfl, fr.at0, ?_, ?_⟩
      · walk_at "size"
      have fr : Fr H _ [(l_11, (.lst (List.map V.int ((more_13 ++ [((turnedI marks others ((y_23 / (others.length : Int))) ((y_23 % (others.length : Int)))))]))) : HO))] := Fr.wrk fr 0 rfl (lst_app V.int _ _)
      refine ⟨(more_13 ++ [((turnedI marks others ((y_23 / (others.length : Int))) ((y_23 % (others.length : Int)))))]), _, _, _, rfl, fr, ?_⟩
      · rw [hmo]; exact partM_next hy_24
    rintro s_32 H_31 ⟨more_13, y_14, y_15, y_16, rfl, fr, hmo⟩
    rw [List.take_length] at hmo
    have hmore : more_13 = partM marks others word := hmo
    refine ⟨(Evl.sz_of (show 1 ≤ 100000 by decide)), fun l_33 nl_34 => ?_⟩
    have fr : Fr H _ [(l_33, (.lst (List.map V.int ([0])) : HO)), (l_11, (.lst (List.map V.int more_13) : HO))] := fr.new nl_34
    refine ⟨_, rfl, _, _, _, rfl, (SqL.of (fr.same _ _ h_word)), (List.length_map _), _, _, _, rfl, rfl, fr.at0, ?_, ?_, ?_, fun l_35 nl_36 => ?_⟩
    · walk_at "side"
    · walk_at "side"
    · walk_at "size"
    have fr : Fr H _ [(l_35, (.lst (List.map V.int ((List.replicate (Int.toNat ((word.length : Int))) 0))) : HO)), (l_33, (.lst (List.map V.int ([0])) : HO)), (l_11, (.lst (List.map V.int more_13) : HO))] := (fr.new nl_36).cast (lst_rep1 _ _ _)
    have fr : Fr H _ [(l_35, (.lst (List.map V.int ((List.replicate (Int.toNat ((word.length : Int))) 0))) : HO)), (l_11, (.lst (List.map V.int more_13) : HO))] := Fr.dk fr 1
    refine ⟨_, rfl, _, rfl, _, _, _, rfl, (SqL.of (fr.same _ _ h_word)), (List.length_map _), ((word.length : Int)), rfl, ?_, fun H_37 p_41 first_38 hp_40 sm_39 np_42 ep_43 => ?_⟩
    · omega
    have fr : Fr H _ [(p_41, (.lst (List.map V.int first_38) : HO)), (l_35, (.lst (List.map V.int ((List.replicate (Int.toNat ((word.length : Int))) 0))) : HO)), (l_11, (.lst (List.map V.int more_13) : HO))] := fr.cnew sm_39 np_42 ep_43
    subst hp_40
    refine ⟨_, rfl, _, rfl, p_41, (((upto (Int.toNat ((word.length : Int)))))), a_others, others, l_11, more_13, rfl, fr.at0, (fr.same _ _ h_others), fr.at2, ?_, ?_, fun H_44 p_48 riffled_45 hp_47 sm_46 np_49 ep_50 => ?_⟩
    · rw [hmore]; exact hpm
    · rw [hmore, hlu]; omega
    have fr : Fr H _ [(p_48, (.lst (List.map V.int riffled_45) : HO)), (p_41, (.lst (List.map V.int (((upto (Int.toNat ((word.length : Int))))))) : HO)), (l_35, (.lst (List.map V.int ((List.replicate (Int.toNat ((word.length : Int))) 0))) : HO)), (l_11, (.lst (List.map V.int more_13) : HO))] := fr.cnew sm_46 np_49 ep_50
    subst hp_47
    have hrl := riffleI_length (upto (Int.toNat (word.length : Int))) others more_13
    refine ⟨_, _, _, _, rfl, (SqL.of (fr.same _ _ h_word)), (SqL.of fr.at0), ?_⟩
    have fr : Fr H _ [(p_48, (.lst (List.map V.int (((riffleI (((upto (Int.toNat ((word.length : Int)))))) others more_13)))) : HO)), (l_35, (.lst (List.map V.int ((List.replicate (Int.toNat ((word.length : Int))) 0))) : HO)), (l_11, (.lst (List.map V.int more_13) : HO))] := Fr.dk fr 1
    refine for_it (walkZ V.int V.int word (((riffleI (((upto (Int.toNat ((word.length : Int)))))) others more_13)))) (fun (i : Nat) σ H1 => ∃ (y_51 : Option V) (early_52 : List Int) (y_53 : Option V), σ = [some (V.ref a_marks), some (V.ref a_others), some (V.ref a_word), some (V.ref l_11), y_51, y_15, y_16, some (V.ref l_35), y_53] ∧ Fr H H1 [(p_48, (.lst (List.map V.int (((riffleI (((upto (Int.toNat ((word.length : Int)))))) others more_13)))) : HO)), (l_35, (.lst (List.map V.int early_52) : HO)), (l_11, (.lst (List.map V.int more_13) : HO))] ∧ (early_52 = undoTo (heapsW others word) (numI others (partM marks others word)) i)) ?_ ?_ ?_ ?_
    · refine ⟨_, (List.replicate (Int.toNat ((word.length : Int))) 0), _, rfl, fr, ?_⟩
      · rw [Int.toNat_natCast]; exact partE_zero
    · rintro i σ H1 hi ⟨y_51, early_52, y_53, rfl, fr, hea⟩
      exact ⟨(fr.same _ _ h_word), fr.at0⟩
    · rintro i_54 x_56 s_59 H_57 H_58 hi_55 ⟨y_51, early_52, y_53, rfl, fr, hea⟩ ⟨T_60, y_61, z_62, rfl, nT_63, rfl, hy_64, hz_65⟩
      have fr := fr.tmp (o := .tup [(V.int y_61), (V.int z_62)]) nT_63
      refine ⟨_, _, rfl, (SqT.of upd_same), rfl, _, _, rfl, _, _, rfl, rfl, ?_⟩
      have hy2 := hz_65
      rw [hmore, riff_num hpm (by omega)] at hy2
      have hab := hoj.bd hy2
      rw [numI_length] at hab
      have hel : early_52.length = word.length := by rw [hea]; simp [undoTo]
      refine ⟨_, rfl, _, rfl, _, _, _, rfl, (SqL.of (fr.same _ _ h_others)), (List.length_map _), _, _, rfl, rfl, ?_, _, rfl, _, rfl, _, _, _, _, rfl, rfl, fr.at1, (ixDm ?_ ?_), ?_⟩
      · exact ⟨by omega, by omega⟩
      · walk_at "side"
      · walk_at "side"
      have fr : Fr H _ [(p_48, (.lst (List.map V.int (((riffleI (((upto (Int.toNat ((word.length : Int)))))) others more_13)))) : HO)), (l_35, (.lst (List.map V.int ((List.set early_52 (Int.toNat z_62) ((y_61 / (others.length : Int)))))) : HO)), (l_11, (.lst (List.map V.int more_13) : HO))] := Fr.wrk fr 1 rfl (lst_set _ _ _ _)
      refine ⟨_, (List.set early_52 (Int.toNat z_62) ((y_61 / (others.length : Int)))), _, rfl, fr, ?_⟩
      · rw [hea]; exact partE_next pre0 hy_64 hy2
    rintro s_67 H_66 ⟨y_51, early_52, y_53, rfl, fr, hea⟩
    have fr : Fr H _ [(l_35, (.lst (List.map V.int early_52) : HO)), (l_11, (.lst (List.map V.int more_13) : HO))] := Fr.dk fr 0
    refine ⟨_, rfl, _, rfl, (Evl.sz_of (show 2 ≤ 100000 by decide)), fun t_68 nt_69 => ?_⟩
    have fr : Fr H _ [(t_68, (.tup [(V.ref l_35), (V.ref l_11)] : HO)), (l_35, (.lst (List.map V.int early_52) : HO)), (l_11, (.lst (List.map V.int more_13) : HO))] := fr.new nt_69
    exact q _ _ l_35 early_52 l_11 more_13 (by rw [hea, hrl, hmore]; exact partE_all pre0 (by omega)) (by exact hmore) fr
def sp_law_back_and_there (K : PySem.W.Frag) : Sp := fun vs H Q _ => ∃ (a_marks : Addr) (marks : List Bool) (a_others : Addr) (others : List Bool) (a_word : Addr) (word : List Int), vs = [V.ref a_marks, V.ref a_others, V.ref a_word] ∧ H a_marks = some (.lst (List.map V.bl marks)) ∧ H a_others = some (.lst (List.map V.bl others)) ∧ H a_word = some (.lst (List.map V.int word)) ∧ (IsW (joinedM marks others).length word) ∧ (marks.length ≤ 400 ∧ others.length ≤ 400 ∧ marks.length * others.length ≤ 400) ∧ (1 ≤ word.length ∧ word.length ≤ 60) ∧ (∀ (H1 : Hp) (res : Bool), (res = true) → Same H H1 → Q (V.bl res) H1)
theorem sc_law_back_and_there : FnScope ["_law_marks_here", "_law_others", "_law_word_here", "_law_said"] ["_law_marks_here", "_law_others", "_law_word_here"] (defScope s_law_back_and_there) := ⟨rfl, rfl, rfl, by decide +kernel, rfl, by decide +kernel, by decide +kernel⟩
theorem ok_law_back_and_there (T : Txt K mg) : FnOk P w K mg base CX0 6 T.f_law_back_and_there T.fd_law_back_and_there ["_law_marks_here", "_law_others", "_law_word_here"] (sp_law_back_and_there K) := by
  refine T.F_law_back_and_there.ok sc_law_back_and_there (fun vs H Q E h => ?_) (fun cdv A outer s H vs Q E hr h => ?_)
  · obtain ⟨a_marks, marks, a_others, others, a_word, word, rfl, _⟩ := h; rfl
  · obtain ⟨a_marks, marks, a_others, others, a_word, word, rfl, h_marks, h_others, h_word, pre0, pre1, pre2, q⟩ := h
    have fr := Fr.nil H
    have hpe := partE_length (ms := marks) (os := others) (w := word)
    have hpm := partM_length (ms := marks) (os := others) (w := word)
    refine ⟨_, (pss_cons (ps_set (i := 3) sc_law_back_and_there.nd rfl (Or.inl rfl) (pe_call (ok_parted T) (hr.mono (by decide)) (by rfl) T.g_parted T.F_parted.kp T.b_parted .nil pass0 (pa_cons (pe_callTy (show CallR _ _ (rListL K) from call_listL) (by rfl) T.m_list (by decide +kernel) (pa_cons (pv 0) pa_nil)) (pa_cons (pe_callTy (show CallR _ _ (rListL K) from call_listL) (by rfl) T.m_list (by decide +kernel) (pa_cons (pv 1) pa_nil)) (pa_cons (pe_callTy (show CallR _ _ (rListL K) from call_listL) (by rfl) T.m_list (by decide +kernel) (pa_cons (pv 2) pa_nil)) pa_nil)))))
          (pss_one (ps_ret (pe_cmpR (show OpR _ _ (rEqX K) from op_eqX (hu64 hr)) (pe_call (ok_joined T) (hr.mono (by decide)) (by rfl) T.g_joined T.F_joined.kp T.b_joined .nil pass0 (pa_cons (pe_callTy (show CallR _ _ (rListL K) from call_listL) (by rfl) T.m_list (by decide +kernel) (pa_cons (pv 0) pa_nil)) (pa_cons (pe_ix (show IxR _ (rIxT K) from ix_tup) (pv 3) pe_int (fun _ _ => rfl)) (pa_cons (pe_callTy (show CallR _ _ (rListL K) from call_listL) (by rfl) T.m_list (by decide +kernel) (pa_cons (pv 1) pa_nil)) (pa_cons (pe_ix (show IxR _ (rIxT K) from ix_tup) (pv 3) pe_int (fun _ _ => rfl)) pa_nil))))) (pv 2) (nomark _))))), ?_⟩
    refine ⟨_, rfl, _, _, rfl, (.inl (SqL.of (fr.same _ _ h_marks))), fun l_1 nl_2 => ?_⟩
    have fr : Fr H _ [(l_1, (.lst (List.map V.bl marks) : HO))] := fr.new nl_2
    refine ⟨_, rfl, _, _, rfl, (.inl (SqL.of (fr.same _ _ h_others))), fun l_3 nl_4 => ?_⟩
    have fr : Fr H _ [(l_3, (.lst (List.map V.bl others) : HO)), (l_1, (.lst (List.map V.bl marks) : HO))] := fr.new nl_4
    refine ⟨_, rfl, _, _, rfl, (.inl (SqL.of (fr.same _ _ h_word))), fun l_5 nl_6 => ?_⟩
    have fr : Fr H _ [(l_5, (.lst (List.map V.int word) : HO)), (l_3, (.lst (List.map V.bl others) : HO)), (l_1, (.lst (List.map V.bl marks) : HO))] := fr.new nl_6
    refine ⟨l_1, marks, l_3, others, l_5, word, rfl, fr.at2, fr.at1, fr.at0, ?_, ?_, ?_, fun H_7 p_12 a_15 parted_14 a_17 parted_16 hp_10 hp_11 ff_13 => ?_⟩
    · exact pre0
    · exact pre1
    · exact pre2
    subst hp_10
    subst hp_11
    have fr : Fr H _ [(p_12, (.tup [(V.ref a_15), (V.ref a_17)] : HO)), (a_15, (.lst (List.map V.int (((partE marks others word)))) : HO)), (a_17, (.lst (List.map V.int (((partM marks others word)))) : HO)), (l_5, (.lst (List.map V.int word) : HO)), (l_3, (.lst (List.map V.bl others) : HO)), (l_1, (.lst (List.map V.bl marks) : HO))] := Fr.comp fr ff_13
    have fr : Fr H _ [(p_12, (.tup [(V.ref a_15), (V.ref a_17)] : HO)), (a_15, (.lst (List.map V.int (((partE marks others word)))) : HO)), (a_17, (.lst (List.map V.int (((partM marks others word)))) : HO)), (l_3, (.lst (List.map V.bl others) : HO)), (l_1, (.lst (List.map V.bl marks) : HO))] := Fr.dk fr 3
    have fr : Fr H _ [(p_12, (.tup [(V.ref a_15), (V.ref a_17)] : HO)), (a_15, (.lst (List.map V.int (((partE marks others word)))) : HO)), (a_17, (.lst (List.map V.int (((partM marks others word)))) : HO)), (l_1, (.lst (List.map V.bl marks) : HO))] := Fr.dk fr 3
    have fr : Fr H _ [(p_12, (.tup [(V.ref a_15), (V.ref a_17)] : HO)), (a_15, (.lst (List.map V.int (((partE marks others word)))) : HO)), (a_17, (.lst (List.map V.int (((partM marks others word)))) : HO))] := Fr.dk fr 3
    refine ⟨_, rfl, _, _, rfl, (.inl (SqL.of (fr.same _ _ h_marks))), fun l_18 nl_19 => ?_⟩
    have fr : Fr H _ [(l_18, (.lst (List.map V.bl marks) : HO)), (p_12, (.tup [(V.ref a_15), (V.ref a_17)] : HO)), (a_15, (.lst (List.map V.int (((partE marks others word)))) : HO)), (a_17, (.lst (List.map V.int (((partM marks others word)))) : HO))] := fr.new nl_19
    refine ⟨_, rfl, _, _, _, _, rfl, rfl, (SqT.of fr.at1), (atI_nat (j := 0) rfl), _, rfl, _, _, rfl, (.inl (SqL.of (fr.same _ _ h_others))), fun l_20 nl_21 => ?_⟩
    have fr : Fr H _ [(l_20, (.lst (List.map V.bl others) : HO)), (l_18, (.lst (List.map V.bl marks) : HO)), (p_12, (.tup [(V.ref a_15), (V.ref a_17)] : HO)), (a_15, (.lst (List.map V.int (((partE marks others word)))) : HO)), (a_17, (.lst (List.map V.int (((partM marks others word)))) : HO))] := fr.new nl_21
    refine ⟨_, rfl, _, _, _, _, rfl, rfl, (SqT.of fr.at2), (atI_nat (j := 1) rfl), l_18, marks, a_15, (((partE marks others word))), l_20, others, a_17, (((partM marks others word))), rfl, fr.at1, fr.at3, fr.at0, (Fr.atk fr 4 rfl), ?_, ?_, ?_, ?_, fun H_22 p_26 joined_23 hp_25 sm_24 np_27 ep_28 => ?_⟩
    · exact partE_isW pre0
    · exact partM_isW pre0
    · omega
    · exact pre1
    have fr : Fr H _ [(p_26, (.lst (List.map V.int joined_23) : HO)), (l_20, (.lst (List.map V.bl others) : HO)), (l_18, (.lst (List.map V.bl marks) : HO)), (p_12, (.tup [(V.ref a_15), (V.ref a_17)] : HO)), (a_15, (.lst (List.map V.int (((partE marks others word)))) : HO)), (a_17, (.lst (List.map V.int (((partM marks others word)))) : HO))] := fr.cnew sm_24 np_27 ep_28
    subst hp_25
    refine ⟨_, rfl, _, _, decide (((bothW marks (((partE marks others word))) others (((partM marks others word))))) = word), (dp_ints fr.at0), (dp_ints (fr.same _ _ h_word)), (Okd.sh (okd_ints _)), (Okd.sh (okd_ints _)), (eqv_ints _ _), ?_⟩
    exact q _ (decide (((bothW marks (((partE marks others word))) others (((partM marks others word))))) = word)) (by exact decide_eq_true (both_part pre0)) fr.same
def sp_law_cell_at (K : PySem.W.Frag) : Sp := fun vs H Q _ => ∃ (a_script : Addr) (script : List Int) (k : Int), vs = [V.ref a_script, V.int k] ∧ SqL K H a_script (List.map V.int script) ∧ (0 ≤ k) ∧ (∀ (H1 : Hp) (res : Int), (res = cellI script k) → Same H H1 → Q (V.int res) H1)
theorem sc_law_cell_at : FnScope ["_law_script", "_law_k"] ["_law_script", "_law_k"] (defScope s_law_cell_at) := ⟨rfl, rfl, rfl, by decide +kernel, rfl, by decide +kernel, by decide +kernel⟩
theorem ok_law_cell_at (T : Txt K mg) : FnOk P w K mg base CX0 1 T.f_law_cell_at T.fd_law_cell_at ["_law_script", "_law_k"] (sp_law_cell_at K) := by
  refine T.F_law_cell_at.ok sc_law_cell_at (fun vs H Q E h => ?_) (fun cdv A outer s H vs Q E hr h => ?_)
  · obtain ⟨a_script, script, k, rfl, _⟩ := h; rfl
  · obtain ⟨a_script, script, k, rfl, h_script, pre0, q⟩ := h
    have fr := Fr.nil H
    refine ⟨_, (pss_cons (ps_if (pt_cmpR op_ltS (pv 1) (pe_callB (show CallR _ _ (rLenL K) from call_lenL) (by rfl) T.m_len (by decide +kernel) (pa_cons (pv 0) pa_nil)) (nomark _)) (pss_one (ps_ret (pe_ix (show IxR _ (rIxL K) from ix_list) (pv 0) (pv 1) (fun _ _ => rfl)))) pss_nil)
          (pss_one (ps_ret pe_int))), ?_⟩
    refine ⟨_, rfl, _, rfl, _, _, _, rfl, (fr.same.seq h_script), (List.length_map _), _, _, rfl, rfl, ?_, ?_⟩
    · intro h1
      refine ⟨_, rfl, ?_⟩
      refine iteT ?_
      refine ⟨_, rfl, _, rfl, _, _, _, _, rfl, rfl, (fr.same.seq h_script), (atD 0 ?_ ?_), ?_⟩
      · walk_at "side"
      · walk_at "side"
      exact q _ ((List.getD script (Int.toNat k) 0)) (by simp only [cellI]; simp_all) fr.same
    · intro h1
      refine ⟨_, rfl, ?_⟩
      refine iteF ?_
      exact q _ 0 (by simp only [cellI]; simp_all) fr.same
def sp_law_mixed (K : PySem.W.Frag) : Sp := fun vs H Q _ => ∃ (cell : Int) (k : Int), vs = [V.int cell, V.int k] ∧ (0 ≤ k ∧ k < 1000) ∧ (∀ (H1 : Hp) (res : Int), (0 ≤ res ∧ res < 2147483647) → Same H H1 → Q (V.int res) H1)
theorem sc_law_mixed : FnScope ["_law_cell", "_law_k", "_law_number"] ["_law_cell", "_law_k"] (defScope s_law_mixed) := ⟨rfl, rfl, rfl, by decide +kernel, rfl, by decide +kernel, by decide +kernel⟩
theorem ok_law_mixed (T : Txt K mg) : FnOk P w K mg base CX0 1 T.f_law_mixed T.fd_law_mixed ["_law_cell", "_law_k"] (sp_law_mixed K) := by
  refine T.F_law_mixed.ok sc_law_mixed (fun vs H Q E h => ?_) (fun cdv A outer s H vs Q E hr h => ?_)
  · obtain ⟨cell, k, rfl, _⟩ := h; rfl
  · obtain ⟨cell, k, rfl, pre0, q⟩ := h
    have fr := Fr.nil H
    refine ⟨_, (pss_cons (ps_set (i := 2) sc_law_mixed.nd rfl (Or.inl rfl) (pe_op op_mod (pe_op op_mul (pe_op op_add (pe_op op_add (pe_op op_mod (pe_callB call_absI (by rfl) T.m_abs (by decide +kernel) (pa_cons (pv 0) pa_nil)) pe_int) (pe_op op_mul pe_int (pv 1))) pe_int) (pe_op op_add pe_int (pe_op op_mul (pv 1) (pv 1)))) pe_int))
          (pss_one (ps_ret (pe_op op_mod (pe_op op_mul (pv 2) pe_int) pe_int)))), ?_⟩
    refine ⟨_, rfl, _, rfl, _, _, rfl, rfl, (show (0 : Int) < _ by decide), _, rfl, _, _, rfl, rfl, (.inl (by decide)), _, _, rfl, rfl, _, _, rfl, rfl, _, rfl, _, rfl, _, _, rfl, rfl, ?_, _, _, rfl, rfl, _, _, rfl, rfl, ?_, _, _, rfl, rfl, (show (0 : Int) < _ by decide), ?_⟩
    · walk_at "mul"
    · walk_at "mul"
    refine ⟨_, rfl, _, _, rfl, rfl, (.inr (by decide)), _, _, rfl, rfl, (show (0 : Int) < _ by decide), ?_⟩
    exact q _ (((((((((cell.natAbs : Int) % 2147483647) + (97 * k)) + 13) * (16807 + (k * k))) % 2147483647) * 48271) % 2147483647)) (by exact ⟨Int.emod_nonneg _ (by decide), Int.emod_lt_of_pos _ (by decide)⟩) fr.same
def sp_law_marks (K : PySem.W.Frag) : Sp := fun vs H Q _ => ∃ (cell : Int) (most : Int), vs = [V.int cell, V.int most] ∧ (1 ≤ most ∧ most ≤ 400) ∧ (∀ (H1 : Hp) (rA : Addr) (res : List Bool), (1 ≤ res.length ∧ (res.length : Int) ≤ most) → Same H H1 → H rA = none → H1 rA = some (.lst (List.map V.bl res)) → Q (V.ref rA) H1)
theorem sc_law_marks : FnScope ["_law_cell", "_law_most", "_law_many", "_law_rest", "_law_marks_here", "_law_k", "_law_bit"] ["_law_cell", "_law_most"] (defScope s_law_marks) := ⟨rfl, rfl, rfl, by decide +kernel, rfl, by decide +kernel, by decide +kernel⟩
theorem ok_law_marks (T : Txt K mg) : FnOk P w K mg base CX0 2 T.f_law_marks T.fd_law_marks ["_law_cell", "_law_most"] (sp_law_marks K) := by
  refine T.F_law_marks.ok sc_law_marks (fun vs H Q E h => ?_) (fun cdv A outer s H vs Q E hr h => ?_)
  · obtain ⟨cell, most, rfl, _⟩ := h; rfl
  · obtain ⟨cell, most, rfl, pre0, q⟩ := h
    have fr := Fr.nil H
    refine ⟨_, (pss_cons (ps_set (i := 2) sc_law_marks.nd rfl (Or.inl rfl) (pe_op op_add pe_int (pe_op op_mod (pv 0) (pv 1))))
          (pss_cons (ps_set (i := 3) sc_law_marks.nd rfl (Or.inl rfl) (pe_op op_fdiv (pv 0) (pv 1)))
          (pss_cons (ps_set (i := 4) sc_law_marks.nd rfl (Or.inl rfl) (pe_lst pa_nil))
          (pss_cons (ps_for PassesOwn.never rfl (pi_range1 (by rfl) T.m_range (pa_cons (pv 2) pa_nil)) (pg_name (i := 5) sc_law_marks.nd rfl (Or.inl rfl)) (pss_cons (ps_set (i := 6) sc_law_marks.nd rfl (Or.inl rfl) (pe_op op_mod (pv 3) pe_int))
          (pss_cons (ps_set (i := 3) sc_law_marks.nd rfl (Or.inl rfl) (pe_op op_fdiv (pv 3) pe_int))
          (pss_cons (ps_if (pt_cmpR op_ltS (pe_callB call_absI (by rfl) T.m_abs (by decide +kernel) (pa_cons (pv 0) pa_nil)) (pe_op op_powL pe_int pe_int) (nomark _)) (pss_one (ps_set (i := 6) sc_law_marks.nd rfl (Or.inl rfl) (pe_op op_mod (pe_op op_fdiv (pe_call (ok_law_mixed T) (hr.mono (by decide)) (by rfl) T.g_law_mixed T.F_law_mixed.kp T.b_law_mixed .nil pass0 (pa_cons (pv 0) (pa_cons (pe_op op_add (pv 5) pe_int) pa_nil))) pe_int) pe_int))) pss_nil)
          (pss_one (ps_expr (pe_bmK (K := K) (pe_bm PySem.F.plainAttrs_list PySem.F.slot_list_append PySem.F.type_list_append mt_append (pv 4) (pa_cons (pe_cmp (pc_eqI (pv 6) pe_int)) pa_nil)))))))))
          (pss_one (ps_ret (pv 4))))))), ?_⟩
    refine ⟨_, rfl, _, rfl, _, _, rfl, rfl, ?_, _, _, rfl, rfl, ?_⟩
    · walk_at "side"
    dsimp only
    generalize e_law_many_2 : ((1 + (cell % most)) : Int) = many_1
    have hm1 := Int.emod_nonneg cell (show most ≠ 0 by omega)
    have hm2 := Int.emod_lt_of_pos cell (show 0 < most by omega)
    refine ⟨_, rfl, _, rfl, _, _, rfl, rfl, ?_, ?_⟩
    · walk_at "div"
    refine ⟨(Evl.sz_of (show 0 ≤ 100000 by decide)), fun l_3 nl_4 => ?_⟩
    have fr : Fr H _ [(l_3, (.lst [] : HO))] := fr.new nl_4
    have fr : Fr H _ [(l_3, (.lst (List.map V.bl ([])) : HO))] := fr
    refine ⟨_, rfl, _, rfl, ?_, ?_, ?_⟩
    · walk_at "side"
    · walk_at "side"
    refine for_it (walkR (n := (Int.toNat many_1))) (fun (i : Nat) σ H1 => ∃ (rest_5 : Int) (marks_6 : List Bool) (y_7 : Option V) (y_8 : Option V), σ = [some (V.int cell), some (V.int most), some (V.int many_1), some (V.int rest_5), some (V.ref l_3), y_7, y_8] ∧ Fr H H1 [(l_3, (.lst (List.map V.bl marks_6) : HO))] ∧ (marks_6.length = i)) ?_ ?_ ?_ ?_
    · refine ⟨(cell / most), [], _, _, rfl, fr, ?_⟩
      · walk_at "inv"
    · rintro i σ H1 hi ⟨rest_5, marks_6, y_7, y_8, rfl, fr, hl⟩
      exact trivial
    · rintro i_9 x_11 s_14 H_12 H_13 hi_10 ⟨rest_5, marks_6, y_7, y_8, rfl, fr, hl⟩ ⟨rfl, rfl⟩
      refine ⟨_, rfl, _, _, rfl, rfl, (show (0 : Int) < _ by decide), ?_⟩
      refine ⟨_, rfl, _, _, rfl, rfl, ⟨by decide, by decide⟩, ?_⟩
      refine ⟨_, rfl, _, rfl, _, _, 1000000000000000000, rfl, rfl, ⟨by decide, by decide, by decide⟩, (by decide), _, _, rfl, rfl, ?_, ?_⟩
      · intro h15
        refine ⟨_, rfl, ?_⟩
        refine iteT ?_
        refine ⟨_, rfl, _, rfl, _, _, rfl, rfl, cell, (((i_9 : Int) + 200)), rfl, ?_, fun H_16 mixed_17 hp_19 sm_18 => ?_⟩
        · walk_at "side"
        have fr : Fr H _ [(l_3, (.lst (List.map V.bl marks_6) : HO))] := fr.call sm_18
        refine ⟨_, _, rfl, rfl, ⟨by decide, by decide⟩, _, _, rfl, rfl, (show (0 : Int) < _ by decide), ?_⟩
        refine ⟨_, rfl, (.inl ⟨rfl, _, (SqL.of fr.at0)⟩), _, rfl, _, _, rfl, rfl, _, _, _, rfl, rfl, fr.at0, ?_, ?_⟩
        · walk_at "size"
        have fr : Fr H _ [(l_3, (.lst (List.map V.bl ((marks_6 ++ [decide (((mixed_17 / 7) % 2) = 1)]))) : HO))] := Fr.wrk fr 0 rfl (lst_app V.bl _ _)
        refine ⟨(rest_5 / 2), (marks_6 ++ [decide (((mixed_17 / 7) % 2) = 1)]), _, _, rfl, fr, ?_⟩
        · walk_at "inv"
      · intro h15
        refine ⟨_, rfl, ?_⟩
        refine iteF ?_
        refine ⟨_, rfl, (.inl ⟨rfl, _, (SqL.of fr.at0)⟩), _, rfl, _, _, rfl, rfl, _, _, _, rfl, rfl, fr.at0, ?_, ?_⟩
        · walk_at "size"
        have fr : Fr H _ [(l_3, (.lst (List.map V.bl ((marks_6 ++ [decide ((rest_5 % 2) = 1)]))) : HO))] := Fr.wrk fr 0 rfl (lst_app V.bl _ _)
        refine ⟨(rest_5 / 2), (marks_6 ++ [decide ((rest_5 % 2) = 1)]), _, _, rfl, fr, ?_⟩
        · walk_at "inv"
    rintro s_21 H_20 ⟨rest_5, marks_6, y_7, y_8, rfl, fr, hl⟩
    refine ⟨_, rfl, ?_⟩
    exact q _ _ marks_6 (by walk_at "post") fr.same fr.n0 fr.at0
def sp_law_two (K : PySem.W.Frag) : Sp := fun vs H Q _ => ∃ (a_said : Addr) (a0_said : Addr) (said0 : List Int) (a1_said : Addr) (said1 : List Int) (a_word : Addr) (word : List Int) (a_more : Addr) (more : List Int), vs = [V.ref a_said, V.ref a_word, V.ref a_more] ∧ H a_said = some (.tup [(V.ref a0_said), (V.ref a1_said)]) ∧ H a0_said = some (.lst (List.map V.int said0)) ∧ H a1_said = some (.lst (List.map V.int said1)) ∧ H a_word = some (.lst (List.map V.int word)) ∧ H a_more = some (.lst (List.map V.int more)) ∧ (said0 = word) ∧ (said1 = more) ∧ (∀ (H1 : Hp) (res : Bool), (res = true) → Same H H1 → Q (V.bl res) H1)
theorem sc_law_two : FnScope ["_law_said", "_law_word_here", "_law_more", "_law_row", "_law_due", "_law_number"] ["_law_said", "_law_word_here", "_law_more"] (defScope s_law_two) := ⟨rfl, rfl, rfl, by decide +kernel, rfl, by decide +kernel, by decide +kernel⟩
theorem ok_law_two (T : Txt K mg) : FnOk P w K mg base CX0 1 T.f_law_two T.fd_law_two ["_law_said", "_law_word_here", "_law_more"] (sp_law_two K) := by
  refine T.F_law_two.ok sc_law_two (fun vs H Q E h => ?_) (fun cdv A outer s H vs Q E hr h => ?_)
  · obtain ⟨a_said, a0_said, said0, a1_said, said1, a_word, word, a_more, more, rfl, _⟩ := h; rfl
  · obtain ⟨a_said, a0_said, said0, a1_said, said1, a_word, word, a_more, more, rfl, h_said, h0_said, h1_said, h_word, h_more, pre0, pre1, q⟩ := h
    have fr := Fr.nil H
    refine ⟨_, (pss_cons (ps_if (PW.pt (pw_or (pt_not (pt_valS (pe_callB (show CallR _ _ (rIsi K) from call_isi) (by rfl) T.m_isinstance (by decide +kernel) (pa_cons (pv 0) (pa_cons (pe_bltn (v := .ty "tuple") (by rfl) T.m_tuple (by decide +kernel) rfl) pa_nil))))) (pw_or1 (pt_cmpR op_neS (pe_callB (show CallR _ _ (rLenT K) from call_lenT) (by rfl) T.m_len (by decide +kernel) (pa_cons (pv 0) pa_nil)) pe_int (nomark _))))) (pss_one (ps_ret pe_bl)) pss_nil)
          (pss_cons (ps_for PassesOwn.never rfl (pi_list (pe_lst (pa_cons (pe_tup (pa_cons (pe_ix (show IxR _ (rIxT K) from ix_tup) (pv 0) pe_int (fun _ _ => rfl)) (pa_cons (pv 1) pa_nil))) (pa_cons (pe_tup (pa_cons (pe_ix (show IxR _ (rIxT K) from ix_tup) (pv 0) pe_int (fun _ _ => rfl)) (pa_cons (pv 2) pa_nil))) pa_nil)))) (pg_tup rfl (pgs_cons (pg_name (i := 3) sc_law_two.nd rfl (Or.inl rfl)) (pgs_cons (pg_name (i := 4) sc_law_two.nd rfl (Or.inl rfl)) pgs_nil))) (pss_cons (ps_if (PW.pt (pw_or (pt_not (pt_valS (pe_callB (show CallR _ _ (rIsi K) from call_isi) (by rfl) T.m_isinstance (by decide +kernel) (pa_cons (pv 3) (pa_cons (pe_bltn (v := .ty "list") (by rfl) T.m_list (by decide +kernel) rfl) pa_nil))))) (pw_or1 (pt_cmpR (opS (show OpR _ _ (rNeX K) from op_neX (hu64 hr))) (pv 3) (pv 4) (nomark _))))) (pss_one (ps_ret pe_bl)) pss_nil)
          (pss_one (ps_for PassesOwn.never rfl (pi_list (pv 3)) (pg_name (i := 5) sc_law_two.nd rfl (Or.inl rfl)) (pss_one (ps_if (PW.pt (pw_or (pt_not (pt_valS (pe_callB (show CallR _ _ (rIsi K) from call_isi) (by rfl) T.m_isinstance (by decide +kernel) (pa_cons (pv 5) (pa_cons (pe_bltn (v := .ty "int") (by rfl) T.m_int (by decide +kernel) rfl) pa_nil))))) (pw_or1 (pt_valS (pe_callB (show CallR _ _ (rIsi K) from call_isi) (by rfl) T.m_isinstance (by decide +kernel) (pa_cons (pv 5) (pa_cons (pe_bltn (v := .ty "bool") (by rfl) T.m_bool (by decide +kernel) rfl) pa_nil))))))) (pss_one (ps_ret pe_bl)) pss_nil))))))
          (pss_one (ps_ret pe_bl)))), ?_⟩
    refine ⟨_, rfl, _, _, _, _, _, rfl, (ClsV.ty _), (.base (.tup (fr.same _ _ h_said))), (kit_ty (r := true) (by decide +kernel)), _, rfl, fun _ => ?_, (fun h => nomatch h)⟩
    refine iteF ?_
    refine ⟨_, rfl, _, 2, _, rfl, (SqT.of (fr.same _ _ h_said)), rfl, _, _, rfl, rfl, ?_, ?_⟩
    · intro h1
      exfalso
      exact h1 rfl
    · intro h1
      refine ⟨_, rfl, ?_⟩
      refine iteF ?_
      refine ⟨_, rfl, _, _, _, _, rfl, rfl, (SqT.of (fr.same _ _ h_said)), (atI_nat (j := 0) rfl), _, rfl, (Evl.sz_of (show 2 ≤ 100000 by decide)), fun t_2 nt_3 => ?_⟩
      have fr : Fr H _ [(t_2, (.tup [(V.ref a0_said), (V.ref a_word)] : HO))] := fr.new nt_3
      refine ⟨_, rfl, _, _, _, _, rfl, rfl, (SqT.of (fr.same _ _ h_said)), (atI_nat (j := 1) rfl), _, rfl, (Evl.sz_of (show 2 ≤ 100000 by decide)), fun t_4 nt_5 => ?_⟩
      have fr : Fr H _ [(t_4, (.tup [(V.ref a1_said), (V.ref a_more)] : HO)), (t_2, (.tup [(V.ref a0_said), (V.ref a_word)] : HO))] := fr.new nt_5
      refine ⟨(Evl.sz_of (show 2 ≤ 100000 by decide)), fun l_6 nl_7 => ?_⟩
      have fr : Fr H _ [(l_6, (.lst [V.ref t_2, V.ref t_4] : HO)), (t_4, (.tup [(V.ref a1_said), (V.ref a_more)] : HO)), (t_2, (.tup [(V.ref a0_said), (V.ref a_word)] : HO))] := fr.new nl_7
      refine ⟨_, rfl, ⟨_, (SqL.of fr.at0)⟩, ?_⟩
      refine for_unr (K := K) [(V.ref t_2), (V.ref t_4)] ?_
      refine ⟨(SqL.of fr.at0), ?_⟩
      refine ⟨_, _, rfl, (SqT.of fr.at2), rfl, _, _, rfl, _, _, rfl, rfl, ?_⟩
      refine ⟨_, rfl, _, _, _, _, _, rfl, (ClsV.ty _), (.base (.lst (fr.same _ _ h0_said))), (kit_ty (r := true) (by decide +kernel)), _, rfl, fun _ => ?_, (fun h => nomatch h)⟩
      refine iteF ?_
      refine ⟨_, rfl, _, rfl, _, _, decide (said0 = word), (dp_ints (fr.same _ _ h0_said)), (dp_ints (fr.same _ _ h_word)), (Okd.sh (okd_ints _)), (Okd.sh (okd_ints _)), (eqv_ints _ _), _, rfl, ?_, ?_⟩
      · intro h8
        replace h8 := not_of_nd h8
        exfalso
        exact h8 (by assumption)
      · intro h8
        replace h8 := of_nd h8
        refine ⟨_, rfl, ?_⟩
        refine iteF ?_
        refine ⟨_, rfl, _, rfl, ⟨_, (SqL.of (fr.same _ _ h0_said))⟩, ?_⟩
        refine for_it (walkL V.int said0) (fun (i : Nat) σ H1 => ∃ (y_9 : Option V), σ = [some (V.ref a_said), some (V.ref a_word), some (V.ref a_more), some (V.ref a0_said), some (V.ref a_word), y_9] ∧ Fr H H1 [(l_6, (.lst [V.ref t_2, V.ref t_4] : HO)), (t_4, (.tup [(V.ref a1_said), (V.ref a_more)] : HO)), (t_2, (.tup [(V.ref a0_said), (V.ref a_word)] : HO))]) ?_ ?_ ?_ ?_
        · refine ⟨_, rfl, fr⟩
        · rintro i σ H1 hi ⟨y_9, rfl, fr⟩
          exact (fr.same _ _ h0_said)
        · rintro i_10 x_12 s_15 H_13 H_14 hi_11 ⟨y_9, rfl, fr⟩ ⟨rfl, y_16, hy_17, rfl⟩
          refine ⟨_, rfl, _, _, _, _, _, rfl, (ClsV.ty _), (.base (.int _)), (kit_ty (r := true) (by decide +kernel)), _, rfl, fun _ => ?_, (fun h => nomatch h)⟩
          refine iteF ?_
          refine ⟨_, rfl, _, _, _, _, _, rfl, (ClsV.ty _), (.base (.int _)), (kit_ty (r := false) (by decide +kernel)), _, rfl, (fun h => nomatch h), fun _ => ?_⟩
          refine iteF ?_
          refine ⟨_, rfl, fr⟩
        rintro s_19 H_18 ⟨y_9, rfl, fr⟩
        refine ⟨(SqL.of fr.at0), ?_⟩
        refine ⟨_, _, rfl, (SqT.of fr.at1), rfl, _, _, rfl, _, _, rfl, rfl, ?_⟩
        refine ⟨_, rfl, _, _, _, _, _, rfl, (ClsV.ty _), (.base (.lst (fr.same _ _ h1_said))), (kit_ty (r := true) (by decide +kernel)), _, rfl, fun _ => ?_, (fun h => nomatch h)⟩
        refine iteF ?_
        refine ⟨_, rfl, _, rfl, _, _, decide (said1 = more), (dp_ints (fr.same _ _ h1_said)), (dp_ints (fr.same _ _ h_more)), (Okd.sh (okd_ints _)), (Okd.sh (okd_ints _)), (eqv_ints _ _), _, rfl, ?_, ?_⟩
        · intro h20
          replace h20 := not_of_nd h20
          exfalso
          exact h20 (by assumption)
        · intro h20
          replace h20 := of_nd h20
          refine ⟨_, rfl, ?_⟩
          refine iteF ?_
          refine ⟨_, rfl, _, rfl, ⟨_, (SqL.of (fr.same _ _ h1_said))⟩, ?_⟩
          refine for_it (walkL V.int said1) (fun (i : Nat) σ H1 => ∃ (y_21 : Option V), σ = [some (V.ref a_said), some (V.ref a_word), some (V.ref a_more), some (V.ref a1_said), some (V.ref a_more), y_21] ∧ Fr H H1 [(l_6, (.lst [V.ref t_2, V.ref t_4] : HO)), (t_4, (.tup [(V.ref a1_said), (V.ref a_more)] : HO)), (t_2, (.tup [(V.ref a0_said), (V.ref a_word)] : HO))]) ?_ ?_ ?_ ?_
          · refine ⟨_, rfl, fr⟩
          · rintro i σ H1 hi ⟨y_21, rfl, fr⟩
            exact (fr.same _ _ h1_said)
          · rintro i_22 x_24 s_27 H_25 H_26 hi_23 ⟨y_21, rfl, fr⟩ ⟨rfl, y_28, hy_29, rfl⟩
            refine ⟨_, rfl, _, _, _, _, _, rfl, (ClsV.ty _), (.base (.int _)), (kit_ty (r := true) (by decide +kernel)), _, rfl, fun _ => ?_, (fun h => nomatch h)⟩
            refine iteF ?_
            refine ⟨_, rfl, _, _, _, _, _, rfl, (ClsV.ty _), (.base (.int _)), (kit_ty (r := false) (by decide +kernel)), _, rfl, (fun h => nomatch h), fun _ => ?_⟩
            refine iteF ?_
            refine ⟨_, rfl, fr⟩
          rintro s_31 H_30 ⟨y_21, rfl, fr⟩
          refine ⟨(SqL.of fr.at0), ?_⟩
          have fr : Fr H _ [(t_4, (.tup [(V.ref a1_said), (V.ref a_more)] : HO)), (t_2, (.tup [(V.ref a0_said), (V.ref a_word)] : HO))] := Fr.dk fr 0
          have fr : Fr H _ [(t_2, (.tup [(V.ref a0_said), (V.ref a_word)] : HO))] := Fr.dk fr 0
          have fr : Fr H _ [] := Fr.dk fr 0
          exact q _ true (by rfl) fr.same
def sp_law_there_and_back (K : PySem.W.Frag) : Sp := fun vs H Q _ => ∃ (a_marks : Addr) (marks : List Bool) (a_word : Addr) (word : List Int) (a_others : Addr) (others : List Bool) (a_more : Addr) (more : List Int), vs = [V.ref a_marks, V.ref a_word, V.ref a_others, V.ref a_more] ∧ H a_marks = some (.lst (List.map V.bl marks)) ∧ H a_word = some (.lst (List.map V.int word)) ∧ H a_others = some (.lst (List.map V.bl others)) ∧ H a_more = some (.lst (List.map V.int more)) ∧ (IsW marks.length word) ∧ (IsW others.length more) ∧ (word.length = more.length ∧ 1 ≤ word.length ∧ word.length ≤ 60) ∧ (marks.length ≤ 400 ∧ others.length ≤ 400 ∧ marks.length * others.length ≤ 400) ∧ (∀ (H1 : Hp) (res : Bool), (res = true) → Same H H1 → Q (V.bl res) H1)
theorem sc_law_there_and_back : FnScope ["_law_marks_here", "_law_word_here", "_law_others", "_law_more", "_law_both", "_law_handed", "_law_said"] ["_law_marks_here", "_law_word_here", "_law_others", "_law_more"] (defScope s_law_there_and_back) := ⟨rfl, rfl, rfl, by decide +kernel, rfl, by decide +kernel, by decide +kernel⟩
theorem ok_law_there_and_back (T : Txt K mg) : FnOk P w K mg base CX0 6 T.f_law_there_and_back T.fd_law_there_and_back ["_law_marks_here", "_law_word_here", "_law_others", "_law_more"] (sp_law_there_and_back K) := by
  refine T.F_law_there_and_back.ok sc_law_there_and_back (fun vs H Q E h => ?_) (fun cdv A outer s H vs Q E hr h => ?_)
  · obtain ⟨a_marks, marks, a_word, word, a_others, others, a_more, more, rfl, _⟩ := h; rfl
  · obtain ⟨a_marks, marks, a_word, word, a_others, others, a_more, more, rfl, h_marks, h_word, h_others, h_more, pre0, pre1, pre2, pre3, q⟩ := h
    have fr := Fr.nil H
    have hbw := bothW_isW pre0 pre1 pre2.1
    have hbl := bothW_length marks word others more
    refine ⟨_, (pss_cons (ps_set (i := 4) sc_law_there_and_back.nd rfl (Or.inl rfl) (pe_call (ok_joined T) (hr.mono (by decide)) (by rfl) T.g_joined T.F_joined.kp T.b_joined .nil pass0 (pa_cons (pe_callTy (show CallR _ _ (rListL K) from call_listL) (by rfl) T.m_list (by decide +kernel) (pa_cons (pv 0) pa_nil)) (pa_cons (pe_callTy (show CallR _ _ (rListL K) from call_listL) (by rfl) T.m_list (by decide +kernel) (pa_cons (pv 1) pa_nil)) (pa_cons (pe_callTy (show CallR _ _ (rListL K) from call_listL) (by rfl) T.m_list (by decide +kernel) (pa_cons (pv 2) pa_nil)) (pa_cons (pe_callTy (show CallR _ _ (rListL K) from call_listL) (by rfl) T.m_list (by decide +kernel) (pa_cons (pv 3) pa_nil)) pa_nil))))))
          (pss_cons (ps_set (i := 5) sc_law_there_and_back.nd rfl (Or.inl rfl) (pe_lst (pa_cons (pe_callTy (show CallR _ _ (rListL K) from call_listL) (by rfl) T.m_list (by decide +kernel) (pa_cons (pv 0) pa_nil)) (pa_cons (pe_callTy (show CallR _ _ (rListL K) from call_listL) (by rfl) T.m_list (by decide +kernel) (pa_cons (pv 2) pa_nil)) (pa_cons (pe_callTy (show CallR _ _ (rListL K) from call_listL) (by rfl) T.m_list (by decide +kernel) (pa_cons (pv 4) pa_nil)) pa_nil)))))
          (pss_cons (ps_set (i := 6) sc_law_there_and_back.nd rfl (Or.inl rfl) (pe_call (ok_parted T) (hr.mono (by decide)) (by rfl) T.g_parted T.F_parted.kp T.b_parted .nil pass0 (pa_cons (pe_ix (show IxR _ (rIxL K) from ix_list) (pv 5) pe_int (fun _ _ => rfl)) (pa_cons (pe_ix (show IxR _ (rIxL K) from ix_list) (pv 5) pe_int (fun _ _ => rfl)) (pa_cons (pe_ix (show IxR _ (rIxL K) from ix_list) (pv 5) pe_int (fun _ _ => rfl)) pa_nil)))))
          (pss_cons (ps_if (PW.pt (pw_or (pt_not (pt_valS (pe_call (ok_law_two T) (hr.mono (by decide)) (by rfl) T.g_law_two T.F_law_two.kp T.b_law_two .nil pass0 (pa_cons (pv 6) (pa_cons (pv 1) (pa_cons (pv 3) pa_nil)))))) (pw_or1 (pt_cmpR (opS (show OpR _ _ (rNeX K) from op_neX (hu64 hr))) (pv 5) (pe_lst (pa_cons (pv 0) (pa_cons (pv 2) (pa_cons (pv 4) pa_nil)))) (nomark _))))) (pss_one (ps_ret pe_bl)) pss_nil)
          (pss_cons (ps_expr (pe_bmK (K := K) (pe_bm PySem.F.plainAttrs_list PySem.F.slot_list_append PySem.F.type_list_append mt_append (pe_ix (show IxR _ (rIxT K) from ix_tup) (pv 6) pe_int (fun _ _ => rfl)) (pa_cons pe_int pa_nil))))
          (pss_cons (ps_expr (pe_bm0 PySem.F.plainAttrs_list PySem.F.slot_list_clear PySem.F.type_list_clear mt_clear (pe_ix (show IxR _ (rIxT K) from ix_tup) (pv 6) pe_int (fun _ _ => rfl))))
          (pss_one (ps_ret (pe_call (ok_law_two T) (hr.mono (by decide)) (by rfl) T.g_law_two T.F_law_two.kp T.b_law_two .nil pass0 (pa_cons (pe_call (ok_parted T) (hr.mono (by decide)) (by rfl) T.g_parted T.F_parted.kp T.b_parted .nil pass0 (pa_cons (pe_ix (show IxR _ (rIxL K) from ix_list) (pv 5) pe_int (fun _ _ => rfl)) (pa_cons (pe_ix (show IxR _ (rIxL K) from ix_list) (pv 5) pe_int (fun _ _ => rfl)) (pa_cons (pe_ix (show IxR _ (rIxL K) from ix_list) (pv 5) pe_int (fun _ _ => rfl)) pa_nil)))) (pa_cons (pv 1) (pa_cons (pv 3) pa_nil)))))))))))), ?_⟩
    refine ⟨_, rfl, _, _, rfl, (.inl (SqL.of (fr.same _ _ h_marks))), fun l_1 nl_2 => ?_⟩
    have fr : Fr H _ [(l_1, (.lst (List.map V.bl marks) : HO))] := fr.new nl_2
    refine ⟨_, rfl, _, _, rfl, (.inl (SqL.of (fr.same _ _ h_word))), fun l_3 nl_4 => ?_⟩
    have fr : Fr H _ [(l_3, (.lst (List.map V.int word) : HO)), (l_1, (.lst (List.map V.bl marks) : HO))] := fr.new nl_4
    refine ⟨_, rfl, _, _, rfl, (.inl (SqL.of (fr.same _ _ h_others))), fun l_5 nl_6 => ?_⟩
    have fr : Fr H _ [(l_5, (.lst (List.map V.bl others) : HO)), (l_3, (.lst (List.map V.int word) : HO)), (l_1, (.lst (List.map V.bl marks) : HO))] := fr.new nl_6
    refine ⟨_, rfl, _, _, rfl, (.inl (SqL.of (fr.same _ _ h_more))), fun l_7 nl_8 => ?_⟩
    have fr : Fr H _ [(l_7, (.lst (List.map V.int more) : HO)), (l_5, (.lst (List.map V.bl others) : HO)), (l_3, (.lst (List.map V.int word) : HO)), (l_1, (.lst (List.map V.bl marks) : HO))] := fr.new nl_8
    refine ⟨l_1, marks, l_3, word, l_5, others, l_7, more, rfl, fr.at3, fr.at2, fr.at1, fr.at0, ?_, ?_, ?_, ?_, fun H_9 p_13 joined_10 hp_12 sm_11 np_14 ep_15 => ?_⟩
    · exact pre0
    · exact pre1
    · exact pre2
    · exact pre3
    have fr : Fr H _ [(p_13, (.lst (List.map V.int joined_10) : HO)), (l_7, (.lst (List.map V.int more) : HO)), (l_5, (.lst (List.map V.bl others) : HO)), (l_3, (.lst (List.map V.int word) : HO)), (l_1, (.lst (List.map V.bl marks) : HO))] := fr.cnew sm_11 np_14 ep_15
    subst hp_12
    have fr : Fr H _ [(p_13, (.lst (List.map V.int (((bothW marks word others more)))) : HO)), (l_5, (.lst (List.map V.bl others) : HO)), (l_3, (.lst (List.map V.int word) : HO)), (l_1, (.lst (List.map V.bl marks) : HO))] := Fr.dk fr 1
    have fr : Fr H _ [(p_13, (.lst (List.map V.int (((bothW marks word others more)))) : HO)), (l_3, (.lst (List.map V.int word) : HO)), (l_1, (.lst (List.map V.bl marks) : HO))] := Fr.dk fr 1
    have fr : Fr H _ [(p_13, (.lst (List.map V.int (((bothW marks word others more)))) : HO)), (l_1, (.lst (List.map V.bl marks) : HO))] := Fr.dk fr 1
    have fr : Fr H _ [(p_13, (.lst (List.map V.int (((bothW marks word others more)))) : HO))] := Fr.dk fr 1
    refine ⟨_, rfl, _, _, rfl, (.inl (SqL.of (fr.same _ _ h_marks))), fun l_16 nl_17 => ?_⟩
    have fr : Fr H _ [(l_16, (.lst (List.map V.bl marks) : HO)), (p_13, (.lst (List.map V.int (((bothW marks word others more)))) : HO))] := fr.new nl_17
    refine ⟨_, rfl, _, _, rfl, (.inl (SqL.of (fr.same _ _ h_others))), fun l_18 nl_19 => ?_⟩
    have fr : Fr H _ [(l_18, (.lst (List.map V.bl others) : HO)), (l_16, (.lst (List.map V.bl marks) : HO)), (p_13, (.lst (List.map V.int (((bothW marks word others more)))) : HO))] := fr.new nl_19
    refine ⟨_, rfl, _, _, rfl, (.inl (SqL.of fr.at2)), fun l_20 nl_21 => ?_⟩
    have fr : Fr H _ [(l_20, (.lst (List.map V.int (((bothW marks word others more)))) : HO)), (l_18, (.lst (List.map V.bl others) : HO)), (l_16, (.lst (List.map V.bl marks) : HO)), (p_13, (.lst (List.map V.int (((bothW marks word others more)))) : HO))] := fr.new nl_21
    refine ⟨(Evl.sz_of (show 3 ≤ 100000 by decide)), fun l_22 nl_23 => ?_⟩
    have fr : Fr H _ [(l_22, (.lst [V.ref l_16, V.ref l_18, V.ref l_20] : HO)), (l_20, (.lst (List.map V.int (((bothW marks word others more)))) : HO)), (l_18, (.lst (List.map V.bl others) : HO)), (l_16, (.lst (List.map V.bl marks) : HO)), (p_13, (.lst (List.map V.int (((bothW marks word others more)))) : HO))] := fr.new nl_23
    refine ⟨_, rfl, _, _, _, _, rfl, rfl, (SqL.of fr.at0), (atI_nat (j := 0) rfl), _, rfl, _, _, _, _, rfl, rfl, (SqL.of fr.at0), (atI_nat (j := 1) rfl), _, rfl, _, _, _, _, rfl, rfl, (SqL.of fr.at0), (atI_nat (j := 2) rfl), l_16, marks, l_18, others, l_20, (((bothW marks word others more))), rfl, fr.at3, fr.at2, fr.at1, ?_, ?_, ?_, fun H_24 p_29 a_32 parted_31 a_34 parted_33 hp_27 hp_28 ff_30 => ?_⟩
    · exact hbw
    · exact pre3
    · omega
    subst hp_27
    subst hp_28
    have fr : Fr H _ [(p_29, (.tup [(V.ref a_32), (V.ref a_34)] : HO)), (a_32, (.lst (List.map V.int (((partE marks others (((bothW marks word others more))))))) : HO)), (a_34, (.lst (List.map V.int (((partM marks others (((bothW marks word others more))))))) : HO)), (l_22, (.lst [V.ref l_16, V.ref l_18, V.ref l_20] : HO)), (l_20, (.lst (List.map V.int (((bothW marks word others more)))) : HO)), (l_18, (.lst (List.map V.bl others) : HO)), (l_16, (.lst (List.map V.bl marks) : HO)), (p_13, (.lst (List.map V.int (((bothW marks word others more)))) : HO))] := Fr.comp fr ff_30
    refine ⟨_, rfl, _, rfl, _, rfl, p_29, a_32, (((partE marks others (((bothW marks word others more)))))), a_34, (((partM marks others (((bothW marks word others more)))))), a_word, word, a_more, more, rfl, fr.at0, fr.at1, fr.at2, (fr.same _ _ h_word), (fr.same _ _ h_more), ?_, ?_, fun H_35 two_36 hp_38 sm_37 => ?_⟩
    · exact partE_both pre0 pre1 pre2.1
    · exact partM_both pre0 pre1 pre2.1
    have fr : Fr H _ [(p_29, (.tup [(V.ref a_32), (V.ref a_34)] : HO)), (a_32, (.lst (List.map V.int (((partE marks others (((bothW marks word others more))))))) : HO)), (a_34, (.lst (List.map V.int (((partM marks others (((bothW marks word others more))))))) : HO)), (l_22, (.lst [V.ref l_16, V.ref l_18, V.ref l_20] : HO)), (l_20, (.lst (List.map V.int (((bothW marks word others more)))) : HO)), (l_18, (.lst (List.map V.bl others) : HO)), (l_16, (.lst (List.map V.bl marks) : HO)), (p_13, (.lst (List.map V.int (((bothW marks word others more)))) : HO))] := fr.call sm_37
    subst hp_38
    refine ⟨_, rfl, fun _ => ?_, (fun h => nomatch h)⟩
    refine iteF ?_
    refine ⟨_, rfl, _, rfl, _, rfl, _, rfl, (Evl.sz_of (show 3 ≤ 100000 by decide)), fun l_39 nl_40 => ?_⟩
    have fr : Fr H _ [(l_39, (.lst [V.ref a_marks, V.ref a_others, V.ref p_13] : HO)), (p_29, (.tup [(V.ref a_32), (V.ref a_34)] : HO)), (a_32, (.lst (List.map V.int (((partE marks others (((bothW marks word others more))))))) : HO)), (a_34, (.lst (List.map V.int (((partM marks others (((bothW marks word others more))))))) : HO)), (l_22, (.lst [V.ref l_16, V.ref l_18, V.ref l_20] : HO)), (l_20, (.lst (List.map V.int (((bothW marks word others more)))) : HO)), (l_18, (.lst (List.map V.bl others) : HO)), (l_16, (.lst (List.map V.bl marks) : HO)), (p_13, (.lst (List.map V.int (((bothW marks word others more)))) : HO))] := fr.new nl_40
    refine ⟨_, _, true, (Dp.lst (SqL.of (Fr.atk fr 4 rfl)) (DpAll.cons (dp_bls (Fr.atk fr 7 rfl)) (DpAll.cons (dp_bls (Fr.atk fr 6 rfl)) (DpAll.cons (dp_ints (Fr.atk fr 5 rfl)) DpAll.nil)))), (Dp.lst (SqL.of fr.at0) (DpAll.cons (dp_bls (fr.same _ _ h_marks)) (DpAll.cons (dp_bls (fr.same _ _ h_others)) (DpAll.cons (dp_ints (Fr.atk fr 8 rfl)) DpAll.nil)))), (Okd.sh (okl_cons (okd_bls _) (okl_cons (okd_bls _) (okl_cons (okd_ints _) okl_nil)))), (Okd.sh (okl_cons (okd_bls _) (okl_cons (okd_bls _) (okl_cons (okd_ints _) okl_nil)))), (PySem.SeqAt.eqv_refl _ (Okd.cn (okl_cons (okd_bls _) (okl_cons (okd_bls _) (okl_cons (okd_ints _) okl_nil))))), _, rfl, (fun h => nomatch h), fun _ => ?_⟩
    refine ⟨_, rfl, ?_⟩
    refine iteF ?_
    have fr : Fr H _ [(p_29, (.tup [(V.ref a_32), (V.ref a_34)] : HO)), (a_32, (.lst (List.map V.int (((partE marks others (((bothW marks word others more))))))) : HO)), (a_34, (.lst (List.map V.int (((partM marks others (((bothW marks word others more))))))) : HO)), (l_22, (.lst [V.ref l_16, V.ref l_18, V.ref l_20] : HO)), (l_20, (.lst (List.map V.int (((bothW marks word others more)))) : HO)), (l_18, (.lst (List.map V.bl others) : HO)), (l_16, (.lst (List.map V.bl marks) : HO)), (p_13, (.lst (List.map V.int (((bothW marks word others more)))) : HO))] := Fr.dk fr 0
    refine ⟨_, rfl, _, _, _, _, rfl, rfl, (SqT.of fr.at0), (atI_nat (j := 0) rfl), (.inl ⟨rfl, _, (SqL.of fr.at1)⟩), _, _, _, rfl, rfl, fr.at1, ?_, ?_⟩
    · walk_at "size"
    have fr : Fr H _ [(p_29, (.tup [(V.ref a_32), (V.ref a_34)] : HO)), (a_32, (.lst (List.map V.int ((((partE marks others (((bothW marks word others more))))) ++ [0]))) : HO)), (a_34, (.lst (List.map V.int (((partM marks others (((bothW marks word others more))))))) : HO)), (l_22, (.lst [V.ref l_16, V.ref l_18, V.ref l_20] : HO)), (l_20, (.lst (List.map V.int (((bothW marks word others more)))) : HO)), (l_18, (.lst (List.map V.bl others) : HO)), (l_16, (.lst (List.map V.bl marks) : HO)), (p_13, (.lst (List.map V.int (((bothW marks word others more)))) : HO))] := Fr.wrk fr 1 rfl (lst_app V.int _ _)
    refine ⟨_, rfl, _, _, _, _, rfl, rfl, (SqT.of fr.at0), (atI_nat (j := 1) rfl), (.inl ⟨rfl, _, (SqL.of fr.at2)⟩), _, _, rfl, rfl, fr.at2, ?_⟩
    have fr : Fr H _ [(p_29, (.tup [(V.ref a_32), (V.ref a_34)] : HO)), (a_32, (.lst (List.map V.int ((((partE marks others (((bothW marks word others more))))) ++ [0]))) : HO)), (a_34, (.lst (List.map V.int ([])) : HO)), (l_22, (.lst [V.ref l_16, V.ref l_18, V.ref l_20] : HO)), (l_20, (.lst (List.map V.int (((bothW marks word others more)))) : HO)), (l_18, (.lst (List.map V.bl others) : HO)), (l_16, (.lst (List.map V.bl marks) : HO)), (p_13, (.lst (List.map V.int (((bothW marks word others more)))) : HO))] := Fr.wrk fr 2 rfl rfl
    refine ⟨_, rfl, _, _, _, _, rfl, rfl, (SqL.of fr.at3), (atI_nat (j := 0) rfl), _, rfl, _, _, _, _, rfl, rfl, (SqL.of fr.at3), (atI_nat (j := 1) rfl), _, rfl, _, _, _, _, rfl, rfl, (SqL.of fr.at3), (atI_nat (j := 2) rfl), l_16, marks, l_18, others, l_20, (((bothW marks word others more))), rfl, (Fr.atk fr 6 rfl), (Fr.atk fr 5 rfl), (Fr.atk fr 4 rfl), ?_, ?_, ?_, fun H_41 p_46 a_49 parted_48 a_51 parted_50 hp_44 hp_45 ff_47 => ?_⟩
    · exact hbw
    · exact pre3
    · omega
    subst hp_44
    subst hp_45
    have fr : Fr H _ [(p_46, (.tup [(V.ref a_49), (V.ref a_51)] : HO)), (a_49, (.lst (List.map V.int (((partE marks others (((bothW marks word others more))))))) : HO)), (a_51, (.lst (List.map V.int (((partM marks others (((bothW marks word others more))))))) : HO)), (p_29, (.tup [(V.ref a_32), (V.ref a_34)] : HO)), (a_32, (.lst (List.map V.int ((((partE marks others (((bothW marks word others more))))) ++ [0]))) : HO)), (a_34, (.lst (List.map V.int ([])) : HO)), (l_22, (.lst [V.ref l_16, V.ref l_18, V.ref l_20] : HO)), (l_20, (.lst (List.map V.int (((bothW marks word others more)))) : HO)), (l_18, (.lst (List.map V.bl others) : HO)), (l_16, (.lst (List.map V.bl marks) : HO)), (p_13, (.lst (List.map V.int (((bothW marks word others more)))) : HO))] := Fr.comp fr ff_47
    refine ⟨_, rfl, _, rfl, p_46, a_49, (((partE marks others (((bothW marks word others more)))))), a_51, (((partM marks others (((bothW marks word others more)))))), a_word, word, a_more, more, rfl, fr.at0, fr.at1, fr.at2, (fr.same _ _ h_word), (fr.same _ _ h_more), ?_, ?_, fun H_52 two_53 hp_55 sm_54 => ?_⟩
    · exact partE_both pre0 pre1 pre2.1
    · exact partM_both pre0 pre1 pre2.1
    have fr : Fr H _ [(p_46, (.tup [(V.ref a_49), (V.ref a_51)] : HO)), (a_49, (.lst (List.map V.int (((partE marks others (((bothW marks word others more))))))) : HO)), (a_51, (.lst (List.map V.int (((partM marks others (((bothW marks word others more))))))) : HO)), (p_29, (.tup [(V.ref a_32), (V.ref a_34)] : HO)), (a_32, (.lst (List.map V.int ((((partE marks others (((bothW marks word others more))))) ++ [0]))) : HO)), (a_34, (.lst (List.map V.int ([])) : HO)), (l_22, (.lst [V.ref l_16, V.ref l_18, V.ref l_20] : HO)), (l_20, (.lst (List.map V.int (((bothW marks word others more)))) : HO)), (l_18, (.lst (List.map V.bl others) : HO)), (l_16, (.lst (List.map V.bl marks) : HO)), (p_13, (.lst (List.map V.int (((bothW marks word others more)))) : HO))] := fr.call sm_54
    subst hp_55
    exact q _ true (by rfl) fr.same
def sp_law_word (K : PySem.W.Frag) : Sp := fun vs H Q _ => ∃ (cell : Int) (heaps : Int) (n : Int), vs = [V.int cell, V.int heaps, V.int n] ∧ (1 ≤ heaps ∧ heaps ≤ 400) ∧ (1 ≤ n ∧ n ≤ 60) ∧ (∀ (H1 : Hp) (rA : Addr) (res : List Int), ((res.length : Int) = n) → (IsW (Int.toNat heaps) res) → Same H H1 → H rA = none → H1 rA = some (.lst (List.map V.int res)) → Q (V.ref rA) H1)
theorem sc_law_word : FnScope ["_law_cell", "_law_heaps", "_law_n", "_law_rest", "_law_word_here", "_law_k", "_law_number"] ["_law_cell", "_law_heaps", "_law_n"] (defScope s_law_word) := ⟨rfl, rfl, rfl, by decide +kernel, rfl, by decide +kernel, by decide +kernel⟩
theorem ok_law_word (T : Txt K mg) : FnOk P w K mg base CX0 2 T.f_law_word T.fd_law_word ["_law_cell", "_law_heaps", "_law_n"] (sp_law_word K) := by
  refine T.F_law_word.ok sc_law_word (fun vs H Q E h => ?_) (fun cdv A outer s H vs Q E hr h => ?_)
  · obtain ⟨cell, heaps, n, rfl, _⟩ := h; rfl
  · obtain ⟨cell, heaps, n, rfl, pre0, pre1, q⟩ := h
    have fr := Fr.nil H
    refine ⟨_, (pss_cons (ps_set (i := 3) sc_law_word.nd rfl (Or.inl rfl) (pv 0))
          (pss_cons (ps_set (i := 4) sc_law_word.nd rfl (Or.inl rfl) (pe_lst pa_nil))
          (pss_cons (ps_for PassesOwn.never rfl (pi_range1 (by rfl) T.m_range (pa_cons (pv 2) pa_nil)) (pg_name (i := 5) sc_law_word.nd rfl (Or.inl rfl)) (pss_cons (ps_set (i := 6) sc_law_word.nd rfl (Or.inl rfl) (pe_op op_mod (pv 3) (pv 1)))
          (pss_cons (ps_set (i := 3) sc_law_word.nd rfl (Or.inl rfl) (pe_op op_fdiv (pv 3) (pv 1)))
          (pss_cut (ps_if (pt_cmpR op_ltS (pe_callB call_absI (by rfl) T.m_abs (by decide +kernel) (pa_cons (pv 0) pa_nil)) (pe_op op_powL pe_int pe_int) (nomark _)) (pss_one (ps_set (i := 6) sc_law_word.nd rfl (Or.inl rfl) (pe_op op_mod (pe_op op_fdiv (pe_call (ok_law_mixed T) (hr.mono (by decide)) (by rfl) T.g_law_mixed T.F_law_mixed.kp T.b_law_mixed .nil pass0 (pa_cons (pv 0) (pa_cons (pe_op op_add (pv 5) pe_int) pa_nil))) pe_int) (pv 1)))) pss_nil)
          (pss_one (ps_expr (pe_bmK (K := K) (pe_bm PySem.F.plainAttrs_list PySem.F.slot_list_append PySem.F.type_list_append mt_append (pv 4) (pa_cons (pv 6) pa_nil)))))))))
          (pss_one (ps_ret (pv 4)))))), ?_⟩
    refine ⟨_, rfl, ?_⟩
    refine ⟨(Evl.sz_of (show 0 ≤ 100000 by decide)), fun l_1 nl_2 => ?_⟩
    have fr : Fr H _ [(l_1, (.lst [] : HO))] := fr.new nl_2
    have fr : Fr H _ [(l_1, (.lst (List.map V.int ([])) : HO))] := fr
    refine ⟨_, rfl, _, rfl, ?_, ?_, ?_⟩
    · walk_at "side"
    · walk_at "side"
    refine for_it (walkR (n := (Int.toNat n))) (fun (i : Nat) σ H1 => ∃ (rest_3 : Int) (word_4 : List Int) (y_5 : Option V) (y_6 : Option V), σ = [some (V.int cell), some (V.int heaps), some (V.int n), some (V.int rest_3), some (V.ref l_1), y_5, y_6] ∧ Fr H H1 [(l_1, (.lst (List.map V.int word_4) : HO))] ∧ (word_4.length = i) ∧ (IsW (Int.toNat heaps) word_4)) ?_ ?_ ?_ ?_
    · refine ⟨cell, [], _, _, rfl, fr, ?_, ?_⟩
      · walk_at "inv"
      · exact IsW.nil _
    · rintro i σ H1 hi ⟨rest_3, word_4, y_5, y_6, rfl, fr, hl, hw⟩
      exact trivial
    · rintro i_7 x_9 s_12 H_10 H_11 hi_8 ⟨rest_3, word_4, y_5, y_6, rfl, fr, hl, hw⟩ ⟨rfl, rfl⟩
      have hmm1 := Int.emod_nonneg rest_3 (show heaps ≠ 0 by omega)
      have hmm2 := Int.emod_lt_of_pos rest_3 (show 0 < heaps by omega)
      refine ⟨_, rfl, _, rfl, _, _, rfl, rfl, ?_, ?_⟩
      · walk_at "side"
      refine ⟨_, rfl, _, rfl, _, _, rfl, rfl, ?_, ?_⟩
      · walk_at "div"
      refine ⟨fun σ H1 => ∃ (number_13 : Int), σ = [some (V.int cell), some (V.int heaps), some (V.int n), some (V.int ((rest_3 / heaps))), some (V.ref l_1), some (V.int ((i_7 : Int))), some (V.int number_13)] ∧ Fr H H1 [(l_1, (.lst (List.map V.int word_4) : HO))] ∧ (0 ≤ number_13 ∧ number_13 < heaps), ?_, ?_⟩
      · refine ⟨_, rfl, _, rfl, _, _, 1000000000000000000, rfl, rfl, ⟨by decide, by decide, by decide⟩, (by decide), _, _, rfl, rfl, ?_, ?_⟩
        · intro h14
          refine ⟨_, rfl, ?_⟩
          refine iteT ?_
          refine ⟨_, rfl, _, rfl, _, _, rfl, rfl, cell, (((i_7 : Int) + 300)), rfl, ?_, fun H_15 mixed_16 hp_18 sm_17 => ?_⟩
          · walk_at "side"
          have fr : Fr H _ [(l_1, (.lst (List.map V.int word_4) : HO))] := fr.call sm_17
          refine ⟨_, _, rfl, rfl, ⟨by decide, by decide⟩, _, rfl, _, _, rfl, rfl, ?_, ?_⟩
          · walk_at "side"
          refine ⟨((mixed_16 / 5) % heaps), rfl, fr, ?_⟩
          · first | exact ⟨hmm1, hmm2⟩ | exact ⟨Int.emod_nonneg _ (by omega), Int.emod_lt_of_pos _ (by omega)⟩
        · intro h14
          refine ⟨_, rfl, ?_⟩
          refine iteF ?_
          refine ⟨(rest_3 % heaps), rfl, fr, ?_⟩
          · first | exact ⟨hmm1, hmm2⟩ | exact ⟨Int.emod_nonneg _ (by omega), Int.emod_lt_of_pos _ (by omega)⟩
      rintro s_20 H_19 ⟨number_13, rfl, fr, hpk⟩
      refine ⟨_, rfl, (.inl ⟨rfl, _, (SqL.of fr.at0)⟩), _, rfl, _, _, _, rfl, rfl, fr.at0, ?_, ?_⟩
      · walk_at "size"
      have fr : Fr H _ [(l_1, (.lst (List.map V.int ((word_4 ++ [number_13]))) : HO))] := Fr.wrk fr 0 rfl (lst_app V.int _ _)
      refine ⟨(rest_3 / heaps), (word_4 ++ [number_13]), _, _, rfl, fr, ?_, ?_⟩
      · walk_at "inv"
      · exact hw.app hpk.1 (by omega)
    rintro s_22 H_21 ⟨rest_3, word_4, y_5, y_6, rfl, fr, hl, hw⟩
    refine ⟨_, rfl, ?_⟩
    exact q _ _ word_4 (by omega) (by exact hw) fr.same fr.n0 fr.at0
def sp_law (K : PySem.W.Frag) : Sp := fun vs H Q _ => ∃ (a_script : Addr) (script : List Int), vs = [V.ref a_script] ∧ SqL K H a_script (List.map V.int script) ∧ (script.length ≤ 63) ∧ (∀ (H1 : Hp) (res : Bool), (res = true) → Same H H1 → Q (V.bl res) H1)
theorem sc_law : FnScope ["_law_script", "_law_k", "_law_cells", "_law_n", "_law_most", "_law_marks_here", "_law_others", "_law_word_here", "_law_more", "_law_whole", "_law_j"] ["_law_script"] (defScope s_law) := ⟨rfl, rfl, rfl, by decide +kernel, rfl, by decide +kernel, by decide +kernel⟩
theorem ok_law (T : Txt K mg) : FnOk P w K mg base CX0 8 T.f_law T.fd_law ["_law_script"] (sp_law K) := by
  refine T.F_law.ok sc_law (fun vs H Q E h => ?_) (fun cdv A outer s H vs Q E hr h => ?_)
  · obtain ⟨a_script, script, rfl, _⟩ := h; rfl
  · obtain ⟨a_script, script, rfl, h_script, pre0, q⟩ := h
    have fr := Fr.nil H
    refine ⟨_, (pss_cons (ps_for PassesOwn.never rfl (pi_range3 (by rfl) T.m_range (pa_cons pe_int (pa_cons (pe_op op_add (pe_callB (call_minI rfl) (by rfl) T.m_min (by decide +kernel) (pa_cons pe_int (pa_cons (pe_callB (show CallR _ _ (rLenL K) from call_lenL) (by rfl) T.m_len (by decide +kernel) (pa_cons (pv 0) pa_nil)) pa_nil))) pe_int) (pa_cons pe_int pa_nil)))) (pg_name (i := 1) sc_law.nd rfl (Or.inr rfl)) (pss_cons (ps_setLc (i := 2) (own := [("_law_j", 10)]) (g := gName 10) (tt := tYes) rfl sc_law.nd rfl rfl (sw_true rfl rfl rfl (by decide +kernel)) (pi_range1 (by rfl) T.m_range (pa_cons pe_int pa_nil)) (blkOk_by (N := ["_law_script", "_law_k", "_law_cells", "_law_n", "_law_most", "_law_marks_here", "_law_others", "_law_word_here", "_law_more", "_law_whole", "_law_j"]) (sc := (defScope s_law)) (by decide +kernel)) (fun _ _ _ _ _ => pg_name (i := 10) sc_law.nd rfl (Or.inl rfl)) (fun _ _ _ _ _ => pts_nil) (fun _ _ _ _ _ => (pe_call (ok_law_cell_at T) (hr.mono (by decide)) (by rfl) T.g_law_cell_at T.F_law_cell_at.kp T.b_law_cell_at .nil pass0 (pa_cons (pv 0) (pa_cons (pe_op op_add (pv 1) (pv 10)) pa_nil)))))
          (pss_cons (ps_set (i := 3) sc_law.nd rfl (Or.inl rfl) (pe_op op_add pe_int (pe_op op_mod (pe_op op_fdiv (pe_ix (show IxR _ (rIxL K) from ix_list) (pv 2) pe_int (fun _ _ => rfl)) pe_int) (pe_ix (show IxR _ (rIxL K) from ix_list) (pe_lst (pa_cons pe_int (pa_cons pe_int pa_nil))) (pe_callB (call_minI rfl) (by rfl) T.m_min (by decide +kernel) (pa_cons pe_int (pa_cons (pe_op op_mod (pe_ix (show IxR _ (rIxL K) from ix_list) (pv 2) pe_int (fun _ _ => rfl)) pe_int) pa_nil))) (fun _ _ => rfl)))))
          (pss_cons (ps_set (i := 4) sc_law.nd rfl (Or.inl rfl) (pe_ix (show IxR _ (rIxL K) from ix_list) (pe_lst (pa_cons pe_int (pa_cons pe_int pa_nil))) (pe_callB (call_minI rfl) (by rfl) T.m_min (by decide +kernel) (pa_cons pe_int (pa_cons (pe_op op_mod (pe_ix (show IxR _ (rIxL K) from ix_list) (pv 2) pe_int (fun _ _ => rfl)) pe_int) pa_nil))) (fun _ _ => rfl)))
          (pss_cons (ps_set (i := 5) sc_law.nd rfl (Or.inl rfl) (pe_call (ok_law_marks T) (hr.mono (by decide)) (by rfl) T.g_law_marks T.F_law_marks.kp T.b_law_marks .nil pass0 (pa_cons (pe_op op_fdiv (pe_ix (show IxR _ (rIxL K) from ix_list) (pv 2) pe_int (fun _ _ => rfl)) pe_int) (pa_cons (pv 4) pa_nil))))
          (pss_cons (ps_set (i := 6) sc_law.nd rfl (Or.inl rfl) (pe_call (ok_law_marks T) (hr.mono (by decide)) (by rfl) T.g_law_marks T.F_law_marks.kp T.b_law_marks .nil pass0 (pa_cons (pe_op op_fdiv (pe_ix (show IxR _ (rIxL K) from ix_list) (pv 2) pe_int (fun _ _ => rfl)) pe_int) (pa_cons (pv 4) pa_nil))))
          (pss_cons (ps_set (i := 7) sc_law.nd rfl (Or.inl rfl) (pe_call (ok_law_word T) (hr.mono (by decide)) (by rfl) T.g_law_word T.F_law_word.kp T.b_law_word .nil pass0 (pa_cons (pe_ix (show IxR _ (rIxL K) from ix_list) (pv 2) pe_int (fun _ _ => rfl)) (pa_cons (pe_callB (show CallR _ _ (rLenL K) from call_lenL) (by rfl) T.m_len (by decide +kernel) (pa_cons (pv 5) pa_nil)) (pa_cons (pv 3) pa_nil)))))
          (pss_cons (ps_set (i := 8) sc_law.nd rfl (Or.inl rfl) (pe_call (ok_law_word T) (hr.mono (by decide)) (by rfl) T.g_law_word T.F_law_word.kp T.b_law_word .nil pass0 (pa_cons (pe_ix (show IxR _ (rIxL K) from ix_list) (pv 2) pe_int (fun _ _ => rfl)) (pa_cons (pe_callB (show CallR _ _ (rLenL K) from call_lenL) (by rfl) T.m_len (by decide +kernel) (pa_cons (pv 6) pa_nil)) (pa_cons (pv 3) pa_nil)))))
          (pss_cons (ps_set (i := 9) sc_law.nd rfl (Or.inl rfl) (pe_call (ok_law_word T) (hr.mono (by decide)) (by rfl) T.g_law_word T.F_law_word.kp T.b_law_word .nil pass0 (pa_cons (pe_op op_add (pe_ix (show IxR _ (rIxL K) from ix_list) (pv 2) pe_int (fun _ _ => rfl)) (pe_ix (show IxR _ (rIxL K) from ix_list) (pv 2) pe_int (fun _ _ => rfl))) (pa_cons (pe_op op_mul (pe_callB (show CallR _ _ (rLenL K) from call_lenL) (by rfl) T.m_len (by decide +kernel) (pa_cons (pv 5) pa_nil)) (pe_callB (show CallR _ _ (rLenL K) from call_lenL) (by rfl) T.m_len (by decide +kernel) (pa_cons (pv 6) pa_nil))) (pa_cons (pv 3) pa_nil)))))
          (pss_cons (ps_if (PW.pt (pw_or (pt_not (pt_valS (pe_call (ok_law_there_and_back T) (hr.mono (by decide)) (by rfl) T.g_law_there_and_back T.F_law_there_and_back.kp T.b_law_there_and_back .nil pass0 (pa_cons (pv 5) (pa_cons (pv 7) (pa_cons (pv 6) (pa_cons (pv 8) pa_nil))))))) (pw_or1 (pt_not (pt_valS (pe_call (ok_law_back_and_there T) (hr.mono (by decide)) (by rfl) T.g_law_back_and_there T.F_law_back_and_there.kp T.b_law_back_and_there .nil pass0 (pa_cons (pv 5) (pa_cons (pv 6) (pa_cons (pv 9) pa_nil))))))))) (pss_one (ps_ret pe_bl)) pss_nil)
          (pss_one (ps_if (pt_not (pt_valS (pe_call (ok_law_all_refused T) (hr.mono (by decide)) (by rfl) T.g_law_all_refused T.F_law_all_refused.kp T.b_law_all_refused .nil pass0 (pa_cons (pv 5) (pa_cons (pv 7) (pa_cons (pv 6) (pa_cons (pv 8) (pa_cons (pv 9) (pa_cons (pe_ix (show IxR _ (rIxL K) from ix_list) (pv 2) pe_int (fun _ _ => rfl)) pa_nil))))))))) (pss_one (ps_ret pe_bl)) pss_nil))))))))))))
          (pss_one (ps_ret pe_bl))), ?_⟩
    refine ⟨_, rfl, _, _, _, rfl, (fr.same.seq h_script), (List.length_map _), _, _, rfl, _, _, rfl, rfl, _, _, _, (Int.toNat ((((min 40 ((script.length : Int))) + 1) + 3) / 4)), rfl, (rgc4 ?_ ?_), ?_⟩
    · walk_at "side"
    · walk_at "side"
    refine for_it (walk_rangeC (lo := 0) (c := 4) (n := (Int.toNat ((((min 40 ((script.length : Int))) + 1) + 3) / 4)))) (fun (i : Nat) σ H1 => ∃ (y_1 : Option V) (y_2 : Option V) (y_3 : Option V) (y_4 : Option V) (y_5 : Option V) (y_6 : Option V) (y_7 : Option V) (y_8 : Option V) (y_9 : Option V), σ = [some (V.ref a_script), y_1, y_2, y_3, y_4, y_5, y_6, y_7, y_8, y_9, none] ∧ Fr H H1 []) ?_ ?_ ?_ ?_
    · refine ⟨_, _, _, _, _, _, _, _, _, rfl, fr⟩
    · rintro i σ H1 hi ⟨y_1, y_2, y_3, y_4, y_5, y_6, y_7, y_8, y_9, rfl, fr⟩
      exact trivial
    · rintro i_10 x_12 s_15 H_13 H_14 hi_11 ⟨y_1, y_2, y_3, y_4, y_5, y_6, y_7, y_8, y_9, rfl, fr⟩ ⟨rfl, rfl⟩
      refine ⟨_, rfl, ?_, ?_, ?_⟩
      · walk_at "side"
      · walk_at "side"
      intro D_16 nD_17
      refine lc_it (walkR (n := (Int.toNat 4))) (fun (i : Nat) H1 => Fr H H1 [(D_16, (.lst (List.map V.int ((List.map (fun i : Nat => ((cellI script (((0 + (i_10 : Int) * 4) + (i : Int)))))) (List.range i)))) : HO))]) (fr.new nD_17) (fun i H1 hi fr => trivial) ?_ ?_
      · rintro i_23 x_27 H_25 H_26 hi_24 fr ⟨rfl, rfl⟩
        refine ⟨rfl, ?_⟩
        refine ⟨_, rfl, _, rfl, _, rfl, _, _, rfl, rfl, a_script, script, (((0 + (i_10 : Int) * 4) + (i_23 : Int))), rfl, (fr.same.seq h_script), ?_, fun H_28 cell_at_29 hp_31 sm_30 => ?_⟩
        · omega
        have fr : Fr H _ [(D_16, (.lst (List.map V.int ((List.map (fun i : Nat => ((cellI script (((0 + (i_10 : Int) * 4) + (i : Int)))))) (List.range i_23)))) : HO))] := fr.call sm_30
        subst hp_31
        refine ⟨_, (Fr.atk fr 0 rfl), ?_, ?_⟩
        · walk_at "csize"
        exact (Fr.wr fr).cast (lc_r _ _)
      intro H_32 fr
      have fr : Fr H _ [(D_16, (.lst (List.map V.int ((List.map (fun i : Nat => ((cellI script (((0 + (i_10 : Int) * 4) + (i : Int)))))) (List.range (Int.toNat 4))))) : HO))] := fr
      refine ⟨_, rfl, _, _, _, _, rfl, rfl, (SqL.of fr.at0), (atD 0 ?_ ?_), _, _, rfl, rfl, ⟨by decide, by decide⟩, (Evl.sz_of (show 2 ≤ 100000 by decide)), fun l_33 nl_34 => ?_⟩
      · first | (rw [List.length_map, List.length_range]; omega) | omega
      · first | (rw [List.length_map, List.length_range]; omega) | omega
      have fr : Fr H _ [(l_33, (.lst (List.map V.int ([59, 10])) : HO)), (D_16, (.lst (List.map V.int ((List.map (fun i : Nat => ((cellI script (((0 + (i_10 : Int) * 4) + (i : Int)))))) (List.range (Int.toNat 4))))) : HO))] := fr.new nl_34
      refine ⟨_, rfl, _, _, _, _, rfl, rfl, (SqL.of fr.at1), (atD 0 ?_ ?_), _, _, rfl, rfl, (show (0 : Int) < _ by decide), _, _, rfl, _, _, _, _, rfl, rfl, (SqL.of fr.at0), (atD 0 ?_ ?_), _, _, rfl, rfl, ?_, _, _, rfl, rfl, ?_⟩
      · first | (rw [List.length_map, List.length_range]; omega) | omega
      · first | (rw [List.length_map, List.length_range]; omega) | omega
      · first | omega | (simp only [List.length_cons, List.length_nil]; omega)
      · first | omega | (simp only [List.length_cons, List.length_nil]; omega)
      · exact mod33 _
      dsimp only
      generalize e_law_n_36 : ((1 + (((List.getD ((List.map (fun i : Nat => ((cellI script (((0 + (i_10 : Int) * 4) + (i : Int)))))) (List.range (Int.toNat 4)))) (Int.toNat 0) 0) / 8) % (List.getD ([59, 10]) (Int.toNat ((min 1 (((List.getD ((List.map (fun i : Nat => ((cellI script (((0 + (i_10 : Int) * 4) + (i : Int)))))) (List.range (Int.toNat 4)))) (Int.toNat 0) 0) % 8))))) 0))) : Int) = n_35
      have hnn : 1 ≤ n_35 ∧ n_35 ≤ 60 := by rw [← e_law_n_36]; exact nn33 _
      have fr : Fr H _ [(D_16, (.lst (List.map V.int ((List.map (fun i : Nat => ((cellI script (((0 + (i_10 : Int) * 4) + (i : Int)))))) (List.range (Int.toNat 4))))) : HO))] := Fr.dk fr 0
      refine ⟨(Evl.sz_of (show 2 ≤ 100000 by decide)), fun l_37 nl_38 => ?_⟩
      have fr : Fr H _ [(l_37, (.lst (List.map V.int ([20, 6])) : HO)), (D_16, (.lst (List.map V.int ((List.map (fun i : Nat => ((cellI script (((0 + (i_10 : Int) * 4) + (i : Int)))))) (List.range (Int.toNat 4))))) : HO))] := fr.new nl_38
      refine ⟨_, rfl, _, _, _, _, rfl, rfl, (SqL.of fr.at1), (atD 0 ?_ ?_), _, _, rfl, rfl, (show (0 : Int) < _ by decide), _, _, rfl, _, _, _, _, rfl, rfl, (SqL.of fr.at0), (atD 0 ?_ ?_), ?_⟩
      · first | (rw [List.length_map, List.length_range]; omega) | omega
      · first | (rw [List.length_map, List.length_range]; omega) | omega
      · first | omega | (simp only [List.length_cons, List.length_nil]; omega)
      · first | omega | (simp only [List.length_cons, List.length_nil]; omega)
      dsimp only
      generalize e_law_most_40 : ((List.getD ([20, 6]) (Int.toNat ((min 1 (((List.getD ((List.map (fun i : Nat => ((cellI script (((0 + (i_10 : Int) * 4) + (i : Int)))))) (List.range (Int.toNat 4)))) (Int.toNat 1) 0) % 8))))) 0) : Int) = most_39
      have hmo : most_39 = 20 ∨ most_39 = 6 := by rw [← e_law_most_40]; exact pick2 _ _ _
      have fr : Fr H _ [(D_16, (.lst (List.map V.int ((List.map (fun i : Nat => ((cellI script (((0 + (i_10 : Int) * 4) + (i : Int)))))) (List.range (Int.toNat 4))))) : HO))] := Fr.dk fr 0
      refine ⟨_, rfl, _, _, _, _, rfl, rfl, (SqL.of fr.at0), (atD 0 ?_ ?_), _, _, rfl, rfl, ⟨by decide, by decide⟩, _, rfl, (((List.getD ((List.map (fun i : Nat => ((cellI script (((0 + (i_10 : Int) * 4) + (i : Int)))))) (List.range (Int.toNat 4)))) (Int.toNat 0) 0) / 480)), most_39, rfl, ?_, fun H_41 p_45 marks_42 hp_44 sm_43 np_46 ep_47 => ?_⟩
      · first | (rw [List.length_map, List.length_range]; omega) | omega
      · first | (rw [List.length_map, List.length_range]; omega) | omega
      · omega
      have fr : Fr H _ [(p_45, (.lst (List.map V.bl marks_42) : HO)), (D_16, (.lst (List.map V.int ((List.map (fun i : Nat => ((cellI script (((0 + (i_10 : Int) * 4) + (i : Int)))))) (List.range (Int.toNat 4))))) : HO))] := fr.cnew sm_43 np_46 ep_47
      refine ⟨_, rfl, _, _, _, _, rfl, rfl, (SqL.of fr.at1), (atD 0 ?_ ?_), _, _, rfl, rfl, ⟨by decide, by decide⟩, _, rfl, (((List.getD ((List.map (fun i : Nat => ((cellI script (((0 + (i_10 : Int) * 4) + (i : Int)))))) (List.range (Int.toNat 4)))) (Int.toNat 1) 0) / 8)), most_39, rfl, ?_, fun H_48 p_52 marks_49 hp_51 sm_50 np_53 ep_54 => ?_⟩
      · first | (rw [List.length_map, List.length_range]; omega) | omega
      · first | (rw [List.length_map, List.length_range]; omega) | omega
      · omega
      have fr : Fr H _ [(p_52, (.lst (List.map V.bl marks_49) : HO)), (p_45, (.lst (List.map V.bl marks_42) : HO)), (D_16, (.lst (List.map V.int ((List.map (fun i : Nat => ((cellI script (((0 + (i_10 : Int) * 4) + (i : Int)))))) (List.range (Int.toNat 4))))) : HO))] := fr.cnew sm_50 np_53 ep_54
      have hpr := prod20 (a := marks_42.length) (b := marks_49.length) (by omega) (by omega)
      have hpp : 0 < marks_42.length * marks_49.length := Nat.mul_pos (by omega) (by omega)
      have hjl := joinedM_len marks_42 marks_49
      refine ⟨_, rfl, _, _, _, _, rfl, rfl, (SqL.of fr.at2), (atD 0 ?_ ?_), _, rfl, _, _, _, rfl, (SqL.of fr.at1), (List.length_map _), _, rfl, ((List.getD ((List.map (fun i : Nat => ((cellI script (((0 + (i_10 : Int) * 4) + (i : Int)))))) (List.range (Int.toNat 4)))) (Int.toNat 2) 0)), ((marks_42.length : Int)), n_35, rfl, ?_, ?_, fun H_55 p_60 word_56 hp_58 hp_59 sm_57 np_61 ep_62 => ?_⟩
      · first | (rw [List.length_map, List.length_range]; omega) | omega
      · first | (rw [List.length_map, List.length_range]; omega) | omega
      · first | omega | exact ⟨by exact_mod_cast hpp, by exact_mod_cast hpr⟩
      · omega
      have fr : Fr H _ [(p_60, (.lst (List.map V.int word_56) : HO)), (p_52, (.lst (List.map V.bl marks_49) : HO)), (p_45, (.lst (List.map V.bl marks_42) : HO)), (D_16, (.lst (List.map V.int ((List.map (fun i : Nat => ((cellI script (((0 + (i_10 : Int) * 4) + (i : Int)))))) (List.range (Int.toNat 4))))) : HO))] := fr.cnew sm_57 np_61 ep_62
      rw [Int.toNat_natCast] at hp_59
      have hw1 := hp_59
      refine ⟨_, rfl, _, _, _, _, rfl, rfl, (SqL.of fr.at3), (atD 0 ?_ ?_), _, rfl, _, _, _, rfl, (SqL.of fr.at1), (List.length_map _), _, rfl, ((List.getD ((List.map (fun i : Nat => ((cellI script (((0 + (i_10 : Int) * 4) + (i : Int)))))) (List.range (Int.toNat 4)))) (Int.toNat 3) 0)), ((marks_49.length : Int)), n_35, rfl, ?_, ?_, fun H_63 p_68 word_64 hp_66 hp_67 sm_65 np_69 ep_70 => ?_⟩
      · first | (rw [List.length_map, List.length_range]; omega) | omega
      · first | (rw [List.length_map, List.length_range]; omega) | omega
      · first | omega | exact ⟨by exact_mod_cast hpp, by exact_mod_cast hpr⟩
      · omega
      have fr : Fr H _ [(p_68, (.lst (List.map V.int word_64) : HO)), (p_60, (.lst (List.map V.int word_56) : HO)), (p_52, (.lst (List.map V.bl marks_49) : HO)), (p_45, (.lst (List.map V.bl marks_42) : HO)), (D_16, (.lst (List.map V.int ((List.map (fun i : Nat => ((cellI script (((0 + (i_10 : Int) * 4) + (i : Int)))))) (List.range (Int.toNat 4))))) : HO))] := fr.cnew sm_65 np_69 ep_70
      rw [Int.toNat_natCast] at hp_67
      have hw2 := hp_67
      refine ⟨_, rfl, _, _, _, _, rfl, rfl, (SqL.of (Fr.atk fr 4 rfl)), (atD 0 ?_ ?_), _, rfl, _, _, _, _, rfl, rfl, (SqL.of (Fr.atk fr 4 rfl)), (atD 0 ?_ ?_), _, _, rfl, rfl, _, rfl, _, _, _, rfl, (SqL.of fr.at3), (List.length_map _), _, rfl, _, _, _, rfl, (SqL.of fr.at2), (List.length_map _), _, _, rfl, rfl, ?_, _, rfl, (((List.getD ((List.map (fun i : Nat => ((cellI script (((0 + (i_10 : Int) * 4) + (i : Int)))))) (List.range (Int.toNat 4)))) (Int.toNat 2) 0) + (List.getD ((List.map (fun i : Nat => ((cellI script (((0 + (i_10 : Int) * 4) + (i : Int)))))) (List.range (Int.toNat 4)))) (Int.toNat 3) 0))), (((marks_42.length : Int) * (marks_49.length : Int))), n_35, rfl, ?_, ?_, fun H_71 p_76 word_72 hp_74 hp_75 sm_73 np_77 ep_78 => ?_⟩
      · first | (rw [List.length_map, List.length_range]; omega) | omega
      · first | (rw [List.length_map, List.length_range]; omega) | omega
      · first | (rw [List.length_map, List.length_range]; omega) | omega
      · first | (rw [List.length_map, List.length_range]; omega) | omega
      · first | exact .inl (by omega) | exact .inr (by omega)
      · first | omega | exact ⟨by exact_mod_cast hpp, by exact_mod_cast hpr⟩
      · omega
      have fr : Fr H _ [(p_76, (.lst (List.map V.int word_72) : HO)), (p_68, (.lst (List.map V.int word_64) : HO)), (p_60, (.lst (List.map V.int word_56) : HO)), (p_52, (.lst (List.map V.bl marks_49) : HO)), (p_45, (.lst (List.map V.bl marks_42) : HO)), (D_16, (.lst (List.map V.int ((List.map (fun i : Nat => ((cellI script (((0 + (i_10 : Int) * 4) + (i : Int)))))) (List.range (Int.toNat 4))))) : HO))] := fr.cnew sm_73 np_77 ep_78
      rw [show Int.toNat ((marks_42.length : Int) * (marks_49.length : Int)) = (joinedM marks_42 marks_49).length by rw [hjl]; exact_mod_cast rfl] at hp_75
      have hw3 := hp_75
      refine ⟨_, rfl, _, rfl, _, rfl, _, rfl, p_45, marks_42, p_60, word_56, p_52, marks_49, p_68, word_64, rfl, (Fr.atk fr 4 rfl), fr.at2, fr.at3, fr.at1, ?_, ?_, ?_, ?_, fun H_79 there_and_back_80 hp_82 sm_81 => ?_⟩
      · exact hw1
      · exact hw2
      · omega
      · exact ⟨by omega, by omega, hpr⟩
      have fr : Fr H _ [(p_76, (.lst (List.map V.int word_72) : HO)), (p_68, (.lst (List.map V.int word_64) : HO)), (p_60, (.lst (List.map V.int word_56) : HO)), (p_52, (.lst (List.map V.bl marks_49) : HO)), (p_45, (.lst (List.map V.bl marks_42) : HO)), (D_16, (.lst (List.map V.int ((List.map (fun i : Nat => ((cellI script (((0 + (i_10 : Int) * 4) + (i : Int)))))) (List.range (Int.toNat 4))))) : HO))] := fr.call sm_81
      subst hp_82
      refine ⟨_, rfl, fun _ => ?_, (fun h => nomatch h)⟩
      refine iteF ?_
      refine ⟨_, rfl, _, rfl, _, rfl, p_45, marks_42, p_52, marks_49, p_76, word_72, rfl, (Fr.atk fr 4 rfl), fr.at3, fr.at0, ?_, ?_, ?_, fun H_83 back_and_there_84 hp_86 sm_85 => ?_⟩
      · exact hw3
      · exact ⟨by omega, by omega, hpr⟩
      · omega
      have fr : Fr H _ [(p_76, (.lst (List.map V.int word_72) : HO)), (p_68, (.lst (List.map V.int word_64) : HO)), (p_60, (.lst (List.map V.int word_56) : HO)), (p_52, (.lst (List.map V.bl marks_49) : HO)), (p_45, (.lst (List.map V.bl marks_42) : HO)), (D_16, (.lst (List.map V.int ((List.map (fun i : Nat => ((cellI script (((0 + (i_10 : Int) * 4) + (i : Int)))))) (List.range (Int.toNat 4))))) : HO))] := fr.call sm_85
      subst hp_86
      refine ⟨_, rfl, fun _ => ?_, (fun h => nomatch h)⟩
      refine iteF ?_
      refine ⟨_, rfl, _, rfl, _, rfl, _, rfl, _, rfl, _, rfl, _, _, _, _, rfl, rfl, (SqL.of (Fr.atk fr 5 rfl)), (atD 0 ?_ ?_), p_45, marks_42, p_60, word_56, p_52, marks_49, p_68, word_64, p_76, word_72, ((List.getD ((List.map (fun i : Nat => ((cellI script (((0 + (i_10 : Int) * 4) + (i : Int)))))) (List.range (Int.toNat 4)))) (Int.toNat 0) 0)), rfl, (Fr.atk fr 4 rfl), fr.at2, fr.at3, fr.at1, fr.at0, ?_, ?_, ?_, ?_, ?_, fun H_87 all_refused_88 hp_90 sm_89 => ?_⟩
      · first | (rw [List.length_map, List.length_range]; omega) | omega
      · first | (rw [List.length_map, List.length_range]; omega) | omega
      · exact hw1
      · exact hw2
      · exact hw3
      · omega
      · exact ⟨⟨by omega, by omega, hpr⟩, by omega, by omega⟩
      have fr : Fr H _ [(p_76, (.lst (List.map V.int word_72) : HO)), (p_68, (.lst (List.map V.int word_64) : HO)), (p_60, (.lst (List.map V.int word_56) : HO)), (p_52, (.lst (List.map V.bl marks_49) : HO)), (p_45, (.lst (List.map V.bl marks_42) : HO)), (D_16, (.lst (List.map V.int ((List.map (fun i : Nat => ((cellI script (((0 + (i_10 : Int) * 4) + (i : Int)))))) (List.range (Int.toNat 4))))) : HO))] := fr.call sm_89
      subst hp_90
      refine ⟨_, rfl, fun _ => ?_, (fun h => nomatch h)⟩
      refine iteF ?_
      have fr : Fr H _ [(p_68, (.lst (List.map V.int word_64) : HO)), (p_60, (.lst (List.map V.int word_56) : HO)), (p_52, (.lst (List.map V.bl marks_49) : HO)), (p_45, (.lst (List.map V.bl marks_42) : HO)), (D_16, (.lst (List.map V.int ((List.map (fun i : Nat => ((cellI script (((0 + (i_10 : Int) * 4) + (i : Int)))))) (List.range (Int.toNat 4))))) : HO))] := Fr.dk fr 0
      have fr : Fr H _ [(p_60, (.lst (List.map V.int word_56) : HO)), (p_52, (.lst (List.map V.bl marks_49) : HO)), (p_45, (.lst (List.map V.bl marks_42) : HO)), (D_16, (.lst (List.map V.int ((List.map (fun i : Nat => ((cellI script (((0 + (i_10 : Int) * 4) + (i : Int)))))) (List.range (Int.toNat 4))))) : HO))] := Fr.dk fr 0
      have fr : Fr H _ [(p_52, (.lst (List.map V.bl marks_49) : HO)), (p_45, (.lst (List.map V.bl marks_42) : HO)), (D_16, (.lst (List.map V.int ((List.map (fun i : Nat => ((cellI script (((0 + (i_10 : Int) * 4) + (i : Int)))))) (List.range (Int.toNat 4))))) : HO))] := Fr.dk fr 0
      have fr : Fr H _ [(p_45, (.lst (List.map V.bl marks_42) : HO)), (D_16, (.lst (List.map V.int ((List.map (fun i : Nat => ((cellI script (((0 + (i_10 : Int) * 4) + (i : Int)))))) (List.range (Int.toNat 4))))) : HO))] := Fr.dk fr 0
      have fr : Fr H _ [(D_16, (.lst (List.map V.int ((List.map (fun i : Nat => ((cellI script (((0 + (i_10 : Int) * 4) + (i : Int)))))) (List.range (Int.toNat 4))))) : HO))] := Fr.dk fr 0
      have fr : Fr H _ [] := Fr.dk fr 0
      refine ⟨_, _, _, _, _, _, _, _, _, rfl, fr⟩
    rintro s_92 H_91 ⟨y_1, y_2, y_3, y_4, y_5, y_6, y_7, y_8, y_9, rfl, fr⟩
    exact q _ true (by rfl) fr.same
end
theorem all_mk {l : PySem.W.OpenLaw} {w : World} {K : PySem.W.Frag} {h : Heap} {mg : Str → Option Value} {fa : Addr} {flaw_mixed : Addr} {odlaw_mixed anlaw_mixed : Option Addr} {sllaw_mixed : Array (Option Value)} {oclaw_mixed kVlaw_mixed dclaw_mixed pmlaw_mixed cdlaw_mixed ctlaw_mixed : Value} {flaw_marks : Addr} {odlaw_marks anlaw_marks : Option Addr} {sllaw_marks : Array (Option Value)} {oclaw_marks kVlaw_marks dclaw_marks pmlaw_marks cdlaw_marks ctlaw_marks : Value} {flaw_word : Addr} {odlaw_word anlaw_word : Option Addr} {sllaw_word : Array (Option Value)} {oclaw_word kVlaw_word dclaw_word pmlaw_word cdlaw_word ctlaw_word : Value} {flaw_cell_at : Addr} {odlaw_cell_at anlaw_cell_at : Option Addr} {sllaw_cell_at : Array (Option Value)} {oclaw_cell_at kVlaw_cell_at dclaw_cell_at pmlaw_cell_at cdlaw_cell_at ctlaw_cell_at : Value} {flaw_bad : Addr} {odlaw_bad anlaw_bad : Option Addr} {sllaw_bad : Array (Option Value)} {oclaw_bad kVlaw_bad dclaw_bad pmlaw_bad cdlaw_bad ctlaw_bad : Value} {fis_whole : Addr} {odis_whole anis_whole : Option Addr} {slis_whole : Array (Option Value)} {ocis_whole kVis_whole dcis_whole pmis_whole cdis_whole ctis_whole : Value} {fis_word : Addr} {odis_word anis_word : Option Addr} {slis_word : Array (Option Value)} {ocis_word kVis_word dcis_word pmis_word cdis_word ctis_word : Value} {fcheck : Addr} {odcheck ancheck : Option Addr} {slcheck : Array (Option Value)} {occheck kVcheck dccheck pmcheck cdcheck ctcheck : Value} {fturned_about : Addr} {odturned_about anturned_about : Option Addr} {slturned_about : Array (Option Value)} {octurned_about kVturned_about dcturned_about pmturned_about cdturned_about ctturned_about : Value} {fjoined_marks : Addr} {odjoined_marks anjoined_marks : Option Addr} {sljoined_marks : Array (Option Value)} {ocjoined_marks kVjoined_marks dcjoined_marks pmjoined_marks cdjoined_marks ctjoined_marks : Value} {fmust_be_word : Addr} {odmust_be_word anmust_be_word : Option Addr} {slmust_be_word : Array (Option Value)} {ocmust_be_word kVmust_be_word dcmust_be_word pmmust_be_word cdmust_be_word ctmust_be_word : Value} {fsizes : Addr} {odsizes ansizes : Option Addr} {slsizes : Array (Option Value)} {ocsizes kVsizes dcsizes pmsizes cdsizes ctsizes : Value} {fnumbers_in : Addr} {odnumbers_in annumbers_in : Option Addr} {slnumbers_in : Array (Option Value)} {ocnumbers_in kVnumbers_in dcnumbers_in pmnumbers_in cdnumbers_in ctnumbers_in : Value} {friffled : Addr} {odriffled anriffled : Option Addr} {slriffled : Array (Option Value)} {ocriffled kVriffled dcriffled pmriffled cdriffled ctriffled : Value} {ffirst : Addr} {odfirst anfirst : Option Addr} {slfirst : Array (Option Value)} {ocfirst kVfirst dcfirst pmfirst cdfirst ctfirst : Value} {fparted : Addr} {odparted anparted : Option Addr} {slparted : Array (Option Value)} {ocparted kVparted dcparted pmparted cdparted ctparted : Value} {fjoined : Addr} {odjoined anjoined : Option Addr} {sljoined : Array (Option Value)} {ocjoined kVjoined dcjoined pmjoined cdjoined ctjoined : Value} {flaw_refused : Addr} {odlaw_refused anlaw_refused : Option Addr} {sllaw_refused : Array (Option Value)} {oclaw_refused kVlaw_refused dclaw_refused pmlaw_refused cdlaw_refused ctlaw_refused : Value} {flaw_all_refused : Addr} {odlaw_all_refused anlaw_all_refused : Option Addr} {sllaw_all_refused : Array (Option Value)} {oclaw_all_refused kVlaw_all_refused dclaw_all_refused pmlaw_all_refused cdlaw_all_refused ctlaw_all_refused : Value} {flaw_two : Addr} {odlaw_two anlaw_two : Option Addr} {sllaw_two : Array (Option Value)} {oclaw_two kVlaw_two dclaw_two pmlaw_two cdlaw_two ctlaw_two : Value} {flaw_there_and_back : Addr} {odlaw_there_and_back anlaw_there_and_back : Option Addr} {sllaw_there_and_back : Array (Option Value)} {oclaw_there_and_back kVlaw_there_and_back dclaw_there_and_back pmlaw_there_and_back cdlaw_there_and_back ctlaw_there_and_back : Value} {flaw_back_and_there : Addr} {odlaw_back_and_there anlaw_back_and_there : Option Addr} {sllaw_back_and_there : Array (Option Value)} {oclaw_back_and_there kVlaw_back_and_there dclaw_back_and_there pmlaw_back_and_there cdlaw_back_and_there ctlaw_back_and_there : Value} {flaw : Addr} {odlaw anlaw : Option Addr} {sllaw : Array (Option Value)} {oclaw kVlaw dclaw pmlaw cdlaw ctlaw : Value} {CRiftError : Addr} {CNoPack : Addr} {CNoMarks : Addr} {CNoRiffle : Addr} {CNoWay : Addr} {CTooMany : Addr} {CNoFigures : Addr} {CNoText : Addr} (X : K.In h) (G : h.Ns mainGlobals mg) (hfa : mg "law" = some (.ref fa))
    (alaw_mixed : PySem.W.nsIn K mainGlobals "_law_mixed" = some (some (.ref flaw_mixed))) (llaw_mixed : K.lookup flaw_mixed = some ⟨oclaw_mixed, odlaw_mixed, .func (PySem.W.fnOf "_law_mixed" "_law_mixed" (defArgs s_law_mixed) (defBody s_law_mixed) (defScope s_law_mixed) .none kVlaw_mixed dclaw_mixed pmlaw_mixed anlaw_mixed cdlaw_mixed ctlaw_mixed), sllaw_mixed⟩) (claw_mixed : PySem.W.codeIn K cdlaw_mixed "_law_mixed" = true) (klaw_mixed : PySem.W.keepIn K (.ref flaw_mixed) = true)
    (alaw_marks : PySem.W.nsIn K mainGlobals "_law_marks" = some (some (.ref flaw_marks))) (llaw_marks : K.lookup flaw_marks = some ⟨oclaw_marks, odlaw_marks, .func (PySem.W.fnOf "_law_marks" "_law_marks" (defArgs s_law_marks) (defBody s_law_marks) (defScope s_law_marks) .none kVlaw_marks dclaw_marks pmlaw_marks anlaw_marks cdlaw_marks ctlaw_marks), sllaw_marks⟩) (claw_marks : PySem.W.codeIn K cdlaw_marks "_law_marks" = true) (klaw_marks : PySem.W.keepIn K (.ref flaw_marks) = true)
    (alaw_word : PySem.W.nsIn K mainGlobals "_law_word" = some (some (.ref flaw_word))) (llaw_word : K.lookup flaw_word = some ⟨oclaw_word, odlaw_word, .func (PySem.W.fnOf "_law_word" "_law_word" (defArgs s_law_word) (defBody s_law_word) (defScope s_law_word) .none kVlaw_word dclaw_word pmlaw_word anlaw_word cdlaw_word ctlaw_word), sllaw_word⟩) (claw_word : PySem.W.codeIn K cdlaw_word "_law_word" = true) (klaw_word : PySem.W.keepIn K (.ref flaw_word) = true)
    (alaw_cell_at : PySem.W.nsIn K mainGlobals "_law_cell_at" = some (some (.ref flaw_cell_at))) (llaw_cell_at : K.lookup flaw_cell_at = some ⟨oclaw_cell_at, odlaw_cell_at, .func (PySem.W.fnOf "_law_cell_at" "_law_cell_at" (defArgs s_law_cell_at) (defBody s_law_cell_at) (defScope s_law_cell_at) .none kVlaw_cell_at dclaw_cell_at pmlaw_cell_at anlaw_cell_at cdlaw_cell_at ctlaw_cell_at), sllaw_cell_at⟩) (claw_cell_at : PySem.W.codeIn K cdlaw_cell_at "_law_cell_at" = true) (klaw_cell_at : PySem.W.keepIn K (.ref flaw_cell_at) = true)
    (alaw_bad : PySem.W.nsIn K mainGlobals "_law_bad" = some (some (.ref flaw_bad))) (llaw_bad : K.lookup flaw_bad = some ⟨oclaw_bad, odlaw_bad, .func (PySem.W.fnOf "_law_bad" "_law_bad" (defArgs s_law_bad) (defBody s_law_bad) (defScope s_law_bad) .none kVlaw_bad dclaw_bad pmlaw_bad anlaw_bad cdlaw_bad ctlaw_bad), sllaw_bad⟩) (claw_bad : PySem.W.codeIn K cdlaw_bad "_law_bad" = true) (klaw_bad : PySem.W.keepIn K (.ref flaw_bad) = true)
    (ais_whole : PySem.W.nsIn K mainGlobals "is_whole" = some (some (.ref fis_whole))) (lis_whole : K.lookup fis_whole = some ⟨ocis_whole, odis_whole, .func (PySem.W.fnOf "is_whole" "is_whole" (defArgs s_is_whole) (defBody s_is_whole) (defScope s_is_whole) .none kVis_whole dcis_whole pmis_whole anis_whole cdis_whole ctis_whole), slis_whole⟩) (cis_whole : PySem.W.codeIn K cdis_whole "is_whole" = true) (kis_whole : PySem.W.keepIn K (.ref fis_whole) = true)
    (ais_word : PySem.W.nsIn K mainGlobals "is_word" = some (some (.ref fis_word))) (lis_word : K.lookup fis_word = some ⟨ocis_word, odis_word, .func (PySem.W.fnOf "is_word" "is_word" (defArgs s_is_word) (defBody s_is_word) (defScope s_is_word) .none kVis_word dcis_word pmis_word anis_word cdis_word ctis_word), slis_word⟩) (cis_word : PySem.W.codeIn K cdis_word "is_word" = true) (kis_word : PySem.W.keepIn K (.ref fis_word) = true)
    (acheck : PySem.W.nsIn K mainGlobals "check" = some (some (.ref fcheck))) (lcheck : K.lookup fcheck = some ⟨occheck, odcheck, .func (PySem.W.fnOf "check" "check" (defArgs s_check) (defBody s_check) (defScope s_check) .none kVcheck dccheck pmcheck ancheck cdcheck ctcheck), slcheck⟩) (ccheck : PySem.W.codeIn K cdcheck "check" = true) (kcheck : PySem.W.keepIn K (.ref fcheck) = true)
    (aturned_about : PySem.W.nsIn K mainGlobals "turned_about" = some (some (.ref fturned_about))) (lturned_about : K.lookup fturned_about = some ⟨octurned_about, odturned_about, .func (PySem.W.fnOf "turned_about" "turned_about" (defArgs s_turned_about) (defBody s_turned_about) (defScope s_turned_about) .none kVturned_about dcturned_about pmturned_about anturned_about cdturned_about ctturned_about), slturned_about⟩) (cturned_about : PySem.W.codeIn K cdturned_about "turned_about" = true) (kturned_about : PySem.W.keepIn K (.ref fturned_about) = true)
    (ajoined_marks : PySem.W.nsIn K mainGlobals "joined_marks" = some (some (.ref fjoined_marks))) (ljoined_marks : K.lookup fjoined_marks = some ⟨ocjoined_marks, odjoined_marks, .func (PySem.W.fnOf "joined_marks" "joined_marks" (defArgs s_joined_marks) (defBody s_joined_marks) (defScope s_joined_marks) .none kVjoined_marks dcjoined_marks pmjoined_marks anjoined_marks cdjoined_marks ctjoined_marks), sljoined_marks⟩) (cjoined_marks : PySem.W.codeIn K cdjoined_marks "joined_marks" = true) (kjoined_marks : PySem.W.keepIn K (.ref fjoined_marks) = true)
    (amust_be_word : PySem.W.nsIn K mainGlobals "must_be_word" = some (some (.ref fmust_be_word))) (lmust_be_word : K.lookup fmust_be_word = some ⟨ocmust_be_word, odmust_be_word, .func (PySem.W.fnOf "must_be_word" "must_be_word" (defArgs s_must_be_word) (defBody s_must_be_word) (defScope s_must_be_word) .none kVmust_be_word dcmust_be_word pmmust_be_word anmust_be_word cdmust_be_word ctmust_be_word), slmust_be_word⟩) (cmust_be_word : PySem.W.codeIn K cdmust_be_word "must_be_word" = true) (kmust_be_word : PySem.W.keepIn K (.ref fmust_be_word) = true)
    (asizes : PySem.W.nsIn K mainGlobals "sizes" = some (some (.ref fsizes))) (lsizes : K.lookup fsizes = some ⟨ocsizes, odsizes, .func (PySem.W.fnOf "sizes" "sizes" (defArgs s_sizes) (defBody s_sizes) (defScope s_sizes) .none kVsizes dcsizes pmsizes ansizes cdsizes ctsizes), slsizes⟩) (csizes : PySem.W.codeIn K cdsizes "sizes" = true) (ksizes : PySem.W.keepIn K (.ref fsizes) = true)
    (anumbers_in : PySem.W.nsIn K mainGlobals "numbers_in" = some (some (.ref fnumbers_in))) (lnumbers_in : K.lookup fnumbers_in = some ⟨ocnumbers_in, odnumbers_in, .func (PySem.W.fnOf "numbers_in" "numbers_in" (defArgs s_numbers_in) (defBody s_numbers_in) (defScope s_numbers_in) .none kVnumbers_in dcnumbers_in pmnumbers_in annumbers_in cdnumbers_in ctnumbers_in), slnumbers_in⟩) (cnumbers_in : PySem.W.codeIn K cdnumbers_in "numbers_in" = true) (knumbers_in : PySem.W.keepIn K (.ref fnumbers_in) = true)
    (ariffled : PySem.W.nsIn K mainGlobals "riffled" = some (some (.ref friffled))) (lriffled : K.lookup friffled = some ⟨ocriffled, odriffled, .func (PySem.W.fnOf "riffled" "riffled" (defArgs s_riffled) (defBody s_riffled) (defScope s_riffled) .none kVriffled dcriffled pmriffled anriffled cdriffled ctriffled), slriffled⟩) (criffled : PySem.W.codeIn K cdriffled "riffled" = true) (kriffled : PySem.W.keepIn K (.ref friffled) = true)
    (afirst : PySem.W.nsIn K mainGlobals "first" = some (some (.ref ffirst))) (lfirst : K.lookup ffirst = some ⟨ocfirst, odfirst, .func (PySem.W.fnOf "first" "first" (defArgs s_first) (defBody s_first) (defScope s_first) .none kVfirst dcfirst pmfirst anfirst cdfirst ctfirst), slfirst⟩) (cfirst : PySem.W.codeIn K cdfirst "first" = true) (kfirst : PySem.W.keepIn K (.ref ffirst) = true)
    (aparted : PySem.W.nsIn K mainGlobals "parted" = some (some (.ref fparted))) (lparted : K.lookup fparted = some ⟨ocparted, odparted, .func (PySem.W.fnOf "parted" "parted" (defArgs s_parted) (defBody s_parted) (defScope s_parted) .none kVparted dcparted pmparted anparted cdparted ctparted), slparted⟩) (cparted : PySem.W.codeIn K cdparted "parted" = true) (kparted : PySem.W.keepIn K (.ref fparted) = true)
    (ajoined : PySem.W.nsIn K mainGlobals "joined" = some (some (.ref fjoined))) (ljoined : K.lookup fjoined = some ⟨ocjoined, odjoined, .func (PySem.W.fnOf "joined" "joined" (defArgs s_joined) (defBody s_joined) (defScope s_joined) .none kVjoined dcjoined pmjoined anjoined cdjoined ctjoined), sljoined⟩) (cjoined : PySem.W.codeIn K cdjoined "joined" = true) (kjoined : PySem.W.keepIn K (.ref fjoined) = true)
    (alaw_refused : PySem.W.nsIn K mainGlobals "_law_refused" = some (some (.ref flaw_refused))) (llaw_refused : K.lookup flaw_refused = some ⟨oclaw_refused, odlaw_refused, .func (PySem.W.fnOf "_law_refused" "_law_refused" (defArgs s_law_refused) (defBody s_law_refused) (defScope s_law_refused) .none kVlaw_refused dclaw_refused pmlaw_refused anlaw_refused cdlaw_refused ctlaw_refused), sllaw_refused⟩) (claw_refused : PySem.W.codeIn K cdlaw_refused "_law_refused" = true) (klaw_refused : PySem.W.keepIn K (.ref flaw_refused) = true)
    (alaw_all_refused : PySem.W.nsIn K mainGlobals "_law_all_refused" = some (some (.ref flaw_all_refused))) (llaw_all_refused : K.lookup flaw_all_refused = some ⟨oclaw_all_refused, odlaw_all_refused, .func (PySem.W.fnOf "_law_all_refused" "_law_all_refused" (defArgs s_law_all_refused) (defBody s_law_all_refused) (defScope s_law_all_refused) .none kVlaw_all_refused dclaw_all_refused pmlaw_all_refused anlaw_all_refused cdlaw_all_refused ctlaw_all_refused), sllaw_all_refused⟩) (claw_all_refused : PySem.W.codeIn K cdlaw_all_refused "_law_all_refused" = true) (klaw_all_refused : PySem.W.keepIn K (.ref flaw_all_refused) = true)
    (alaw_two : PySem.W.nsIn K mainGlobals "_law_two" = some (some (.ref flaw_two))) (llaw_two : K.lookup flaw_two = some ⟨oclaw_two, odlaw_two, .func (PySem.W.fnOf "_law_two" "_law_two" (defArgs s_law_two) (defBody s_law_two) (defScope s_law_two) .none kVlaw_two dclaw_two pmlaw_two anlaw_two cdlaw_two ctlaw_two), sllaw_two⟩) (claw_two : PySem.W.codeIn K cdlaw_two "_law_two" = true) (klaw_two : PySem.W.keepIn K (.ref flaw_two) = true)
    (alaw_there_and_back : PySem.W.nsIn K mainGlobals "_law_there_and_back" = some (some (.ref flaw_there_and_back))) (llaw_there_and_back : K.lookup flaw_there_and_back = some ⟨oclaw_there_and_back, odlaw_there_and_back, .func (PySem.W.fnOf "_law_there_and_back" "_law_there_and_back" (defArgs s_law_there_and_back) (defBody s_law_there_and_back) (defScope s_law_there_and_back) .none kVlaw_there_and_back dclaw_there_and_back pmlaw_there_and_back anlaw_there_and_back cdlaw_there_and_back ctlaw_there_and_back), sllaw_there_and_back⟩) (claw_there_and_back : PySem.W.codeIn K cdlaw_there_and_back "_law_there_and_back" = true) (klaw_there_and_back : PySem.W.keepIn K (.ref flaw_there_and_back) = true)
    (alaw_back_and_there : PySem.W.nsIn K mainGlobals "_law_back_and_there" = some (some (.ref flaw_back_and_there))) (llaw_back_and_there : K.lookup flaw_back_and_there = some ⟨oclaw_back_and_there, odlaw_back_and_there, .func (PySem.W.fnOf "_law_back_and_there" "_law_back_and_there" (defArgs s_law_back_and_there) (defBody s_law_back_and_there) (defScope s_law_back_and_there) .none kVlaw_back_and_there dclaw_back_and_there pmlaw_back_and_there anlaw_back_and_there cdlaw_back_and_there ctlaw_back_and_there), sllaw_back_and_there⟩) (claw_back_and_there : PySem.W.codeIn K cdlaw_back_and_there "_law_back_and_there" = true) (klaw_back_and_there : PySem.W.keepIn K (.ref flaw_back_and_there) = true)
    (alaw : PySem.W.nsIn K mainGlobals "law" = some (some (.ref flaw))) (llaw : K.lookup flaw = some ⟨oclaw, odlaw, .func (PySem.W.fnOf "law" "law" (defArgs s_law) (defBody s_law) (defScope s_law) .none kVlaw dclaw pmlaw anlaw cdlaw ctlaw), sllaw⟩) (claw : PySem.W.codeIn K cdlaw "law" = true) (klaw : PySem.W.keepIn K (.ref flaw) = true)
    (z_abs : PySem.W.nsIn K mainGlobals "abs" = some none)
    (z_all : PySem.W.nsIn K mainGlobals "all" = some none)
    (z_bool : PySem.W.nsIn K mainGlobals "bool" = some none)
    (z_divmod : PySem.W.nsIn K mainGlobals "divmod" = some none)
    (z_enumerate : PySem.W.nsIn K mainGlobals "enumerate" = some none)
    (z_int : PySem.W.nsIn K mainGlobals "int" = some none)
    (z_isinstance : PySem.W.nsIn K mainGlobals "isinstance" = some none)
    (z_len : PySem.W.nsIn K mainGlobals "len" = some none)
    (z_list : PySem.W.nsIn K mainGlobals "list" = some none)
    (z_min : PySem.W.nsIn K mainGlobals "min" = some none)
    (z_range : PySem.W.nsIn K mainGlobals "range" = some none)
    (z_tuple : PySem.W.nsIn K mainGlobals "tuple" = some none)
    (z_zip : PySem.W.nsIn K mainGlobals "zip" = some none)
    (xaRiftError : PySem.W.nsIn K mainGlobals "RiftError" = some (some (.ref CRiftError)))
    (xkRiftError : PySem.W.keepIn K (.ref CRiftError) = true)
    (xeRiftError : PySem.W.excIn K CRiftError [.type "ValueError", .type "Exception", .type "BaseException", .type "object"] "ValueError.__new__" = true)
    (xhgRiftError : PySem.W.findIn K (.ref CRiftError) "__getattribute__" = some (some (.builtin "BaseException.__getattribute__")))
    (xhkRiftError : PySem.W.findIn K (.ref CRiftError) "__getattr__" = some none)
    (xhsRiftError : PySem.W.subIn K (.ref CRiftError) (.type "BaseException") = some true)
    (xhdRiftError : PySem.W.hasDictIn K CRiftError = true)
    (xhaRiftError : PySem.W.findIn K (.ref CRiftError) "__class__" = some (some (.builtin "object.__class__")))
    (xhnRiftError : PySem.W.specialIn K (.builtin "object.__class__") "__get__" = some (some (.builtin "getset_descriptor.__get__")))
    (xhtRiftError : PySem.W.takesIn K (.builtin "object.__class__") = some true)
    (xhmRiftError : PySem.W.mroIn K CRiftError (.type "object") = some true)
    (xtyRiftError : PySem.W.typeIn K (.ref CRiftError) = some (.type "type"))
    (xveRiftError : PySem.W.subIn K (.ref CRiftError) (.type "ValueError") = some true)
    (xaNoPack : PySem.W.nsIn K mainGlobals "NoPack" = some (some (.ref CNoPack)))
    (xkNoPack : PySem.W.keepIn K (.ref CNoPack) = true)
    (xeNoPack : PySem.W.excIn K CNoPack [.type "ValueError", .type "Exception", .type "BaseException", .type "object"] "ValueError.__new__" = true)
    (xhgNoPack : PySem.W.findIn K (.ref CNoPack) "__getattribute__" = some (some (.builtin "BaseException.__getattribute__")))
    (xhkNoPack : PySem.W.findIn K (.ref CNoPack) "__getattr__" = some none)
    (xhsNoPack : PySem.W.subIn K (.ref CNoPack) (.type "BaseException") = some true)
    (xhdNoPack : PySem.W.hasDictIn K CNoPack = true)
    (xhaNoPack : PySem.W.findIn K (.ref CNoPack) "__class__" = some (some (.builtin "object.__class__")))
    (xhnNoPack : PySem.W.specialIn K (.builtin "object.__class__") "__get__" = some (some (.builtin "getset_descriptor.__get__")))
    (xhtNoPack : PySem.W.takesIn K (.builtin "object.__class__") = some true)
    (xhmNoPack : PySem.W.mroIn K CNoPack (.type "object") = some true)
    (xtyNoPack : PySem.W.typeIn K (.ref CNoPack) = some (.type "type"))
    (xveNoPack : PySem.W.subIn K (.ref CNoPack) (.type "ValueError") = some true)
    (xaNoMarks : PySem.W.nsIn K mainGlobals "NoMarks" = some (some (.ref CNoMarks)))
    (xkNoMarks : PySem.W.keepIn K (.ref CNoMarks) = true)
    (xeNoMarks : PySem.W.excIn K CNoMarks [.type "ValueError", .type "Exception", .type "BaseException", .type "object"] "ValueError.__new__" = true)
    (xhgNoMarks : PySem.W.findIn K (.ref CNoMarks) "__getattribute__" = some (some (.builtin "BaseException.__getattribute__")))
    (xhkNoMarks : PySem.W.findIn K (.ref CNoMarks) "__getattr__" = some none)
    (xhsNoMarks : PySem.W.subIn K (.ref CNoMarks) (.type "BaseException") = some true)
    (xhdNoMarks : PySem.W.hasDictIn K CNoMarks = true)
    (xhaNoMarks : PySem.W.findIn K (.ref CNoMarks) "__class__" = some (some (.builtin "object.__class__")))
    (xhnNoMarks : PySem.W.specialIn K (.builtin "object.__class__") "__get__" = some (some (.builtin "getset_descriptor.__get__")))
    (xhtNoMarks : PySem.W.takesIn K (.builtin "object.__class__") = some true)
    (xhmNoMarks : PySem.W.mroIn K CNoMarks (.type "object") = some true)
    (xtyNoMarks : PySem.W.typeIn K (.ref CNoMarks) = some (.type "type"))
    (xveNoMarks : PySem.W.subIn K (.ref CNoMarks) (.type "ValueError") = some true)
    (xaNoRiffle : PySem.W.nsIn K mainGlobals "NoRiffle" = some (some (.ref CNoRiffle)))
    (xkNoRiffle : PySem.W.keepIn K (.ref CNoRiffle) = true)
    (xeNoRiffle : PySem.W.excIn K CNoRiffle [.type "ValueError", .type "Exception", .type "BaseException", .type "object"] "ValueError.__new__" = true)
    (xhgNoRiffle : PySem.W.findIn K (.ref CNoRiffle) "__getattribute__" = some (some (.builtin "BaseException.__getattribute__")))
    (xhkNoRiffle : PySem.W.findIn K (.ref CNoRiffle) "__getattr__" = some none)
    (xhsNoRiffle : PySem.W.subIn K (.ref CNoRiffle) (.type "BaseException") = some true)
    (xhdNoRiffle : PySem.W.hasDictIn K CNoRiffle = true)
    (xhaNoRiffle : PySem.W.findIn K (.ref CNoRiffle) "__class__" = some (some (.builtin "object.__class__")))
    (xhnNoRiffle : PySem.W.specialIn K (.builtin "object.__class__") "__get__" = some (some (.builtin "getset_descriptor.__get__")))
    (xhtNoRiffle : PySem.W.takesIn K (.builtin "object.__class__") = some true)
    (xhmNoRiffle : PySem.W.mroIn K CNoRiffle (.type "object") = some true)
    (xtyNoRiffle : PySem.W.typeIn K (.ref CNoRiffle) = some (.type "type"))
    (xveNoRiffle : PySem.W.subIn K (.ref CNoRiffle) (.type "ValueError") = some true)
    (xaNoWay : PySem.W.nsIn K mainGlobals "NoWay" = some (some (.ref CNoWay)))
    (xkNoWay : PySem.W.keepIn K (.ref CNoWay) = true)
    (xeNoWay : PySem.W.excIn K CNoWay [.type "ValueError", .type "Exception", .type "BaseException", .type "object"] "ValueError.__new__" = true)
    (xhgNoWay : PySem.W.findIn K (.ref CNoWay) "__getattribute__" = some (some (.builtin "BaseException.__getattribute__")))
    (xhkNoWay : PySem.W.findIn K (.ref CNoWay) "__getattr__" = some none)
    (xhsNoWay : PySem.W.subIn K (.ref CNoWay) (.type "BaseException") = some true)
    (xhdNoWay : PySem.W.hasDictIn K CNoWay = true)
    (xhaNoWay : PySem.W.findIn K (.ref CNoWay) "__class__" = some (some (.builtin "object.__class__")))
    (xhnNoWay : PySem.W.specialIn K (.builtin "object.__class__") "__get__" = some (some (.builtin "getset_descriptor.__get__")))
    (xhtNoWay : PySem.W.takesIn K (.builtin "object.__class__") = some true)
    (xhmNoWay : PySem.W.mroIn K CNoWay (.type "object") = some true)
    (xtyNoWay : PySem.W.typeIn K (.ref CNoWay) = some (.type "type"))
    (xveNoWay : PySem.W.subIn K (.ref CNoWay) (.type "ValueError") = some true)
    (xaTooMany : PySem.W.nsIn K mainGlobals "TooMany" = some (some (.ref CTooMany)))
    (xkTooMany : PySem.W.keepIn K (.ref CTooMany) = true)
    (xeTooMany : PySem.W.excIn K CTooMany [.type "ValueError", .type "Exception", .type "BaseException", .type "object"] "ValueError.__new__" = true)
    (xhgTooMany : PySem.W.findIn K (.ref CTooMany) "__getattribute__" = some (some (.builtin "BaseException.__getattribute__")))
    (xhkTooMany : PySem.W.findIn K (.ref CTooMany) "__getattr__" = some none)
    (xhsTooMany : PySem.W.subIn K (.ref CTooMany) (.type "BaseException") = some true)
    (xhdTooMany : PySem.W.hasDictIn K CTooMany = true)
    (xhaTooMany : PySem.W.findIn K (.ref CTooMany) "__class__" = some (some (.builtin "object.__class__")))
    (xhnTooMany : PySem.W.specialIn K (.builtin "object.__class__") "__get__" = some (some (.builtin "getset_descriptor.__get__")))
    (xhtTooMany : PySem.W.takesIn K (.builtin "object.__class__") = some true)
    (xhmTooMany : PySem.W.mroIn K CTooMany (.type "object") = some true)
    (xtyTooMany : PySem.W.typeIn K (.ref CTooMany) = some (.type "type"))
    (xveTooMany : PySem.W.subIn K (.ref CTooMany) (.type "ValueError") = some true)
    (xaNoFigures : PySem.W.nsIn K mainGlobals "NoFigures" = some (some (.ref CNoFigures)))
    (xkNoFigures : PySem.W.keepIn K (.ref CNoFigures) = true)
    (xeNoFigures : PySem.W.excIn K CNoFigures [.type "ValueError", .type "Exception", .type "BaseException", .type "object"] "ValueError.__new__" = true)
    (xhgNoFigures : PySem.W.findIn K (.ref CNoFigures) "__getattribute__" = some (some (.builtin "BaseException.__getattribute__")))
    (xhkNoFigures : PySem.W.findIn K (.ref CNoFigures) "__getattr__" = some none)
    (xhsNoFigures : PySem.W.subIn K (.ref CNoFigures) (.type "BaseException") = some true)
    (xhdNoFigures : PySem.W.hasDictIn K CNoFigures = true)
    (xhaNoFigures : PySem.W.findIn K (.ref CNoFigures) "__class__" = some (some (.builtin "object.__class__")))
    (xhnNoFigures : PySem.W.specialIn K (.builtin "object.__class__") "__get__" = some (some (.builtin "getset_descriptor.__get__")))
    (xhtNoFigures : PySem.W.takesIn K (.builtin "object.__class__") = some true)
    (xhmNoFigures : PySem.W.mroIn K CNoFigures (.type "object") = some true)
    (xtyNoFigures : PySem.W.typeIn K (.ref CNoFigures) = some (.type "type"))
    (xveNoFigures : PySem.W.subIn K (.ref CNoFigures) (.type "ValueError") = some true)
    (xaNoText : PySem.W.nsIn K mainGlobals "NoText" = some (some (.ref CNoText)))
    (xkNoText : PySem.W.keepIn K (.ref CNoText) = true)
    (xeNoText : PySem.W.excIn K CNoText [.type "ValueError", .type "Exception", .type "BaseException", .type "object"] "ValueError.__new__" = true)
    (xhgNoText : PySem.W.findIn K (.ref CNoText) "__getattribute__" = some (some (.builtin "BaseException.__getattribute__")))
    (xhkNoText : PySem.W.findIn K (.ref CNoText) "__getattr__" = some none)
    (xhsNoText : PySem.W.subIn K (.ref CNoText) (.type "BaseException") = some true)
    (xhdNoText : PySem.W.hasDictIn K CNoText = true)
    (xhaNoText : PySem.W.findIn K (.ref CNoText) "__class__" = some (some (.builtin "object.__class__")))
    (xhnNoText : PySem.W.specialIn K (.builtin "object.__class__") "__get__" = some (some (.builtin "getset_descriptor.__get__")))
    (xhtNoText : PySem.W.takesIn K (.builtin "object.__class__") = some true)
    (xhmNoText : PySem.W.mroIn K CNoText (.type "object") = some true)
    (xtyNoText : PySem.W.typeIn K (.ref CNoText) = some (.type "type"))
    (xveNoText : PySem.W.subIn K (.ref CNoText) (.type "ValueError") = some true)
    (yNoRiffleNoFigures : PySem.W.subIn K (.ref CNoRiffle) (.ref CNoFigures) = some false)
    (zNoRiffleNoFigures : CNoRiffle ≠ CNoFigures)
    (yNoRiffleNoMarks : PySem.W.subIn K (.ref CNoRiffle) (.ref CNoMarks) = some false)
    (zNoRiffleNoMarks : CNoRiffle ≠ CNoMarks)
    (yNoRiffleNoPack : PySem.W.subIn K (.ref CNoRiffle) (.ref CNoPack) = some false)
    (zNoRiffleNoPack : CNoRiffle ≠ CNoPack)
    (yNoRiffleNoRiffle : PySem.W.subIn K (.ref CNoRiffle) (.ref CNoRiffle) = some true)
    (yNoRiffleNoText : PySem.W.subIn K (.ref CNoRiffle) (.ref CNoText) = some false)
    (zNoRiffleNoText : CNoRiffle ≠ CNoText)
    (yNoRiffleNoWay : PySem.W.subIn K (.ref CNoRiffle) (.ref CNoWay) = some false)
    (zNoRiffleNoWay : CNoRiffle ≠ CNoWay)
    (yNoRiffleRiftError : PySem.W.subIn K (.ref CNoRiffle) (.ref CRiftError) = some true)
    (yNoRiffleTooMany : PySem.W.subIn K (.ref CNoRiffle) (.ref CTooMany) = some false)
    (zNoRiffleTooMany : CNoRiffle ≠ CTooMany) :
    ∃ fd : FuncData, (∀ (s : Shared) (v : Value), BindsTo s fd ⟨[v], []⟩ [("_law_script", v)]) ∧ ∀ base : Heap, K.In base → base.Ns mainGlobals mg → FnOk l.prog w K mg base CX0 8 fa fd ["_law_script"] (sp_law K) := by
  have e := hfa.symm.trans (PySem.W.mg_of X G alaw)
  cases e
  exact ⟨PySem.W.fnOf "law" "law" (defArgs s_law) (defBody s_law) (defScope s_law) .none kVlaw dclaw pmlaw anlaw cdlaw ctlaw, fun s v => .of_eq rfl, fun base _ _ => ok_law (P := l.prog) (w := w) (base := base) (K := K) (mg := mg) { f_law_mixed := flaw_mixed, fd_law_mixed := _, F_law_mixed := fun_mk (st := s_law_mixed) llaw_mixed claw_mixed klaw_mixed, g_law_mixed := PySem.W.mg_of X G alaw_mixed, b_law_mixed := ((fun_mk (st := s_law_mixed) llaw_mixed claw_mixed klaw_mixed).binds (ps := ["_law_cell", "_law_k"]) (fun _ _ _ _ _ _ us hl => match us, hl with | [_, _], _ => rfl)), f_law_marks := flaw_marks, fd_law_marks := _, F_law_marks := fun_mk (st := s_law_marks) llaw_marks claw_marks klaw_marks, g_law_marks := PySem.W.mg_of X G alaw_marks, b_law_marks := ((fun_mk (st := s_law_marks) llaw_marks claw_marks klaw_marks).binds (ps := ["_law_cell", "_law_most"]) (fun _ _ _ _ _ _ us hl => match us, hl with | [_, _], _ => rfl)), f_law_word := flaw_word, fd_law_word := _, F_law_word := fun_mk (st := s_law_word) llaw_word claw_word klaw_word, g_law_word := PySem.W.mg_of X G alaw_word, b_law_word := ((fun_mk (st := s_law_word) llaw_word claw_word klaw_word).binds (ps := ["_law_cell", "_law_heaps", "_law_n"]) (fun _ _ _ _ _ _ us hl => match us, hl with | [_, _, _], _ => rfl)), f_law_cell_at := flaw_cell_at, fd_law_cell_at := _, F_law_cell_at := fun_mk (st := s_law_cell_at) llaw_cell_at claw_cell_at klaw_cell_at, g_law_cell_at := PySem.W.mg_of X G alaw_cell_at, b_law_cell_at := ((fun_mk (st := s_law_cell_at) llaw_cell_at claw_cell_at klaw_cell_at).binds (ps := ["_law_script", "_law_k"]) (fun _ _ _ _ _ _ us hl => match us, hl with | [_, _], _ => rfl)), f_law_bad := flaw_bad, fd_law_bad := _, F_law_bad := fun_mk (st := s_law_bad) llaw_bad claw_bad klaw_bad, g_law_bad := PySem.W.mg_of X G alaw_bad, b_law_bad := ((fun_mk (st := s_law_bad) llaw_bad claw_bad klaw_bad).binds (ps := ["_law_word_here", "_law_heaps", "_law_cell"]) (fun _ _ _ _ _ _ us hl => match us, hl with | [_, _, _], _ => rfl)), f_is_whole := fis_whole, fd_is_whole := _, F_is_whole := fun_mk (st := s_is_whole) lis_whole cis_whole kis_whole, g_is_whole := PySem.W.mg_of X G ais_whole, b_is_whole := ((fun_mk (st := s_is_whole) lis_whole cis_whole kis_whole).binds (ps := ["thing"]) (fun _ _ _ _ _ _ us hl => match us, hl with | [_], _ => rfl)), f_is_word := fis_word, fd_is_word := _, F_is_word := fun_mk (st := s_is_word) lis_word cis_word kis_word, g_is_word := PySem.W.mg_of X G ais_word, b_is_word := ((fun_mk (st := s_is_word) lis_word cis_word kis_word).binds (ps := ["marks", "word", "n"]) (fun _ _ _ _ _ _ us hl => match us, hl with | [_, _, _], _ => rfl)), f_check := fcheck, fd_check := _, F_check := fun_mk (st := s_check) lcheck ccheck kcheck, g_check := PySem.W.mg_of X G acheck, b_check := ((fun_mk (st := s_check) lcheck ccheck kcheck).binds (ps := ["marks", "word", "n"]) (fun _ _ _ _ _ _ us hl => match us, hl with | [_, _, _], _ => rfl)), f_turned_about := fturned_about, fd_turned_about := _, F_turned_about := fun_mk (st := s_turned_about) lturned_about cturned_about kturned_about, g_turned_about := PySem.W.mg_of X G aturned_about, b_turned_about := ((fun_mk (st := s_turned_about) lturned_about cturned_about kturned_about).binds (ps := ["marks", "others", "heap", "other"]) (fun _ _ _ _ _ _ us hl => match us, hl with | [_, _, _, _], _ => rfl)), f_joined_marks := fjoined_marks, fd_joined_marks := _, F_joined_marks := fun_mk (st := s_joined_marks) ljoined_marks cjoined_marks kjoined_marks, g_joined_marks := PySem.W.mg_of X G ajoined_marks, b_joined_marks := ((fun_mk (st := s_joined_marks) ljoined_marks cjoined_marks kjoined_marks).binds (ps := ["marks", "others"]) (fun _ _ _ _ _ _ us hl => match us, hl with | [_, _], _ => rfl)), f_must_be_word := fmust_be_word, fd_must_be_word := _, F_must_be_word := fun_mk (st := s_must_be_word) lmust_be_word cmust_be_word kmust_be_word, g_must_be_word := PySem.W.mg_of X G amust_be_word, b_must_be_word := ((fun_mk (st := s_must_be_word) lmust_be_word cmust_be_word kmust_be_word).binds (ps := ["marks", "word", "n"]) (fun _ _ _ _ _ _ us hl => match us, hl with | [_, _, _], _ => rfl)), f_sizes := fsizes, fd_sizes := _, F_sizes := fun_mk (st := s_sizes) lsizes csizes ksizes, g_sizes := PySem.W.mg_of X G asizes, b_sizes := ((fun_mk (st := s_sizes) lsizes csizes ksizes).binds (ps := ["marks", "word"]) (fun _ _ _ _ _ _ us hl => match us, hl with | [_, _], _ => rfl)), f_numbers_in := fnumbers_in, fd_numbers_in := _, F_numbers_in := fun_mk (st := s_numbers_in) lnumbers_in cnumbers_in knumbers_in, g_numbers_in := PySem.W.mg_of X G anumbers_in, b_numbers_in := ((fun_mk (st := s_numbers_in) lnumbers_in cnumbers_in knumbers_in).binds (ps := ["marks", "word"]) (fun _ _ _ _ _ _ us hl => match us, hl with | [_, _], _ => rfl)), f_riffled := friffled, fd_riffled := _, F_riffled := fun_mk (st := s_riffled) lriffled criffled kriffled, g_riffled := PySem.W.mg_of X G ariffled, b_riffled := ((fun_mk (st := s_riffled) lriffled criffled kriffled).binds (ps := ["order", "marks", "word"]) (fun _ _ _ _ _ _ us hl => match us, hl with | [_, _, _], _ => rfl)), f_first := ffirst, fd_first := _, F_first := fun_mk (st := s_first) lfirst cfirst kfirst, g_first := PySem.W.mg_of X G afirst, b_first := ((fun_mk (st := s_first) lfirst cfirst kfirst).binds (ps := ["n"]) (fun _ _ _ _ _ _ us hl => match us, hl with | [_], _ => rfl)), f_parted := fparted, fd_parted := _, F_parted := fun_mk (st := s_parted) lparted cparted kparted, g_parted := PySem.W.mg_of X G aparted, b_parted := ((fun_mk (st := s_parted) lparted cparted kparted).binds (ps := ["marks", "others", "word"]) (fun _ _ _ _ _ _ us hl => match us, hl with | [_, _, _], _ => rfl)), f_joined := fjoined, fd_joined := _, F_joined := fun_mk (st := s_joined) ljoined cjoined kjoined, g_joined := PySem.W.mg_of X G ajoined, b_joined := ((fun_mk (st := s_joined) ljoined cjoined kjoined).binds (ps := ["marks", "word", "others", "more"]) (fun _ _ _ _ _ _ us hl => match us, hl with | [_, _, _, _], _ => rfl)), f_law_refused := flaw_refused, fd_law_refused := _, F_law_refused := fun_mk (st := s_law_refused) llaw_refused claw_refused klaw_refused, g_law_refused := PySem.W.mg_of X G alaw_refused, b_law_refused := ((fun_mk (st := s_law_refused) llaw_refused claw_refused klaw_refused).binds (ps := ["_law_marks_here", "_law_word_here", "_law_others", "_law_more", "_law_apart"]) (fun _ _ _ _ _ _ us hl => match us, hl with | [_, _, _, _, _], _ => rfl)), f_law_all_refused := flaw_all_refused, fd_law_all_refused := _, F_law_all_refused := fun_mk (st := s_law_all_refused) llaw_all_refused claw_all_refused klaw_all_refused, g_law_all_refused := PySem.W.mg_of X G alaw_all_refused, b_law_all_refused := ((fun_mk (st := s_law_all_refused) llaw_all_refused claw_all_refused klaw_all_refused).binds (ps := ["_law_marks_here", "_law_word_here", "_law_others", "_law_more", "_law_whole", "_law_cell"]) (fun _ _ _ _ _ _ us hl => match us, hl with | [_, _, _, _, _, _], _ => rfl)), f_law_two := flaw_two, fd_law_two := _, F_law_two := fun_mk (st := s_law_two) llaw_two claw_two klaw_two, g_law_two := PySem.W.mg_of X G alaw_two, b_law_two := ((fun_mk (st := s_law_two) llaw_two claw_two klaw_two).binds (ps := ["_law_said", "_law_word_here", "_law_more"]) (fun _ _ _ _ _ _ us hl => match us, hl with | [_, _, _], _ => rfl)), f_law_there_and_back := flaw_there_and_back, fd_law_there_and_back := _, F_law_there_and_back := fun_mk (st := s_law_there_and_back) llaw_there_and_back claw_there_and_back klaw_there_and_back, g_law_there_and_back := PySem.W.mg_of X G alaw_there_and_back, b_law_there_and_back := ((fun_mk (st := s_law_there_and_back) llaw_there_and_back claw_there_and_back klaw_there_and_back).binds (ps := ["_law_marks_here", "_law_word_here", "_law_others", "_law_more"]) (fun _ _ _ _ _ _ us hl => match us, hl with | [_, _, _, _], _ => rfl)), f_law_back_and_there := flaw_back_and_there, fd_law_back_and_there := _, F_law_back_and_there := fun_mk (st := s_law_back_and_there) llaw_back_and_there claw_back_and_there klaw_back_and_there, g_law_back_and_there := PySem.W.mg_of X G alaw_back_and_there, b_law_back_and_there := ((fun_mk (st := s_law_back_and_there) llaw_back_and_there claw_back_and_there klaw_back_and_there).binds (ps := ["_law_marks_here", "_law_others", "_law_word_here"]) (fun _ _ _ _ _ _ us hl => match us, hl with | [_, _, _], _ => rfl)), f_law := fa, fd_law := _, F_law := fun_mk (st := s_law) llaw claw klaw, g_law := PySem.W.mg_of X G alaw, b_law := ((fun_mk (st := s_law) llaw claw klaw).binds (ps := ["_law_script"]) (fun _ _ _ _ _ _ us hl => match us, hl with | [_], _ => rfl)), m_abs := PySem.W.mg_none_of X G z_abs, m_all := PySem.W.mg_none_of X G z_all, m_bool := PySem.W.mg_none_of X G z_bool, m_divmod := PySem.W.mg_none_of X G z_divmod, m_enumerate := PySem.W.mg_none_of X G z_enumerate, m_int := PySem.W.mg_none_of X G z_int, m_isinstance := PySem.W.mg_none_of X G z_isinstance, m_len := PySem.W.mg_none_of X G z_len, m_list := PySem.W.mg_none_of X G z_list, m_min := PySem.W.mg_none_of X G z_min, m_range := PySem.W.mg_none_of X G z_range, m_tuple := PySem.W.mg_none_of X G z_tuple, m_zip := PySem.W.mg_none_of X G z_zip, C_RiftError := CRiftError, X_RiftError := ⟨PySem.W.mg_of X G xaRiftError, xkRiftError, xeRiftError, ⟨xhgRiftError, xhkRiftError, xhsRiftError, xhdRiftError, xhaRiftError, xhnRiftError, xhtRiftError, xhmRiftError⟩, xtyRiftError, xveRiftError⟩, C_NoPack := CNoPack, X_NoPack := ⟨PySem.W.mg_of X G xaNoPack, xkNoPack, xeNoPack, ⟨xhgNoPack, xhkNoPack, xhsNoPack, xhdNoPack, xhaNoPack, xhnNoPack, xhtNoPack, xhmNoPack⟩, xtyNoPack, xveNoPack⟩, C_NoMarks := CNoMarks, X_NoMarks := ⟨PySem.W.mg_of X G xaNoMarks, xkNoMarks, xeNoMarks, ⟨xhgNoMarks, xhkNoMarks, xhsNoMarks, xhdNoMarks, xhaNoMarks, xhnNoMarks, xhtNoMarks, xhmNoMarks⟩, xtyNoMarks, xveNoMarks⟩, C_NoRiffle := CNoRiffle, X_NoRiffle := ⟨PySem.W.mg_of X G xaNoRiffle, xkNoRiffle, xeNoRiffle, ⟨xhgNoRiffle, xhkNoRiffle, xhsNoRiffle, xhdNoRiffle, xhaNoRiffle, xhnNoRiffle, xhtNoRiffle, xhmNoRiffle⟩, xtyNoRiffle, xveNoRiffle⟩, C_NoWay := CNoWay, X_NoWay := ⟨PySem.W.mg_of X G xaNoWay, xkNoWay, xeNoWay, ⟨xhgNoWay, xhkNoWay, xhsNoWay, xhdNoWay, xhaNoWay, xhnNoWay, xhtNoWay, xhmNoWay⟩, xtyNoWay, xveNoWay⟩, C_TooMany := CTooMany, X_TooMany := ⟨PySem.W.mg_of X G xaTooMany, xkTooMany, xeTooMany, ⟨xhgTooMany, xhkTooMany, xhsTooMany, xhdTooMany, xhaTooMany, xhnTooMany, xhtTooMany, xhmTooMany⟩, xtyTooMany, xveTooMany⟩, C_NoFigures := CNoFigures, X_NoFigures := ⟨PySem.W.mg_of X G xaNoFigures, xkNoFigures, xeNoFigures, ⟨xhgNoFigures, xhkNoFigures, xhsNoFigures, xhdNoFigures, xhaNoFigures, xhnNoFigures, xhtNoFigures, xhmNoFigures⟩, xtyNoFigures, xveNoFigures⟩, C_NoText := CNoText, X_NoText := ⟨PySem.W.mg_of X G xaNoText, xkNoText, xeNoText, ⟨xhgNoText, xhkNoText, xhsNoText, xhdNoText, xhaNoText, xhnNoText, xhtNoText, xhmNoText⟩, xtyNoText, xveNoText⟩, S_NoRiffle_NoFigures := yNoRiffleNoFigures, N_NoRiffle_NoFigures := zNoRiffleNoFigures, S_NoRiffle_NoMarks := yNoRiffleNoMarks, N_NoRiffle_NoMarks := zNoRiffleNoMarks, S_NoRiffle_NoPack := yNoRiffleNoPack, N_NoRiffle_NoPack := zNoRiffleNoPack, S_NoRiffle_NoRiffle := yNoRiffleNoRiffle, S_NoRiffle_NoText := yNoRiffleNoText, N_NoRiffle_NoText := zNoRiffleNoText, S_NoRiffle_NoWay := yNoRiffleNoWay, N_NoRiffle_NoWay := zNoRiffleNoWay, S_NoRiffle_RiftError := yNoRiffleRiftError, S_NoRiffle_TooMany := yNoRiffleTooMany, N_NoRiffle_TooMany := zNoRiffleTooMany }⟩
end Rc
open PySem PySem.W PyProof.Rows
set_option maxHeartbeats 0 in
theorem PySem.Challenge.cw_riftcarry_k33_parted_again_holds : PySem.Challenge.rw_riftcarry_k33_parted_again.Holds := by
  w_on; o_law; k_head; (case hw => w_witness2)
  k_fill
  refine L2.walk_of (l := PySem.Challenge.rw_riftcarry_k33_parted_again) (n := 63) (k := 8) (x := "_law_script") (CX := fun _ => L2.CX0) (sp := fun w => Rc.sp_law _) rfl (by decide) rfl ⟨rfl, by decide, by decide⟩ (fun w h Y => PySem.W.kIn_of Y) ?F (fun _ _ a ns hl _ hS => ⟨a, ns, rfl, hS, hl, fun _ _ e _ => by rw [e]⟩) (fun _ _ _ _ _ h => h)
  case F =>
    intro w mg fa h KX G hmg
    refine' Rc.all_mk KX G hmg ?alaw_mixed ?llaw_mixed ?claw_mixed ?klaw_mixed ?alaw_marks ?llaw_marks ?claw_marks ?klaw_marks ?alaw_word ?llaw_word ?claw_word ?klaw_word ?alaw_cell_at ?llaw_cell_at ?claw_cell_at ?klaw_cell_at ?alaw_bad ?llaw_bad ?claw_bad ?klaw_bad ?ais_whole ?lis_whole ?cis_whole ?kis_whole ?ais_word ?lis_word ?cis_word ?kis_word ?acheck ?lcheck ?ccheck ?kcheck ?aturned_about ?lturned_about ?cturned_about ?kturned_about ?ajoined_marks ?ljoined_marks ?cjoined_marks ?kjoined_marks ?amust_be_word ?lmust_be_word ?cmust_be_word ?kmust_be_word ?asizes ?lsizes ?csizes ?ksizes ?anumbers_in ?lnumbers_in ?cnumbers_in ?knumbers_in ?ariffled ?lriffled ?criffled ?kriffled ?afirst ?lfirst ?cfirst ?kfirst ?aparted ?lparted ?cparted ?kparted ?ajoined ?ljoined ?cjoined ?kjoined ?alaw_refused ?llaw_refused ?claw_refused ?klaw_refused ?alaw_all_refused ?llaw_all_refused ?claw_all_refused ?klaw_all_refused ?alaw_two ?llaw_two ?claw_two ?klaw_two ?alaw_there_and_back ?llaw_there_and_back ?claw_there_and_back ?klaw_there_and_back ?alaw_back_and_there ?llaw_back_and_there ?claw_back_and_there ?klaw_back_and_there ?alaw ?llaw ?claw ?klaw ?z_abs ?z_all ?z_bool ?z_divmod ?z_enumerate ?z_int ?z_isinstance ?z_len ?z_list ?z_min ?z_range ?z_tuple ?z_zip ?xaRiftError ?xkRiftError ?xeRiftError ?xhgRiftError ?xhkRiftError ?xhsRiftError ?xhdRiftError ?xhaRiftError ?xhnRiftError ?xhtRiftError ?xhmRiftError ?xtyRiftError ?xveRiftError ?xaNoPack ?xkNoPack ?xeNoPack ?xhgNoPack ?xhkNoPack ?xhsNoPack ?xhdNoPack ?xhaNoPack ?xhnNoPack ?xhtNoPack ?xhmNoPack ?xtyNoPack ?xveNoPack ?xaNoMarks ?xkNoMarks ?xeNoMarks ?xhgNoMarks ?xhkNoMarks ?xhsNoMarks ?xhdNoMarks ?xhaNoMarks ?xhnNoMarks ?xhtNoMarks ?xhmNoMarks ?xtyNoMarks ?xveNoMarks ?xaNoRiffle ?xkNoRiffle ?xeNoRiffle ?xhgNoRiffle ?xhkNoRiffle ?xhsNoRiffle ?xhdNoRiffle ?xhaNoRiffle ?xhnNoRiffle ?xhtNoRiffle ?xhmNoRiffle ?xtyNoRiffle ?xveNoRiffle ?xaNoWay ?xkNoWay ?xeNoWay ?xhgNoWay ?xhkNoWay ?xhsNoWay ?xhdNoWay ?xhaNoWay ?xhnNoWay ?xhtNoWay ?xhmNoWay ?xtyNoWay ?xveNoWay ?xaTooMany ?xkTooMany ?xeTooMany ?xhgTooMany ?xhkTooMany ?xhsTooMany ?xhdTooMany ?xhaTooMany ?xhnTooMany ?xhtTooMany ?xhmTooMany ?xtyTooMany ?xveTooMany ?xaNoFigures ?xkNoFigures ?xeNoFigures ?xhgNoFigures ?xhkNoFigures ?xhsNoFigures ?xhdNoFigures ?xhaNoFigures ?xhnNoFigures ?xhtNoFigures ?xhmNoFigures ?xtyNoFigures ?xveNoFigures ?xaNoText ?xkNoText ?xeNoText ?xhgNoText ?xhkNoText ?xhsNoText ?xhdNoText ?xhaNoText ?xhnNoText ?xhtNoText ?xhmNoText ?xtyNoText ?xveNoText ?yNoRiffleNoFigures ?zNoRiffleNoFigures ?yNoRiffleNoMarks ?zNoRiffleNoMarks ?yNoRiffleNoPack ?zNoRiffleNoPack ?yNoRiffleNoRiffle ?yNoRiffleNoText ?zNoRiffleNoText ?yNoRiffleNoWay ?zNoRiffleNoWay ?yNoRiffleRiftError ?yNoRiffleTooMany ?zNoRiffleTooMany
    (case alaw_mixed => k_is); (case llaw_mixed => k_is); (case claw_mixed => k_is); (case klaw_mixed => k_is); (case alaw_marks => k_is); (case llaw_marks => k_is); (case claw_marks => k_is); (case klaw_marks => k_is); (case alaw_word => k_is); (case llaw_word => k_is); (case claw_word => k_is); (case klaw_word => k_is); (case alaw_cell_at => k_is); (case llaw_cell_at => k_is); (case claw_cell_at => k_is); (case klaw_cell_at => k_is); (case alaw_bad => k_is); (case llaw_bad => k_is); (case claw_bad => k_is); (case klaw_bad => k_is); (case ais_whole => k_is); (case lis_whole => k_is); (case cis_whole => k_is); (case kis_whole => k_is); (case ais_word => k_is); (case lis_word => k_is); (case cis_word => k_is); (case kis_word => k_is); (case acheck => k_is); (case lcheck => k_is); (case ccheck => k_is); (case kcheck => k_is); (case aturned_about => k_is); (case lturned_about => k_is); (case cturned_about => k_is); (case kturned_about => k_is); (case ajoined_marks => k_is); (case ljoined_marks => k_is); (case cjoined_marks => k_is); (case kjoined_marks => k_is); (case amust_be_word => k_is); (case lmust_be_word => k_is); (case cmust_be_word => k_is); (case kmust_be_word => k_is); (case asizes => k_is); (case lsizes => k_is); (case csizes => k_is); (case ksizes => k_is); (case anumbers_in => k_is); (case lnumbers_in => k_is); (case cnumbers_in => k_is); (case knumbers_in => k_is); (case ariffled => k_is); (case lriffled => k_is); (case criffled => k_is); (case kriffled => k_is); (case afirst => k_is); (case lfirst => k_is); (case cfirst => k_is); (case kfirst => k_is); (case aparted => k_is); (case lparted => k_is); (case cparted => k_is); (case kparted => k_is); (case ajoined => k_is); (case ljoined => k_is); (case cjoined => k_is); (case kjoined => k_is); (case alaw_refused => k_is); (case llaw_refused => k_is); (case claw_refused => k_is); (case klaw_refused => k_is); (case alaw_all_refused => k_is); (case llaw_all_refused => k_is); (case claw_all_refused => k_is); (case klaw_all_refused => k_is); (case alaw_two => k_is); (case llaw_two => k_is); (case claw_two => k_is); (case klaw_two => k_is); (case alaw_there_and_back => k_is); (case llaw_there_and_back => k_is); (case claw_there_and_back => k_is); (case klaw_there_and_back => k_is); (case alaw_back_and_there => k_is); (case llaw_back_and_there => k_is); (case claw_back_and_there => k_is); (case klaw_back_and_there => k_is); (case alaw => k_is); (case llaw => k_is); (case claw => k_is); (case klaw => k_is); (case z_abs => k_is); (case z_all => k_is); (case z_bool => k_is); (case z_divmod => k_is); (case z_enumerate => k_is); (case z_int => k_is); (case z_isinstance => k_is); (case z_len => k_is); (case z_list => k_is); (case z_min => k_is); (case z_range => k_is); (case z_tuple => k_is); (case z_zip => k_is); (case xaRiftError => k_is); (case xkRiftError => k_is); (case xeRiftError => k_exc); (case xhgRiftError => k_is); (case xhkRiftError => k_is); (case xhsRiftError => k_is); (case xhdRiftError => k_is); (case xhaRiftError => k_is); (case xhnRiftError => k_is); (case xhtRiftError => k_is); (case xhmRiftError => k_is); (case xtyRiftError => k_is); (case xveRiftError => k_is); (case xaNoPack => k_is); (case xkNoPack => k_is); (case xeNoPack => k_exc); (case xhgNoPack => k_is); (case xhkNoPack => k_is); (case xhsNoPack => k_is); (case xhdNoPack => k_is); (case xhaNoPack => k_is); (case xhnNoPack => k_is); (case xhtNoPack => k_is); (case xhmNoPack => k_is); (case xtyNoPack => k_is); (case xveNoPack => k_is); (case xaNoMarks => k_is); (case xkNoMarks => k_is); (case xeNoMarks => k_exc); (case xhgNoMarks => k_is); (case xhkNoMarks => k_is); (case xhsNoMarks => k_is); (case xhdNoMarks => k_is); (case xhaNoMarks => k_is); (case xhnNoMarks => k_is); (case xhtNoMarks => k_is); (case xhmNoMarks => k_is); (case xtyNoMarks => k_is); (case xveNoMarks => k_is); (case xaNoRiffle => k_is); (case xkNoRiffle => k_is); (case xeNoRiffle => k_exc); (case xhgNoRiffle => k_is); (case xhkNoRiffle => k_is); (case xhsNoRiffle => k_is); (case xhdNoRiffle => k_is); (case xhaNoRiffle => k_is); (case xhnNoRiffle => k_is); (case xhtNoRiffle => k_is); (case xhmNoRiffle => k_is); (case xtyNoRiffle => k_is); (case xveNoRiffle => k_is); (case xaNoWay => k_is); (case xkNoWay => k_is); (case xeNoWay => k_exc); (case xhgNoWay => k_is); (case xhkNoWay => k_is); (case xhsNoWay => k_is); (case xhdNoWay => k_is); (case xhaNoWay => k_is); (case xhnNoWay => k_is); (case xhtNoWay => k_is); (case xhmNoWay => k_is); (case xtyNoWay => k_is); (case xveNoWay => k_is); (case xaTooMany => k_is); (case xkTooMany => k_is); (case xeTooMany => k_exc); (case xhgTooMany => k_is); (case xhkTooMany => k_is); (case xhsTooMany => k_is); (case xhdTooMany => k_is); (case xhaTooMany => k_is); (case xhnTooMany => k_is); (case xhtTooMany => k_is); (case xhmTooMany => k_is); (case xtyTooMany => k_is); (case xveTooMany => k_is); (case xaNoFigures => k_is); (case xkNoFigures => k_is); (case xeNoFigures => k_exc); (case xhgNoFigures => k_is); (case xhkNoFigures => k_is); (case xhsNoFigures => k_is); (case xhdNoFigures => k_is); (case xhaNoFigures => k_is); (case xhnNoFigures => k_is); (case xhtNoFigures => k_is); (case xhmNoFigures => k_is); (case xtyNoFigures => k_is); (case xveNoFigures => k_is); (case xaNoText => k_is); (case xkNoText => k_is); (case xeNoText => k_exc); (case xhgNoText => k_is); (case xhkNoText => k_is); (case xhsNoText => k_is); (case xhdNoText => k_is); (case xhaNoText => k_is); (case xhnNoText => k_is); (case xhtNoText => k_is); (case xhmNoText => k_is); (case xtyNoText => k_is); (case xveNoText => k_is); (case yNoRiffleNoFigures => k_is); (case zNoRiffleNoFigures => decide); (case yNoRiffleNoMarks => k_is); (case zNoRiffleNoMarks => decide); (case yNoRiffleNoPack => k_is); (case zNoRiffleNoPack => decide); (case yNoRiffleNoRiffle => k_is); (case yNoRiffleNoText => k_is); (case zNoRiffleNoText => decide); (case yNoRiffleNoWay => k_is); (case zNoRiffleNoWay => decide); (case yNoRiffleRiftError => k_is); (case yNoRiffleTooMany => k_is); (case zNoRiffleTooMany => decide)
