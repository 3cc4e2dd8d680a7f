import PyProof.Rows.All
import Wide.All
import OpenK.AllK
import Wide.FinOn
import HandS.ForMost
import HandS.IsInst
import HandS.Conv
import HandS.Wide
import HandS.WideBits
import HandS.Evl
import HandS.Walk
import HandS.SortInts
import HandS.SetFor
import HandS.Style
import HandS.Rev
import HandS.RevTup
import HandS.ForExc
import HandS.ExcIs
import HandS.HotCalls
import PyProof.Rows.CountFlat
import HandS.ExcOwn
import HandS.RevRange
import PyProof.CollectIter
import PyProof.WalksMore
import PySem.Challenge.RW_riftcarry_k43_what_a_pack_refuses
set_option Elab.async false
set_option linter.all false
set_option maxRecDepth 100000
set_option maxHeartbeats 4000000
namespace Rc
open PySem PySem.Spec PyProof.Rows L2

/-! frames: H grew out of H0; own lists the objects that are new since then -/
structure Fr (H0 H : Hp) (own : List (Addr × HO)) : Prop where
  same : Same H0 H
  frs : ∀ p ∈ own, H0 p.1 = none ∧ H p.1 = some p.2
  nd : (own.map (·.1)).Nodup

section
variable {H0 H H' : Hp} {own : List (Addr × HO)} {p q r t : Addr} {o o' u v x : HO}
theorem same_new (h : H p = none) : Same H (upd H p o) := fun b x e => by
  rw [upd_ne (ne_of_none e h)]; exact e
theorem Fr.nil (H : Hp) : Fr H H [] := ⟨Same.refl H, (fun _ h => nomatch h), List.nodup_nil⟩
theorem Fr.fresh (f : Fr H0 H own) (h : H p = none) : H0 p = none := f.same.free h
theorem Fr.notin (f : Fr H0 H own) (h : H p = none) : p ∉ own.map (·.1) := fun hm => by
  obtain ⟨z, hz, rfl⟩ := List.mem_map.mp hm
  rw [(f.frs z hz).2] at h; cases h
theorem Fr.call (f : Fr H0 H own) (s : Same H H') : Fr H0 H' own :=
  ⟨f.same.trans s, fun z hz => ⟨(f.frs z hz).1, s _ _ (f.frs z hz).2⟩, f.nd⟩
theorem Fr.cnew (f : Fr H0 H own) (s : Same H H') (h : H p = none) (e : H' p = some o) : Fr H0 H' ((p, o) :: own) :=
  ⟨f.same.trans s, fun z hz => by
    rcases List.mem_cons.mp hz with rfl | hz
    · exact ⟨f.fresh h, e⟩
    · exact ⟨(f.frs z hz).1, s _ _ (f.frs z hz).2⟩, List.nodup_cons.mpr ⟨f.notin h, f.nd⟩⟩
theorem Fr.new (f : Fr H0 H own) (h : H p = none) : Fr H0 (upd H p o) ((p, o) :: own) := f.cnew (same_new h) h upd_same
theorem Fr.tmp (f : Fr H0 H own) (h : H p = none) : Fr H0 (upd H p o) own := f.call (same_new h)
theorem Fr.sub {own' : List (Addr × HO)} (f : Fr H0 H own) (h : own'.Sublist own) : Fr H0 H own' :=
  ⟨f.same, fun z hz => f.frs z (h.subset hz), f.nd.sublist (h.map _)⟩
theorem Fr.perm {own' : List (Addr × HO)} (f : Fr H0 H own) (h : own.Perm own') : Fr H0 H own' :=
  ⟨f.same, fun z hz => f.frs z (h.mem_iff.mpr hz), (h.map _).nodup_iff.mp f.nd⟩
theorem Fr.mem (f : Fr H0 H own) (h : (p, o) ∈ own) : H p = some o := (f.frs _ h).2
theorem Fr.wr (f : Fr H0 H ((p, o) :: own)) : Fr H0 (upd H p o') ((p, o') :: own) := by
  have hn := List.nodup_cons.mp f.nd
  refine ⟨fun b z e => ?_, fun z hz => ?_, f.nd⟩
  · have : b ≠ p := fun h => by subst h; rw [(f.frs (b, o) List.mem_cons_self).1] at e; cases e
    rw [upd_ne this]; exact f.same _ _ e
  · rcases List.mem_cons.mp hz with rfl | hz
    · exact ⟨(f.frs (p, o) List.mem_cons_self).1, upd_same⟩
    · have : z.1 ≠ p := fun h => hn.1 (List.mem_map.mpr ⟨z, hz, h⟩)
      rw [upd_ne this]
      exact f.frs z (List.mem_cons_of_mem _ hz)
theorem Fr.cast (f : Fr H0 H ((p, o) :: own)) (e : o = o') : Fr H0 H ((p, o') :: own) := e ▸ f
/-- bring the k-th to the front, and back -/
theorem Fr.up1 {a b : Addr × HO} (f : Fr H0 H (a :: b :: own)) : Fr H0 H (b :: a :: own) := f.perm (List.Perm.swap _ _ _)
theorem Fr.up2 {a b c : Addr × HO} (f : Fr H0 H (a :: b :: c :: own)) : Fr H0 H (c :: a :: b :: own) :=
  f.perm ((List.Perm.swap c b own).cons a |>.trans (List.Perm.swap c a (b :: own)))
theorem Fr.up3 {a b c d : Addr × HO} (f : Fr H0 H (a :: b :: c :: d :: own)) : Fr H0 H (d :: a :: b :: c :: own) :=
  f.perm (((List.Perm.swap d c own).cons b |>.trans (List.Perm.swap d b (c :: own))).cons a |>.trans (List.Perm.swap d a (b :: c :: own)))
theorem Fr.dn1 {a b : Addr × HO} (f : Fr H0 H (b :: a :: own)) : Fr H0 H (a :: b :: own) := f.up1
theorem Fr.dn2 {a b c : Addr × HO} (f : Fr H0 H (c :: a :: b :: own)) : Fr H0 H (a :: b :: c :: own) := f.up1.perm ((List.Perm.swap _ _ _).cons _)
theorem Fr.dn3 {a b c d : Addr × HO} (f : Fr H0 H (d :: a :: b :: c :: own)) : Fr H0 H (a :: b :: c :: d :: own) :=
  f.up1.perm (((List.Perm.swap _ _ _).trans ((List.Perm.swap _ _ _).cons _)).cons _)
theorem Fr.at0 (f : Fr H0 H ((p, o) :: own)) : H p = some o := f.mem List.mem_cons_self
theorem Fr.at1 {a : Addr × HO} (f : Fr H0 H (a :: (p, o) :: own)) : H p = some o := f.up1.at0
theorem Fr.at2 {a b : Addr × HO} (f : Fr H0 H (a :: b :: (p, o) :: own)) : H p = some o := f.up2.at0
theorem Fr.at3 {a b c : Addr × HO} (f : Fr H0 H (a :: b :: c :: (p, o) :: own)) : H p = some o := f.up3.at0
theorem Fr.at4 {a b c d : Addr × HO} (f : Fr H0 H (a :: b :: c :: d :: (p, o) :: own)) : H p = some o := (f.sub (List.sublist_cons_self _ _)).at3
theorem Fr.at5 {a b c d e : Addr × HO} (f : Fr H0 H (a :: b :: c :: d :: e :: (p, o) :: own)) : H p = some o := (f.sub (List.sublist_cons_self _ _)).at4
theorem Fr.d0 {a : Addr × HO} (f : Fr H0 H (a :: own)) : Fr H0 H own := f.sub (List.sublist_cons_self _ _)
theorem Fr.d1 {a b : Addr × HO} (f : Fr H0 H (a :: b :: own)) : Fr H0 H (a :: own) := f.up1.d0
theorem Fr.d2 {a b c : Addr × HO} (f : Fr H0 H (a :: b :: c :: own)) : Fr H0 H (a :: b :: own) := f.up2.d0
theorem Fr.d3 {a b c d : Addr × HO} (f : Fr H0 H (a :: b :: c :: d :: own)) : Fr H0 H (a :: b :: c :: own) := f.up3.d0
theorem Fr.wr1 {a : Addr × HO} (f : Fr H0 H (a :: (p, o) :: own)) : Fr H0 (upd H p o') (a :: (p, o') :: own) := f.up1.wr.dn1
theorem Fr.wr2 {a b : Addr × HO} (f : Fr H0 H (a :: b :: (p, o) :: own)) : Fr H0 (upd H p o') (a :: b :: (p, o') :: own) := f.up2.wr.dn2
theorem Fr.wr3 {a b c : Addr × HO} (f : Fr H0 H (a :: b :: c :: (p, o) :: own)) : Fr H0 (upd H p o') (a :: b :: c :: (p, o') :: own) := f.up3.wr.dn3
theorem Fr.cs1 {a : Addr × HO} (f : Fr H0 H (a :: (p, o) :: own)) (e : o = o') : Fr H0 H (a :: (p, o') :: own) := e ▸ f
theorem Fr.cs2 {a b : Addr × HO} (f : Fr H0 H (a :: b :: (p, o) :: own)) (e : o = o') : Fr H0 H (a :: b :: (p, o') :: own) := e ▸ f
theorem Fr.cs3 {a b c : Addr × HO} (f : Fr H0 H (a :: b :: c :: (p, o) :: own)) (e : o = o') : Fr H0 H (a :: b :: c :: (p, o') :: own) := e ▸ f
end

/-! contents -/
theorem app_map {α β : Type} (f : α → β) (xs : List α) (y : α) : xs.map f ++ [f y] = (xs ++ [y]).map f := by simp
theorem set_map' {α β : Type} (f : α → β) (xs : List α) (j : Nat) (y : α) : (xs.map f).set j (f y) = (xs.set j y).map f := by rw [List.map_set]
theorem lst_app {α : Type} (f : α → V) (xs : List α) (y : α) : HO.lst (xs.map f ++ [f y]) = .lst ((xs ++ [y]).map f) := by rw [app_map]
theorem lst_set {α : Type} (f : α → V) (xs : List α) (j : Nat) (y : α) : HO.lst ((xs.map f).set j (f y)) = .lst ((xs.set j y).map f) := by rw [set_map']
theorem lst_rev {α : Type} (f : α → V) (xs : List α) : HO.lst ((xs.map f).reverse) = .lst (xs.reverse.map f) := by rw [List.map_reverse]
theorem lst_cat {α : Type} (f : α → V) (xs ys : List α) : HO.lst (xs.map f ++ ys.map f) = .lst ((xs ++ ys).map f) := by rw [List.map_append]
theorem lst_rep {α : Type} (f : α → V) (xs : List α) (k : Nat) : HO.lst (List.replicate k (xs.map f)).flatten = .lst ((List.replicate k xs).flatten.map f) := by
  rw [List.map_flatten, List.map_replicate]
theorem erase_map' {α β : Type} (f : α → β) : ∀ (xs : List α) (k : Nat), (xs.map f).eraseIdx k = (xs.eraseIdx k).map f
  | [], _ => rfl
  | _ :: _, 0 => rfl
  | x :: xs, k + 1 => by
    show f x :: (xs.map f).eraseIdx k = f x :: (xs.eraseIdx k).map f
    rw [erase_map' f xs k]
theorem lst_erase {α : Type} (f : α → V) (xs : List α) (k : Nat) : HO.lst ((xs.map f).eraseIdx k) = .lst ((xs.eraseIdx k).map f) := by rw [erase_map']
theorem lst_dl {α : Type} (f : α → V) (xs : List α) : HO.lst ((xs.map f).dropLast) = .lst (xs.dropLast.map f) := by rw [List.map_dropLast]
theorem lst_rep1 {α : Type} (f : α → V) (x : α) (k : Nat) : HO.lst (List.replicate k [f x]).flatten = .lst ((List.replicate k x).map f) := by
  rw [List.map_replicate]; congr 1
  induction k with
  | zero => rfl
  | succ k ih => rw [List.replicate_succ, List.flatten_cons, ih]; rfl
/-- a slice with step one -/
def cutL {α : Type} (xs : List α) (lo hi : Option Int) : List α :=
  (xs.drop (HT.sIx xs.length 0 lo)).take (HT.sIx xs.length xs.length hi - HT.sIx xs.length 0 lo)
theorem lst_cut {α : Type} (f : α → V) (xs : List α) (lo hi : Option Int) : HO.lst (cutV (xs.map f) lo hi) = .lst ((cutL xs lo hi).map f) := by
  unfold cutV cutL; rw [List.length_map, List.map_take, List.map_drop]
theorem cutL_length {α : Type} (xs : List α) (lo hi : Option Int) : (cutL xs lo hi).length = min (HT.sIx xs.length xs.length hi - HT.sIx xs.length 0 lo) (xs.length - HT.sIx xs.length 0 lo) := by
  unfold cutL; rw [List.length_take, List.length_drop]
theorem rgV_eq (a b : Int) : rgV a b = ((List.range (b - a).toNat).map fun i : Nat => a + (i : Int)).map V.int := by
  unfold rgV; rw [List.map_map]; rfl
def rangeI (n : Int) : List Int := (List.range n.toNat).map fun i : Nat => (i : Int)
theorem lst_rng (n : Int) : HO.lst (rgV 0 n) = .lst ((rangeI n).map V.int) := by
  rw [rgV_eq]; unfold rangeI; congr 2; simp
theorem atD {α : Type} {f : α → V} {xs : List α} {i : Int} (d : α) (h0 : 0 ≤ i) (h1 : i < (xs.length : Int)) : atI (xs.map f) i = some (f (xs.getD i.toNat d)) := by
  obtain ⟨n, rfl⟩ := Int.eq_ofNat_of_zero_le h0
  have hn : n < xs.length := by omega
  refine atI_nat ?_
  rw [List.getElem?_map, List.getElem?_eq_getElem hn]
  simp [List.getD, hn]
theorem ixD {n : Nat} {i : Int} (h0 : 0 ≤ i) (h1 : i < (n : Int)) : ixN n i = some i.toNat := by
  unfold ixN; rw [if_pos h0, if_pos h1]
theorem atLast {α : Type} {f : α → V} {xs : List α} (d : α) (h : 0 < xs.length) : atI (xs.map f) (-1) = some (f (xs.getLastD d)) := by
  have hne : xs ≠ [] := fun z => by subst z; cases h
  have e : xs.map f = xs.dropLast.map f ++ [f (xs.getLast hne)] := by
    rw [← List.map_singleton, ← List.map_append, List.dropLast_concat_getLast]
  rw [e, atI_last, List.getLastD_eq_getLast?, List.getLast?_eq_some_getLast hne]; rfl
theorem getD_mem {α : Type} {xs : List α} {i : Nat} {d : α} (h : i < xs.length) : xs.getD i d ∈ xs := by
  simp [List.getD, h]

/-! tests -/
theorem iteD {c : Prop} [Decidable c] {A B : Prop} (h1 : c → A) (h2 : ¬ c → B) : if decide c = true then A else B := by
  by_cases h : c
  · rw [if_pos (decide_eq_true h)]; exact h1 h
  · rw [if_neg (by rw [decide_eq_false h]; exact Bool.false_ne_true)]; exact h2 h
theorem iteN {c : Prop} [Decidable c] {A B : Prop} (h1 : ¬ c → A) (h2 : c → B) : if (!decide c) = true then A else B := by
  by_cases h : c
  · rw [if_neg (by rw [decide_eq_true h]; exact Bool.false_ne_true)]; exact h2 h
  · rw [if_pos (by rw [decide_eq_false h]; rfl)]; exact h1 h
theorem iteB {b : Bool} {A B : Prop} (h1 : b = true → A) (h2 : b = false → B) : if b = true then A else B := by
  cases b with
  | true => exact iteT (h1 rfl)
  | false => exact iteF (h2 rfl)
theorem iteBT {b : Bool} {A B : Prop} (h : b = true) (h1 : A) : if b = true then A else B := by subst h; exact iteT h1
theorem iteBF {b : Bool} {A B : Prop} (h : b = false) (h1 : B) : if b = true then A else B := by subst h; exact iteF h1

/-! operators by values, in handy forms -/
section
variable {X : Cx}
theorem op_eqB : OpR X (compareOp .Eq) (fun x y H Q => ∃ a b : Bool, x = .bl a ∧ y = .bl b ∧ Q (.bl (a == b)) H) := by
  intro pins s σ H x y v u Q I rx ry h
  obtain ⟨a, b, rfl, rfl, q⟩ := h
  refine op_eq pins s σ H _ _ v u Q I rx ry ⟨rfl, ?_⟩
  have : decide (V.bl a = V.bl b) = (a == b) := by cases a <;> cases b <;> rfl
  rw [this]; exact q
theorem op_neB : OpR X (compareOp .NotEq) (fun x y H Q => ∃ a b : Bool, x = .bl a ∧ y = .bl b ∧ Q (.bl (a != b)) H) := by
  intro pins s σ H x y v u Q I rx ry h
  obtain ⟨a, b, rfl, rfl, q⟩ := h
  refine op_ne pins s σ H _ _ v u Q I rx ry ⟨rfl, ?_⟩
  have : (!decide (V.bl a = V.bl b)) = (a != b) := by cases a <;> cases b <;> rfl
  rw [this]; exact q
def rLenL (K : PySem.W.Frag) : List V → Hp → VK → Prop := fun xs H Q => ∃ p n ys, xs = [.ref p] ∧ SqL K H p ys ∧ ys.length = n ∧ Q (.int (n : Nat)) H
theorem call_lenL : CallR X (.builtin "len") (rLenL X.K) := by
  intro pins s σ H xs us Q I r h
  obtain ⟨p, n, ys, rfl, hp, rfl, q⟩ := h
  exact call_len_seq pins s σ H _ us Q I r ⟨p, ys, rfl, .inl hp, q⟩
def rLenT (K : PySem.W.Frag) : List V → Hp → VK → Prop := fun xs H Q => ∃ p n ys, xs = [.ref p] ∧ SqT K H p ys ∧ ys.length = n ∧ Q (.int (n : Nat)) H
theorem call_lenT : CallR X (.builtin "len") (rLenT X.K) := by
  intro pins s σ H xs us Q I r h
  obtain ⟨p, n, ys, rfl, hp, rfl, q⟩ := h
  exact call_len_seq pins s σ H _ us Q I r ⟨p, ys, rfl, .inr hp, q⟩
def rListL (K : PySem.W.Frag) : List V → Hp → VK → Prop := fun xs H Q => ∃ p ys, xs = [.ref p] ∧ (SqL K H p ys ∨ SqT K H p ys) ∧ ∀ l, H l = none → Q (.ref l) (upd H l (.lst ys))
theorem call_listL : CallR X (.type "list") (rListL X.K) := call_list_of
theorem call_minI (hc : X.calm = true) : CallR X (.builtin "min") (fun xs H Q => ∃ i j : Int, xs = [.int i, .int j] ∧ Q (.int (min i j)) H) := by
  intro pins s σ H xs us Q I r h
  obtain ⟨i, j, rfl, q⟩ := h
  refine call_min2 hc pins s σ H _ us Q I r ⟨i, j, rfl, ?_⟩
  have : (if j < i then j else i) = min i j := by
    by_cases h : j < i
    · rw [if_pos h]; omega
    · rw [if_neg h]; omega
  rw [this]; exact q
theorem call_maxI (hc : X.calm = true) : CallR X (.builtin "max") (fun xs H Q => ∃ i j : Int, xs = [.int i, .int j] ∧ Q (.int (max i j)) H) := by
  intro pins s σ H xs us Q I r h
  obtain ⟨i, j, rfl, q⟩ := h
  refine call_max2 hc pins s σ H _ us Q I r ⟨i, j, rfl, ?_⟩
  have : (if j > i then j else i) = max i j := by
    by_cases h : j > i
    · rw [if_pos h]; omega
    · rw [if_neg h]; omega
  rw [this]; exact q
theorem call_absI : CallR X (.builtin "abs") (fun xs H Q => ∃ i : Int, xs = [.int i] ∧ Q (.int (i.natAbs : Nat)) H) := by
  intro pins s σ H xs us Q I r h
  obtain ⟨i, rfl, q⟩ := h
  refine call_abs pins s σ H _ us Q I r ⟨i, rfl, ?_⟩
  have : (if i < 0 then -i else i) = (i.natAbs : Int) := by
    by_cases h : i < 0
    · rw [if_pos h]; omega
    · rw [if_neg h]; omega
  rw [this]; exact q
theorem pe_bmK {K : PySem.W.Frag} {e : Expr} {T : String} {r : V → List V → Hp → VK → Prop} {to : TE} {t : TA} (h : PE X e (tBM X.K T r to t)) (hk : X.K = K := by rfl) : PE X e (tBM K T r to t) := by subst hk; exact h
/-- comparisons, told in two ways -/
theorem op_ltS : OpR X (compareOp .Lt) (fun x y H Q => ∃ i j : Int, x = .int i ∧ y = .int j ∧ (i < j → Q (.bl true) H) ∧ (¬ i < j → Q (.bl false) H)) := by
  intro pins s σ H x y v u Q I rx ry h
  obtain ⟨i, j, rfl, rfl, q1, q2⟩ := h
  refine op_lt pins s σ H _ _ v u Q I rx ry ⟨i, j, rfl, rfl, ?_⟩
  show Q (V.bl (decide (i < j))) H
  by_cases h : i < j
  · rw [decide_eq_true h]; exact q1 h
  · rw [decide_eq_false h]; exact q2 h
theorem op_leS : OpR X (compareOp .LtE) (fun x y H Q => ∃ i j : Int, x = .int i ∧ y = .int j ∧ (i ≤ j → Q (.bl true) H) ∧ (¬ i ≤ j → Q (.bl false) H)) := by
  intro pins s σ H x y v u Q I rx ry h
  obtain ⟨i, j, rfl, rfl, q1, q2⟩ := h
  refine op_le pins s σ H _ _ v u Q I rx ry ⟨i, j, rfl, rfl, ?_⟩
  show Q (V.bl (decide (i ≤ j))) H
  by_cases h : i ≤ j
  · rw [decide_eq_true h]; exact q1 h
  · rw [decide_eq_false h]; exact q2 h
theorem op_gtS : OpR X (compareOp .Gt) (fun x y H Q => ∃ i j : Int, x = .int i ∧ y = .int j ∧ (j < i → Q (.bl true) H) ∧ (¬ j < i → Q (.bl false) H)) := by
  intro pins s σ H x y v u Q I rx ry h
  obtain ⟨i, j, rfl, rfl, q1, q2⟩ := h
  refine op_gt pins s σ H _ _ v u Q I rx ry ⟨i, j, rfl, rfl, ?_⟩
  show Q (V.bl (decide (j < i))) H
  by_cases h : j < i
  · rw [decide_eq_true h]; exact q1 h
  · rw [decide_eq_false h]; exact q2 h
theorem op_geS : OpR X (compareOp .GtE) (fun x y H Q => ∃ i j : Int, x = .int i ∧ y = .int j ∧ (j ≤ i → Q (.bl true) H) ∧ (¬ j ≤ i → Q (.bl false) H)) := by
  intro pins s σ H x y v u Q I rx ry h
  obtain ⟨i, j, rfl, rfl, q1, q2⟩ := h
  refine op_ge pins s σ H _ _ v u Q I rx ry ⟨i, j, rfl, rfl, ?_⟩
  show Q (V.bl (decide (j ≤ i))) H
  by_cases h : j ≤ i
  · rw [decide_eq_true h]; exact q1 h
  · rw [decide_eq_false h]; exact q2 h
theorem int_dec {i j : Int} : decide (V.int i = V.int j) = decide (i = j) := by
  by_cases h : i = j
  · subst h; rw [decide_eq_true rfl, decide_eq_true rfl]
  · rw [decide_eq_false h, decide_eq_false fun z => h (V.int.inj z)]
theorem op_eqS : OpR X (compareOp .Eq) (fun x y H Q => ∃ i j : Int, x = .int i ∧ y = .int j ∧ (i = j → Q (.bl true) H) ∧ (¬ i = j → Q (.bl false) H)) := by
  intro pins s σ H x y v u Q I rx ry h
  obtain ⟨i, j, rfl, rfl, q1, q2⟩ := h
  refine op_eq pins s σ H _ _ v u Q I rx ry ⟨rfl, ?_⟩
  rw [int_dec]
  by_cases h : i = j
  · rw [decide_eq_true h]; exact q1 h
  · rw [decide_eq_false h]; exact q2 h
theorem op_neS : OpR X (compareOp .NotEq) (fun x y H Q => ∃ i j : Int, x = .int i ∧ y = .int j ∧ (¬ i = j → Q (.bl true) H) ∧ (i = j → Q (.bl false) H)) := by
  intro pins s σ H x y v u Q I rx ry h
  obtain ⟨i, j, rfl, rfl, q1, q2⟩ := h
  refine op_ne pins s σ H _ _ v u Q I rx ry ⟨rfl, ?_⟩
  rw [int_dec]
  by_cases h : i = j
  · rw [decide_eq_true h]; exact q2 h
  · rw [decide_eq_false h]; exact q1 h
/-- a truth, told in two ways: as a test, as a value -/
def tBS (t : TE) : TT := fun σ H Q => t σ H fun x H1 => ∃ b, x = .bl b ∧ (b = true → Q true H1) ∧ (b = false → Q false H1)
theorem pt_valS {e : Expr} {t : TE} (h : PE X e t) (he : ∀ whole, isTrue e X.env whole = (do let v ← whole; standAt e.pos; holding [v] (truthy v)) := by intro _; rfl) : PT X e (tBS t) := by
  refine ⟨fun pins s σ H Q I hw => ?_⟩
  refine isTrue_plain (thn (h.run pins s σ H _ I hw) fun v s1 ⟨x, H1, I1, r1, q1⟩ => ?_) (he _)
  obtain ⟨d, rfl, q1, q2⟩ := q1
  cases r1
  refine wpAny_truthy_bool ⟨H1, I1, ?_⟩
  cases d with
  | true => exact q1 rfl
  | false => exact q2 rfl
/-- an operator whose answer is a truth, told in two ways -/
theorem opS {f : Value → Value → Sem Value} {r : R2} (h : OpR X f r) : OpR X f (fun x y H Q => r x y H fun z H1 => ∃ b, z = .bl b ∧ (b = true → Q (.bl true) H1) ∧ (b = false → Q (.bl false) H1)) := by
  intro pins s σ H x y v u Q I rx ry q
  refine thn (h pins s σ H x y v u _ I rx ry q) fun w s1 ⟨z, H1, I1, r1, q1⟩ => ?_
  obtain ⟨d, rfl, q1, q2⟩ := q1
  refine ⟨.bl d, H1, I1, r1, ?_⟩
  cases d with
  | true => exact q1 rfl
  | false => exact q2 rfl
/-- and, or, not as values, of truths told in two ways -/
def tSplE (t : TE) : TE := fun σ H Q => t σ H fun x H1 => ∃ b, x = .bl b ∧ (b = true → Q (.bl true) H1) ∧ (b = false → Q (.bl false) H1)
theorem pe_splS {e : Expr} {t : TE} (h : PE X e t) : PE X e (tSplE t) := by
  refine ⟨fun pins s σ H Q I hw => thn (h.run pins s σ H _ I hw) fun v s1 ⟨x, H1, I1, r1, q1⟩ => ?_⟩
  obtain ⟨d, rfl, q1, q2⟩ := q1
  refine ⟨.bl d, H1, I1, r1, ?_⟩
  cases d with
  | true => exact q1 rfl
  | false => exact q2 rfl
/-- a power of written numbers, told as a number -/
theorem op_powL : OpR X (binaryOp .Pow) (fun x y H Q => ∃ i j k : Int, x = .int i ∧ y = .int j ∧ CPow i j ∧ i ^ j.toNat = k ∧ Q (.int k) H) := by
  intro pins s σ H x y v u Q I rx ry h
  obtain ⟨i, j, k, rfl, rfl, hc, rfl, q⟩ := h
  exact op_pow pins s σ H _ _ v u Q I rx ry ⟨i, j, rfl, rfl, hc, q⟩
/-- xs[i], read for an augmented store -/
theorem get_list : PGet X (rIxL X.K) := by
  intro pins s σ H o i ov iv Q I ro ri h
  obtain ⟨p, xs, k, z, rfl, rfl, hq, he, q⟩ := h
  cases ro
  obtain ⟨tk, rfl⟩ := ri
  obtain ⟨its, vr, pl, hz⟩ := I.list hq
  obtain ⟨j, h1, h2, h3, h4, h5⟩ := atI_get he
  obtain ⟨w, ew, rw'⟩ := vr.get h2
  have hl := vr.length
  have hn := line63
  have fin : EP X pins σ Q w s := ⟨z, H, I, rw', q⟩
  by_cases h0 : 0 ≤ k
  · have hj : k.toNat = j := by
      rw [seqIndex_of h0 h5] at h1; exact Option.some.inj h1
    exact wpAny_mono (wpAny_getItem_list (Q := fun r s' => r = w ∧ EP X pins σ Q r s') pl.isList h0 (by omega) (by rw [hj]; simpa using ew) ⟨rfl, fin⟩) (fun _ _ z => z.2) fun _ _ z => z
  · have hj : (k + (its.toArray.size : Int)).toNat = j := by
      rw [seqIndex_neg (by omega) h4] at h1
      rw [List.size_toArray, ← hl]; exact Option.some.inj h1
    exact wpAny_mono (wpAny_getItem_list_neg (Q := fun r s' => r = w ∧ EP X pins σ Q r s') pl.isList (by omega) (by rw [List.size_toArray] <;> omega) (by omega) (by rw [hj]; simpa using ew) ⟨rfl, fin⟩) (fun _ _ z => z.2) fun _ _ z => z
end
end Rc
namespace Rc
open PySem PySem.Spec PyProof.Rows L2

section
variable {H0 H H' : Hp} {own : List (Addr × HO)} {p : Addr} {o : HO}
theorem Fr.n0 (f : Fr H0 H ((p, o) :: own)) : H0 p = none := (f.frs _ List.mem_cons_self).1
theorem Fr.n1 {a : Addr × HO} (f : Fr H0 H (a :: (p, o) :: own)) : H0 p = none := f.up1.n0
theorem Fr.n2 {a b : Addr × HO} (f : Fr H0 H (a :: b :: (p, o) :: own)) : H0 p = none := f.up2.n0
end
/-- the k-th of what is own -/
theorem getElem?_perm {α : Type} : ∀ {l : List α} {k : Nat} {x : α}, l[k]? = some x → l.Perm (x :: l.eraseIdx k)
  | [], _, _, h => by simp at h
  | y :: l, 0, x, h => by cases (Option.some.inj h); exact List.Perm.refl _
  | y :: l, k + 1, x, h => ((getElem?_perm (l := l) (k := k) h).cons y).trans (List.Perm.swap _ _ _)
section
variable {H0 H H' : Hp} {own : List (Addr × HO)} {p : Addr} {o o' : HO}
theorem Fr.atk (f : Fr H0 H own) (k : Nat) (h : own[k]? = some (p, o)) : H p = some o := f.mem (List.mem_of_getElem? h)
theorem Fr.upk {x : Addr × HO} (f : Fr H0 H own) (k : Nat) (h : own[k]? = some x) : Fr H0 H (x :: own.eraseIdx k) := f.perm (getElem?_perm h)
theorem Fr.dk (f : Fr H0 H own) (k : Nat) : Fr H0 H (own.eraseIdx k) := f.sub (List.eraseIdx_sublist _ _)
theorem set_perm {α : Type} : ∀ {l : List α} {k : Nat} {x y : α}, l[k]? = some x → (y :: l.eraseIdx k).Perm (l.set k y)
  | [], _, _, _, h => by simp at h
  | z :: l, 0, x, y, h => List.Perm.refl _
  | z :: l, k + 1, x, y, h => (List.Perm.swap _ _ _).trans ((set_perm (l := l) (k := k) (y := y) h).cons z)
theorem Fr.wrk {o'' : HO} (f : Fr H0 H own) (k : Nat) (h : own[k]? = some (p, o)) (e : o' = o'') : Fr H0 (upd H p o') (own.set k (p, o'')) := by
  subst e
  exact ((f.upk k h).wr (o' := o')).perm (set_perm h)
end
theorem ndT {c : Prop} [Decidable c] (h : ¬ c) : (!decide c) = true := by rw [decide_eq_false h]; rfl
theorem ndF {c : Prop} [Decidable c] (h : c) : (!decide c) = false := by rw [decide_eq_true h]; rfl
theorem of_nd {c : Prop} [Decidable c] (h : (!decide c) = false) : c := by
  by_cases z : c
  · exact z
  · rw [decide_eq_false z] at h; cases h
theorem not_of_nd {c : Prop} [Decidable c] (h : (!decide c) = true) : ¬ c := fun z => by rw [decide_eq_true z] at h; cases h
theorem bnotT {b : Bool} (h : (!b) = true) : b = false := by cases b with | true => cases h | false => rfl
theorem bnotF {b : Bool} (h : (!b) = false) : b = true := by cases b with | true => rfl | false => cases h
theorem iteBN {b : Bool} {A B : Prop} (h1 : b = false → A) (h2 : b = true → B) : if (!b) = true then A else B := by
  cases b with
  | false => exact iteT (h1 rfl)
  | true => exact iteF (h2 rfl)
theorem hu64 {A : Around} {k : Nat} (hr : Room k A) : A.units + 64 < cLine := by have := hr.un; omega

/-! what is walked, with typed contents -/
section
variable {α β : Type} {K : PySem.W.Frag} {a b : Addr}
theorem walkR {n : Nat} : Walk (Itr 0 n) n (fun _ => True) (fun i H x H' => H' = H ∧ x = .int (i : Nat)) :=
  walk_range.mono (fun _ h => h) fun i H x H' _ _ y => ⟨y.1, by rw [y.2]; exact congrArg V.int (Int.zero_add _)⟩
theorem walkL (f : α → V) (ns : List α) : Walk (Itl K a) ns.length (fun H => H a = some (.lst (ns.map f))) (fun i H x H' => H' = H ∧ ∃ y, ns[i]? = some y ∧ x = f y) := by
  have w := walk_list (K := K) (a := a) (xs := ns.map f)
  rw [List.length_map] at w
  refine w.mono (fun H h => SqL.of h) fun i H x H' _ _ y => ⟨y.1, ?_⟩
  have e := y.2
  rw [List.getElem?_map] at e
  cases h : ns[i]? with
  | none => rw [h] at e; cases e
  | some z => rw [h] at e; exact ⟨z, rfl, (Option.some.inj e).symm⟩
theorem walkV (ns : List V) : Walk (Itl K a) ns.length (fun H => H a = some (.lst ns)) (fun i H x H' => H' = H ∧ ns[i]? = some x) :=
  walk_list.mono (fun H h => SqL.of h) fun i H x H' _ _ y => y
theorem walkRv (f : α → V) (ns : List α) : Walk (Itv K a (ns.map f).length) ns.length (fun H => H a = some (.lst (ns.map f))) (fun i H x H' => H' = H ∧ ∃ y, ns[ns.length - 1 - i]? = some y ∧ x = f y) := by
  have w := walk_rev (K := K) (a := a) (xs := ns.map f)
  rw [List.length_map] at w ⊢
  refine w.mono (fun H h => SqL.of h) fun i H x H' _ _ y => ⟨y.1, ?_⟩
  have e := y.2
  rw [List.getElem?_map] at e
  cases h : ns[ns.length - 1 - i]? with
  | none => rw [h] at e; cases e
  | some z => rw [h] at e; exact ⟨z, rfl, (Option.some.inj e).symm⟩
theorem walkE (f : α → V) (ns : List α) : Walk (Ite K a) ns.length (fun H => H a = some (.lst (ns.map f)))
    (fun i H x H' => ∃ T y, x = .ref T ∧ H T = none ∧ H' = upd H T (.tup [.int (i : Nat), f y]) ∧ ns[i]? = some y) := by
  have w := walk_enum (K := K) (a := a) (xs := ns.map f)
  rw [List.length_map] at w
  refine w.mono (fun H h => SqL.of h) fun i H x H' _ _ y => ?_
  obtain ⟨T, u, v, h1, h2, h3, h4, h5⟩ := y
  cases h4
  replace h5 : (ns.map f)[i]? = some v := h5
  rw [List.getElem?_map] at h5
  cases h : ns[i]? with
  | none => rw [h] at h5; cases h5
  | some z => rw [h] at h5; cases (Option.some.inj h5); exact ⟨T, z, h1, h2, h3, rfl⟩
theorem walkZ (f : α → V) (g : β → V) (ns : List α) (ms : List β) : Walk (Itz K a b) (min ns.length ms.length) (fun H => H a = some (.lst (ns.map f)) ∧ H b = some (.lst (ms.map g)))
    (fun i H x H' => ∃ T y z, x = .ref T ∧ H T = none ∧ H' = upd H T (.tup [f y, g z]) ∧ ns[i]? = some y ∧ ms[i]? = some z) := by
  have w := walk_zip (K := K) (a := a) (b := b) (xs := ns.map f) (ys := ms.map g) (n := min ns.length ms.length) (by rw [List.length_map, List.length_map])
  refine w.mono (fun H h => ⟨SqL.of h.1, SqL.of h.2⟩) fun i H x H' _ _ y => ?_
  obtain ⟨T, u, v, h1, h2, h3, h4, h5⟩ := y
  replace h4 : (ns.map f)[i]? = some u := h4
  replace h5 : (ms.map g)[i]? = some v := h5
  rw [List.getElem?_map] at h4 h5
  cases h : ns[i]? with
  | none => rw [h] at h4; cases h4
  | some z =>
    cases h' : ms[i]? with
    | none => rw [h'] at h5; cases h5
    | some z' =>
      rw [h] at h4; rw [h'] at h5
      cases (Option.some.inj h4); cases (Option.some.inj h5)
      exact ⟨T, z, z', h1, h2, h3, rfl, rfl⟩
end

theorem map_c {α : Type} (xs : List α) (c : Int) : xs.map (fun _ => c) = List.replicate xs.length c := by
  induction xs with
  | nil => rfl
  | cons x xs ih => rw [List.map_cons, ih]; rfl
/-! comprehensions: one turn -/
section
variable {α β : Type} {enc : β → V} {f : α → β} {ns : List α} {i : Nat} {y : α}
theorem take_next (h : ns[i]? = some y) : ns.take (i + 1) = ns.take i ++ [y] := by rw [List.take_add_one, h]; rfl
theorem lc_l (h : ns[i]? = some y) : HO.lst ((((ns.take i).map f).map enc) ++ [enc (f y)]) = .lst (((ns.take (i + 1)).map f).map enc) := by
  rw [take_next h, List.map_append, List.map_append]; rfl
theorem lc_l_t {p : α → Bool} (h : ns[i]? = some y) (hp : p y = true) : HO.lst (((((ns.take i).filter p).map f).map enc) ++ [enc (f y)]) = .lst ((((ns.take (i + 1)).filter p).map f).map enc) := by
  rw [take_next h, List.filter_append, List.map_append, List.map_append, List.filter_cons_of_pos hp]; rfl
theorem lc_l_f {p : α → Bool} (h : ns[i]? = some y) (hp : p y = false) : HO.lst ((((ns.take i).filter p).map f).map enc) = .lst ((((ns.take (i + 1)).filter p).map f).map enc) := by
  rw [take_next h, List.filter_append, List.filter_cons_of_neg (by rw [hp]; exact Bool.false_ne_true)]; simp
theorem lc_r (f : Nat → β) (i : Nat) : HO.lst ((((List.range i).map f).map enc) ++ [enc (f i)]) = .lst (((List.range (i + 1)).map f).map enc) := by
  rw [List.range_succ, List.map_append, List.map_append]; rfl
theorem lc_r_t {f : Nat → β} {p : Nat → Bool} (hp : p i = true) : HO.lst (((((List.range i).filter p).map f).map enc) ++ [enc (f i)]) = .lst ((((List.range (i + 1)).filter p).map f).map enc) := by
  rw [List.range_succ, List.filter_append, List.map_append, List.map_append, List.filter_cons_of_pos hp]; rfl
theorem lc_r_f {f : Nat → β} {p : Nat → Bool} (hp : p i = false) : HO.lst ((((List.range i).filter p).map f).map enc) = .lst ((((List.range (i + 1)).filter p).map f).map enc) := by
  rw [List.range_succ, List.filter_append, List.filter_cons_of_neg (by rw [hp]; exact Bool.false_ne_true)]; simp
end

/-! whiles by a measure -/
theorem while_m {c : TT} {tb : TS} {D : Ends} {σ : L2.St} {H : Hp} (W : Nat → L2.St → Hp → Prop) (h0 : ∃ m, W m σ H)
    (hs : ∀ m σ H, W m σ H → c σ H fun b H1 => if b = true then ∃ N : L2.St → Hp → Prop, (∀ σ' H', N σ' H' → ∃ m', m' < m ∧ W m' σ' H') ∧ tb { D with nx := N, ct := N, bk := D.nx } σ H1 else D.nx σ H1) : tWhile c tb D σ H := ⟨W, h0, hs⟩

/-! pop(i) -/
theorem popix {n : Nat} {i : Int} (h0 : 0 ≤ i) (h1 : i < (n : Int)) {α β : Type} {f : α → β} {xs : List α} (hn : n = xs.length := by rfl) : seqIndex? i (xs.map f).length = some i.toNat := by
  subst hn; rw [List.length_map]; exact seqIndex_of h0 h1
theorem popat {α : Type} {f : α → V} {xs : List α} {k : Nat} (d : α) (h : k < xs.length) : (xs.map f)[k]? = some (f (xs.getD k d)) := by
  rw [List.getElem?_map, List.getElem?_eq_getElem h]; simp [List.getD, h]
theorem ixDm {α β : Type} {f : α → β} {xs : List α} {i : Int} (h0 : 0 ≤ i) (h1 : i < (xs.length : Int)) : ixN (xs.map f).length i = some i.toNat := by
  rw [List.length_map]; exact ixD h0 h1
theorem atV {xs : List V} {i : Int} (d : V) (h0 : 0 ≤ i) (h1 : i < (xs.length : Int)) : atI xs i = some (xs.getD i.toNat d) := by
  have := atD (f := fun v : V => v) d h0 h1
  rwa [List.map_id'] at this

/-! deep data -/
def dI (xs : List Int) : PyData := .list (xs.map PyData.int)
def dB (xs : List Bool) : PyData := .list (xs.map PyData.bool)
section
variable {K : PySem.W.Frag} {H : Hp} {a : Addr}
theorem dpAll {α : Type} {f : α → V} {g : α → PyData} (h : ∀ x, Dp K H (f x) (g x)) : ∀ xs : List α, DpAll K H (xs.map f) (xs.map g)
  | [] => .nil
  | x :: xs => .cons (h x) (dpAll h xs)
/-- a list, its depth by its items -/
theorem dp_ints {xs : List Int} (h : H a = some (.lst (xs.map V.int))) : Dp K H (.ref a) (dI xs) := .lst (SqL.of h) (dpAll (fun _ => .int _) xs)
theorem dp_bls {xs : List Bool} (h : H a = some (.lst (xs.map V.bl))) : Dp K H (.ref a) (dB xs) := .lst (SqL.of h) (dpAll (fun _ => .bl _) xs)
end
theorem canAll {α : Type} {g : α → PyData} (h : ∀ x, (g x).canLay0 = true) : ∀ xs : List α, PyData.canLayAll0 (xs.map g) = true
  | [] => rfl
  | x :: xs => by
    show ((g x).canLay0 && PyData.canLayAll0 (xs.map g)) = true
    rw [h x, canAll h xs]; rfl
theorem depthAll {α : Type} {g : α → PyData} {n : Nat} (h : ∀ x, (g x).depth ≤ n) : ∀ xs : List α, PyData.depthAll (xs.map g) ≤ n
  | [] => Nat.zero_le _
  | x :: xs => by
    show max (g x).depth (PyData.depthAll (xs.map g)) ≤ n
    have h1 := h x
    have h2 := depthAll h xs
    omega
/-- data of a depth of at most n, without texts -/
structure Okd (n : Nat) (d : PyData) : Prop where
  can : d.canLay0 = true
  dep : d.depth ≤ n
theorem Okd.sh {d : PyData} (h : Okd 9 d) : SeqAt.shaped d = true := by
  unfold SeqAt.shaped; rw [h.can, decide_eq_true (by have := h.dep; omega)]; rfl
theorem Okd.cn {d : PyData} (h : Okd 9 d) : d.canLay0 = true := h.can
section
variable {n : Nat}
theorem okd_ints (xs : List Int) : Okd (n + 1) (dI xs) := ⟨canAll (fun _ => rfl) xs, Nat.succ_le_succ (Nat.le_trans (depthAll (n := 0) (fun _ => Nat.le_refl _) xs) (Nat.zero_le _))⟩
theorem okd_bls (xs : List Bool) : Okd (n + 1) (dB xs) := ⟨canAll (fun _ => rfl) xs, Nat.succ_le_succ (Nat.le_trans (depthAll (n := 0) (fun _ => Nat.le_refl _) xs) (Nat.zero_le _))⟩
theorem okd_int {i : Int} : Okd n (.int i) := ⟨rfl, Nat.zero_le _⟩
theorem okd_bl {b : Bool} : Okd n (.bool b) := ⟨rfl, Nat.zero_le _⟩
theorem okd_non : Okd n .none := ⟨rfl, Nat.zero_le _⟩
theorem okl_nil : Okd (n + 1) (.list []) := ⟨rfl, Nat.succ_le_succ (Nat.zero_le _)⟩
theorem okl_cons {d : PyData} {ds : List PyData} (h : Okd n d) (h' : Okd (n + 1) (.list ds)) : Okd (n + 1) (.list (d :: ds)) := by
  obtain ⟨c, p⟩ := h; obtain ⟨c', p'⟩ := h'
  have e1 : PyData.canLayAll0 ds = true := c'
  have e2 : PyData.depthAll ds + 1 ≤ n + 1 := p'
  refine ⟨?_, ?_⟩
  · show (d.canLay0 && PyData.canLayAll0 ds) = true
    rw [c, e1]; rfl
  · show max d.depth (PyData.depthAll ds) + 1 ≤ n + 1
    omega
theorem okt_nil : Okd (n + 1) (.tuple []) := ⟨rfl, Nat.succ_le_succ (Nat.zero_le _)⟩
theorem okt_cons {d : PyData} {ds : List PyData} (h : Okd n d) (h' : Okd (n + 1) (.tuple ds)) : Okd (n + 1) (.tuple (d :: ds)) := by
  have q := okl_cons h (show Okd (n + 1) (.list ds) from ⟨h'.can, h'.dep⟩)
  exact ⟨q.can, q.dep⟩
end
section
variable {X : Cx}
/-- == of deep data, the answer told -/
def rEqX (K : PySem.W.Frag) : R2 := fun x y H Q => ∃ (d e : PyData) (b : Bool), Dp K H x d ∧ Dp K H y e ∧ SeqAt.shaped d = true ∧ SeqAt.shaped e = true ∧ PyData.eqv d e = b ∧ Q (.bl b) H
def rNeX (K : PySem.W.Frag) : R2 := fun x y H Q => ∃ (d e : PyData) (b : Bool), Dp K H x d ∧ Dp K H y e ∧ SeqAt.shaped d = true ∧ SeqAt.shaped e = true ∧ PyData.eqv d e = b ∧ Q (.bl (!b)) H
theorem op_eqX (hu : X.A.units + 64 < cLine) : OpR X (compareOp .Eq) (rEqX X.K) := by
  intro pins s σ H x y v u Q I rx ry h
  obtain ⟨d, e, b, h1, h2, h3, h4, rfl, q⟩ := h
  exact op_eqD hu pins s σ H x y v u Q I rx ry ⟨d, e, h1, h2, h3, h4, q⟩
theorem op_neX (hu : X.A.units + 64 < cLine) : OpR X (compareOp .NotEq) (rNeX X.K) := by
  intro pins s σ H x y v u Q I rx ry h
  obtain ⟨d, e, b, h1, h2, h3, h4, rfl, q⟩ := h
  exact op_neD hu pins s σ H x y v u Q I rx ry ⟨d, e, h1, h2, h3, h4, q⟩
end
/-- range(0, m, c), c from 1 on -/
theorem rgc_up {m c : Int} {n : Nat} (h0 : -(2 ^ 40) ≤ m) (h1 : m < 2 ^ 40) (hc : 0 < c) (hc' : c < 100000000) (hn : (n : Int) = if 0 < m then (m - 1) / c + 1 else 0) : RgC 0 m c n := by
  have hs : Builtin.Range.rangeSize 0 m c = n := by
    unfold Builtin.Range.rangeSize
    rw [if_pos (by omega), hn, Int.sub_zero]
  refine ⟨by omega, by omega, ?_, hs⟩
  have e2 : 0 < m → 0 ≤ (m - 1) / c := fun h => Int.ediv_nonneg (by omega) (by omega)
  have e3 : 0 < m → (m - 1) / c ≤ m - 1 := fun h => Int.ediv_le_self _ (by omega)
  unfold Builtin.Range.small
  rw [hs, hn]
  generalize (m - 1) / c = q at *
  simp only [Builtin.Range.rangeFitsLong, Bool.and_eq_true, Bool.or_eq_true, decide_eq_true_eq, beq_iff_eq]
  split
  · rename_i hm
    have := e2 hm
    have := e3 hm
    refine ⟨by omega, .inr ?_⟩
    rw [Bool.and_eq_true, decide_eq_true_eq, decide_eq_true_eq]
    omega
  · refine ⟨by omega, .inl rfl⟩
/-- .. with a step of two -/
theorem rgc2 {m : Int} (h0 : 0 ≤ m) (h1 : m < 2 ^ 40) : RgC 0 m 2 (Int.toNat ((m + 1) / 2)) := by
  refine rgc_up (by omega) h1 (by decide) (by decide) ?_
  split <;> omega
theorem rgc3 {m : Int} (h0 : 0 ≤ m) (h1 : m < 2 ^ 40) : RgC 0 m 3 (Int.toNat ((m + 2) / 3)) := by
  refine rgc_up (by omega) h1 (by decide) (by decide) ?_
  split <;> omega
theorem rgc4 {m : Int} (h0 : 0 ≤ m) (h1 : m < 2 ^ 40) : RgC 0 m 4 (Int.toNat ((m + 3) / 4)) := by
  refine rgc_up (by omega) h1 (by decide) (by decide) ?_
  split <;> omega
theorem rgc5 {m : Int} (h0 : 0 ≤ m) (h1 : m < 2 ^ 40) : RgC 0 m 5 (Int.toNat ((m + 4) / 5)) := by
  refine rgc_up (by omega) h1 (by decide) (by decide) ?_
  split <;> omega
theorem eqvAll_map {α : Type} [DecidableEq α] {g : α → PyData} (h : ∀ x y, PyData.eqv (g x) (g y) = decide (x = y)) : ∀ xs ys : List α, PyData.eqvAll (xs.map g) (ys.map g) = decide (xs = ys)
  | [], [] => rfl
  | [], _ :: _ => rfl
  | _ :: _, [] => rfl
  | x :: xs, y :: ys => by
    show (PyData.eqv (g x) (g y) && PyData.eqvAll (xs.map g) (ys.map g)) = _
    rw [h, eqvAll_map h xs ys]
    by_cases e : x = y
    · subst e
      by_cases e' : xs = ys
      · subst e'; simp
      · simp [e']
    · simp [e]
theorem eqv_ints (xs ys : List Int) : PyData.eqv (dI xs) (dI ys) = decide (xs = ys) :=
  eqvAll_map (fun x y => by show (x == y) = _; exact Bool.beq_eq_decide_eq x y) xs ys
theorem eqv_bls (xs ys : List Bool) : PyData.eqv (dB xs) (dB ys) = decide (xs = ys) :=
  eqvAll_map (fun x y => by show (x == y) = _; cases x <;> cases y <;> rfl) xs ys

/-! list.index of an int that is there -/
theorem flat_ints : ∀ xs : List Int, (xs.map V.int).all flatV = true
  | [] => rfl
  | _ :: xs => flat_ints xs
theorem ix_get {xs : List Int} {y : Int} (h : y ∈ xs) : (xs.map V.int)[xs.idxOf y]? = some (V.int y) := by
  rw [List.getElem?_map, List.getElem?_eq_getElem (List.idxOf_lt_length_of_mem h), List.getElem_idxOf]; rfl
theorem ix_eqv {y : Int} : eqV (V.int y) (V.int y) = true := by show (y == y) = true; exact beq_self_eq_true y
theorem ix_first (xs : List Int) (y : Int) : ∀ (m : Nat) (z : V), m < xs.idxOf y → (xs.map V.int)[m]? = some z → eqV z (V.int y) = false := fun m z hm e => by
  rw [List.getElem?_map] at e
  cases h : xs[m]? with
  | none => rw [h] at e; cases e
  | some w =>
    rw [h] at e; cases (Option.some.inj e)
    show (w == y) = false
    have hl := (List.getElem?_eq_some_iff.mp h)
    obtain ⟨hl, rfl⟩ := hl
    have := List.not_of_lt_findIdx (p := (· == y)) (xs := xs) (i := m) hm
    simpa using this

/-! isinstance of any scalar -/
def is_int : V → Bool
  | .int _ => true
  | .bl _ => true
  | _ => false
def is_bool : V → Bool
  | .bl _ => true
  | _ => false
/-- the scalars -/
def sca : V → Bool
  | .non => true
  | .bl _ => true
  | .int _ => true
  | .str z => PyData.strOk z
  | _ => false
def tyName : V → String
  | .non => "NoneType"
  | .bl _ => "bool"
  | .int _ => "int"
  | _ => "str"
theorem tyx_val {K : PySem.W.Frag} {H : Hp} {x : V} (h : sca x = true) : TyX K H x (.type (tyName x)) := by
  cases x with
  | non => exact .base .non
  | bl b => exact .base (.bl b)
  | int i => exact .base (.int i)
  | str z => exact .base (.str z)
  | byt _ => cases h
  | flt _ => cases h
  | ref _ => cases h
  | ty _ => cases h
theorem kit_int {K : PySem.W.Frag} {x : V} (h : sca x = true) : PySem.W.kitOne K (.type (tyName x)) (.type "int") = some (is_int x) := by
  cases x with
  | non => exact kit_ty (show kitB "NoneType" "int" = some false by decide +kernel)
  | bl b => exact kit_ty (show kitB "bool" "int" = some true by decide +kernel)
  | int i => exact kit_ty (show kitB "int" "int" = some true by decide +kernel)
  | str z => exact kit_ty (show kitB "str" "int" = some false by decide +kernel)
  | byt _ => cases h
  | flt _ => cases h
  | ref _ => cases h
  | ty _ => cases h
theorem kit_bool {K : PySem.W.Frag} {x : V} (h : sca x = true) : PySem.W.kitOne K (.type (tyName x)) (.type "bool") = some (is_bool x) := by
  cases x with
  | non => exact kit_ty (show kitB "NoneType" "bool" = some false by decide +kernel)
  | bl b => exact kit_ty (show kitB "bool" "bool" = some true by decide +kernel)
  | int i => exact kit_ty (show kitB "int" "bool" = some false by decide +kernel)
  | str z => exact kit_ty (show kitB "str" "bool" = some false by decide +kernel)
  | byt _ => cases h
  | flt _ => cases h
  | ref _ => cases h
  | ty _ => cases h
/-! lists of scalars -/
def toD : V → PyData
  | .bl b => .bool b
  | .int i => .int i
  | .str z => .str z
  | _ => .none
def dV (xs : List V) : PyData := .list (xs.map toD)
def Sca (xs : List V) : Prop := ∀ v ∈ xs, sca v = true
theorem Sca.nil : Sca [] := fun _ h => nomatch h
theorem Sca.cons {x : V} {xs : List V} (h : sca x = true) (hs : Sca xs) : Sca (x :: xs) := fun v hv => by
  rcases List.mem_cons.mp hv with rfl | hv
  · exact h
  · exact hs v hv
theorem Sca.app {xs ys : List V} (h : Sca xs) (h' : Sca ys) : Sca (xs ++ ys) := fun v hv => by
  rcases List.mem_append.mp hv with hv | hv
  · exact h v hv
  · exact h' v hv
theorem Sca.ints (xs : List Int) : Sca (xs.map V.int) := fun v hv => by
  obtain ⟨x, _, rfl⟩ := List.mem_map.mp hv; rfl
theorem Sca.bls (xs : List Bool) : Sca (xs.map V.bl) := fun v hv => by
  obtain ⟨x, _, rfl⟩ := List.mem_map.mp hv; rfl
theorem Sca.getD {xs : List V} (h : Sca xs) {i : Nat} {d : V} (hi : i < xs.length) : sca (xs.getD i d) = true := h _ (getD_mem hi)
theorem dp_val {K : PySem.W.Frag} {H : Hp} {v : V} (h : sca v = true) : Dp K H v (toD v) := by
  cases v with
  | non => exact .non
  | bl b => exact .bl b
  | int i => exact .int i
  | str z => exact .str z
  | byt _ => cases h
  | flt _ => cases h
  | ref _ => cases h
  | ty _ => cases h
theorem dp_valAll {K : PySem.W.Frag} {H : Hp} : ∀ {xs : List V}, Sca xs → DpAll K H xs (xs.map toD)
  | [], _ => .nil
  | x :: xs, h => .cons (dp_val (h x List.mem_cons_self)) (dp_valAll fun v hv => h v (List.mem_cons_of_mem _ hv))
theorem dp_vals {K : PySem.W.Frag} {H : Hp} {a : Addr} {xs : List V} (h : H a = some (.lst xs)) (hs : Sca xs) : Dp K H (.ref a) (dV xs) := .lst (SqL.of h) (dp_valAll hs)
theorem can_val {v : V} (h : sca v = true) : (toD v).canLay0 = true := by
  cases v with
  | str z => exact h
  | _ => rfl
theorem okd_val {n : Nat} {v : V} (h : sca v = true) : Okd n (toD v) := ⟨can_val h, by cases v <;> exact Nat.zero_le _⟩
theorem okd_vals {n : Nat} {xs : List V} (hs : Sca xs) : Okd (n + 1) (dV xs) := by
  refine ⟨?_, ?_⟩
  · show PyData.canLayAll0 (xs.map toD) = true
    induction xs with
    | nil => rfl
    | cons x xs ih =>
      show ((toD x).canLay0 && PyData.canLayAll0 (xs.map toD)) = true
      rw [can_val (hs x List.mem_cons_self), ih fun v hv => hs v (List.mem_cons_of_mem _ hv)]; rfl
  · exact Nat.succ_le_succ (Nat.le_trans (depthAll (n := 0) (fun v => by cases v <;> exact Nat.zero_le _) xs) (Nat.zero_le _))
end Rc
namespace Rc
open PySem PySem.Spec PyProof.Rows L2 RT
section
variable {prog : Program} {w : World} {A : Around} {E : Value → Shared → Prop} {s : Shared}
abbrev nilO (c : Nat) : Obj := { cls := .type "list", data := .seq #[] c }
/-- list.extend with a list's reversed iterator, into a new list at S -/
theorem rev_extend {it l S : Addr} {items : Array Value} {R : Result → Shared → Prop} {res : Value} {c0 : Nat} (hh : A.handled = none) (hit : s.heap.IsRevIter it l ((items.size : Int) - 1)) (hl : s.heap.IsList l items) (hne : l ≠ it)
    (hSi : S ≠ it) (hSl : S ≠ l) (hS : s.heap.get? S = some (nilO c0)) (hn : items.size ≤ sizeLine)
    (hR : ∀ h' tk acc c', (∀ b o, b ≠ S → b ≠ it → s.heap.get? b = some o → h'.get? b = some o) → h'.get? S = some { cls := .type "list", dict := none, data := .seq acc c', slots := #[] } →
      ItemsOf (fun i v => items[items.size - 1 - i]? = some v) acc items.size → R (.ok (.ret res)) { s with heap := h', toks := tk }) :
    wpAny (model prog w) A.in1 (Builtin.List.listExtendWith (.ref S) (.ref it) res)
      (fun fin z => match fin with | .done f => R (.ok f) z | .again c => c.quiet = true ∧ codeAny (model prog w) A c R z) (fun e z => R (.error e) z) s := by
  have W := (Walks.listRev (prog := prog) (w := w) (A := A.in1) hh it l hne items).toS
  have hf : S ∉ [it, l] := fun z => by
    rcases List.mem_cons.mp z with z | z
    · exact hSi z
    · exact hSl (List.mem_singleton.mp z)
  have ty : s.TypeIs (.ref it) "list_reverseiterator" := hit.typeIs
  have h1 : Builtin.List.listSameRef (.ref S) (.ref it) = false := by simp [Builtin.List.listSameRef, hSi]
  have h2 : (Value.type "list_reverseiterator" == Value.type "list") = false := by decide
  have h3 : (Value.type "list_reverseiterator" == Value.type "tuple") = false := by decide
  unfold Builtin.List.listExtendWith
  refine wpAny_bind (wpAny_typeOf ty ?_)
  simp only [h1, h2, h3, Bool.or_false, Bool.false_eq_true, if_false]
  refine wpAny_bind (wpAny_pyIter_revIter hit ?_)
  refine wpAny_bind (wpAny_holding ?_); unfold Builtin.List.listLengthHint
  refine wpAny_bind (wpAny_specialOf ty nolen_lri ?_)
  show wpAny _ A.in1 (specialOf (Value.ref it) (Str.ofString "__length_hint__") >>= _) _ _ _
  refine wpAny_bind (wpAny_specialOf ty hint_lri ?_)
  generalize hid : ("list_reverseiterator.__length_hint__" : String) = id0
  wp_delta
  rw [show splitId id0 = some ("list_reverseiterator", "__length_hint__") from by subst hid; decide +kernel]
  subst hid
  refine wpAny_bind (wpAny_isInstance (b := true) ty (by rw [isSubtype_type]; kernel_rfl) ?_)
  refine wpAny_pure ?_; rw [if_neg (by decide)]
  have e0 : ((items.size : Nat) : Int) - 1 - ((0 : Nat) : Int) = (items.size : Int) - 1 := by omega
  refine wpAny_pure ⟨plainId_quiet F.plain_extend_loop _, codeAny_extend_loopS W hn _ hf _ items.size 0 _ _ _ rfl (Nat.zero_le _) ⟨Nat.zero_le _, by rw [e0]; exact hit, hl⟩ hS (ItemsOf.nil _) fun z acc c' hm hz hacc => ?_⟩
  rw [Moved.eq_with hm]
  refine hR z.heap z.toks acc c' (fun b o h1 h2 e => hm.heap b o (fun hmem => ?_) e) hz hacc
  rcases List.mem_cons.mp hmem with q | q
  · exact h1 q
  · exact h2 (List.mem_singleton.mp q)
theorem call_list_rev {it l : Addr} {items : Array Value} {Q : Value → Shared → Prop} (hh : A.handled = none) (hit : s.heap.IsRevIter it l ((items.size : Int) - 1)) (hl : s.heap.IsList l items) (hne : l ≠ it) (hn : items.size ≤ sizeLine)
    (hQ : ∀ h' tk acc c', (∀ b o, b ≠ it → s.heap.get? b = some o → h'.get? b = some o) → h'.get? s.heap.objs.size = some { cls := .type "list", dict := none, data := .seq acc c', slots := #[] } →
      ItemsOf (fun i v => items[items.size - 1 - i]? = some v) acc items.size → Q (.ref s.heap.objs.size) { s with heap := h', toks := tk }) :
    wpAny (model prog w) A (call (.type "list") [.ref it]) Q E s := by
  refine callType_codes (Q₁ := fun obj z => obj = .ref s.heap.objs.size ∧ z = { s with heap := s.heap.push (nilO 0) }) F.called_list (F.typeCall_list_1 _) F.entry_list_init
    (code_list_new _ ⟨rfl, rfl⟩) fun obj z hz => ?_
  obtain ⟨rfl, rfl⟩ := hz
  obtain ⟨oi, hoi, _⟩ := id hit
  obtain ⟨ol, hol, _⟩ := id hl
  have hS : (s.heap.push (nilO 0)).get? s.heap.objs.size = some (nilO 0) := Heap.get?_push_size _ rfl
  have ni : s.heap.objs.size ≠ it := Nat.ne_of_gt (Heap.lt_size hoi)
  have nl : s.heap.objs.size ≠ l := Nat.ne_of_gt (Heap.lt_size hol)
  refine ⟨⟨_, hS, rfl⟩, F.args_list_init_2 _ _, ?_⟩
  show wpAny _ A.in1.in1 (do let old ← Builtin.List.listItems (.ref s.heap.objs.size); Builtin.List.listUpdate (.ref s.heap.objs.size) (fun _ => #[]); letGo old.toList.reverse; Builtin.List.listExtendWith (.ref s.heap.objs.size) (.ref it) .none) _ _ _
  refine wpAny_bind ?_; unfold Builtin.List.listItems
  refine wpAny_bind (wpAny_seqItems hS rfl (wpAny_pure ?_))
  show wpAny _ _ (updateSeq s.heap.objs.size (fun _ => #[]) >>= fun _ => letGo (#[] : Array Value).toList.reverse >>= fun _ => Builtin.List.listExtendWith (.ref s.heap.objs.size) (.ref it) .none) _ _ _
  refine wpAny_bind (wpAny_updateSeq hS rfl ?_)
  have hS2 := Heap.get?_update_self (Obj.mapSeq (fun _ => (#[] : Array Value))) hS rfl
  have oth : ∀ b o, b ≠ s.heap.objs.size → s.heap.get? b = some o → ((s.heap.push (nilO 0)).update s.heap.objs.size (Obj.mapSeq (fun _ => (#[] : Array Value)))).get? b = some o :=
    fun b o hb e => (Heap.get?_update_other _ _ (Ne.symm hb)).trans (Heap.get?_push_of_some _ e)
  refine wpAny_bind (wpAny_letGo ?_)
  refine rev_extend (A := A.in1) (s := { s with heap := _ }) hh (hit.at fun o e => oth _ _ ni.symm e) (hl.at fun o e => oth _ _ nl.symm e) hne ni nl hS2 hn fun h' tk acc c' hk hz hacc => ⟨rfl, ?_⟩
  exact hQ h' tk acc c' (fun b o hb e => hk b o (Nat.ne_of_lt (Heap.lt_size e)) hb (oth b o (Nat.ne_of_lt (Heap.lt_size e)) e)) hz hacc
end
section
variable {X : Cx}
/-- list(reversed(x)), x a list: a new list -/
def tListRev (K : PySem.W.Frag) (te : TE) : TE := fun σ H Q => te σ H fun v H1 => ∃ (a : Addr) (xs : List V), v = .ref a ∧ SqL K H1 a xs ∧ ∀ q, H1 q = none → Q (.ref q) (upd H1 q (.lst xs.reverse))
theorem pe_listRev {e : Expr} {te : TE} {p p2 pos pos2 : Pos} (hc : X.calm = true) (hg : Gl X "list") (hm : X.mg "list" = none) (hg2 : Gl X "reversed") (hm2 : X.mg "reversed" = none) (he : PE X e te)
    (hs : starEach [e] X.env = (false, eval e X.env) :: starEach [] X.env := by rfl)
    (hs2 : starEach [.Call (.Name "reversed" p2) [e] [] pos2] X.env = (false, eval (.Call (.Name "reversed" p2) [e] [] pos2) X.env) :: starEach [] X.env := by rfl) :
    PE X (.Call (.Name "list" p) [.Call (.Name "reversed" p2) [e] [] pos2] [] pos) (tListRev X.K te) := by
  refine ⟨fun pins s σ H Q I h => Call_ (ld_blt I hg hm (show bootBuiltins ("list" : Str) = some (.type "list") by decide +kernel) (PyProof.Rows.callWith_type1 (args_cons (Call_ (ld_blt I hg2 hm2 PyProof.Rows.boot_reversed (PyProof.Rows.callWith_type1 (args_cons (thn (he.run pins s σ H _ I h) fun u s1 ⟨v, H1, I1, r1, q1⟩ => args_nil ?_) hs) hs rfl))) hs2) hs2 rfl))⟩
  obtain ⟨a, xs, ev, hq, q⟩ := q1
  subst ev; obtain rfl : u = Value.ref a := r1
  obtain ⟨its, rv, pl, hz⟩ := I1.list hq
  refine call_reversed_list pl.isList (args_nil ?_)
  have k0 : ∀ b o, s1.heap.get? b = some o → (s1.heap.push (revObj a ((its.toArray.size : Int) - 1))).get? b = some o := fun b o z => Heap.get?_push_of_some _ z
  have I2 : Inv X pins σ H1 { s1 with heap := s1.heap.push (revObj a ((its.toArray.size : Int) - 1)) } := I1.kept (t' := s1.toks) k0
  have hl := pl.isList
  obtain ⟨ol, hol, _⟩ := id hl
  have hne : a ≠ s1.heap.objs.size := Nat.ne_of_lt (Heap.lt_size hol)
  have hn : its.toArray.size ≤ sizeLine := by rw [List.size_toArray, ← rv.length]; exact hz
  have hf := I1.hok.fresh (Nat.le_refl s1.heap.objs.size)
  refine call_list_rev (s := { s1 with heap := s1.heap.push (revObj a ((its.toArray.size : Int) - 1)) }) (I1.ok.hd hc) ⟨_, Heap.get?_push_size _ rfl, rfl, rfl⟩ (hl.push _) hne hn fun h' tk acc c' hk hS hi => ?_
  have hsz : s1.heap.objs.size ≤ (s1.heap.push (revObj a ((its.toArray.size : Int) - 1))).objs.size := by rw [Heap.size_push]; omega
  have kk : ∀ b o, s1.heap.get? b = some o → h'.get? b = some o := fun b o z => hk b o (Nat.ne_of_lt (Heap.lt_size z)) (k0 b o z)
  refine ⟨.ref (s1.heap.push (revObj a ((its.toArray.size : Int) - 1))).objs.size, upd H1 (s1.heap.push (revObj a ((its.toArray.size : Int) - 1))).objs.size (.lst xs.reverse),
    I1.laid kk hsz (show ObjOk X.prog X.w _ _ _ (.lst xs.reverse) from ⟨by rw [List.length_reverse]; exact hz, acc.toList, c', vals_rev rv hi, ?_⟩), rfl, q _ (I1.hok.fresh hsz)⟩
  rw [Array.toArray_toList]
  exact hS
end
end Rc
namespace Rc
open PySem PySem.Spec PyProof.Rows L2

/-! rows: the lists of a list of lists, at the end of what is own -/
abbrev RI := Addr × List Int
def rowHO (r : RI) : Addr × HO := (r.1, .lst (r.2.map V.int))
def rowsOwn (rows : List RI) : List (Addr × HO) := rows.map rowHO
def rowRef (r : RI) : V := V.ref r.1
section
variable {H0 H H' : Hp} {own pre : List (Addr × HO)} {p : Addr} {o : HO} {rows : List RI}
theorem Fr.rowmem (f : Fr H0 H (pre ++ rowsOwn rows)) {r : RI} (h : r ∈ rows) : H r.1 = some (.lst (r.2.map V.int)) :=
  f.mem (List.mem_append_right _ (List.mem_map.mpr ⟨r, h, rfl⟩))
theorem Fr.rowat (f : Fr H0 H (pre ++ rowsOwn rows)) {i : Nat} (d : RI) (h : i < rows.length) : H (rows.getD i d).1 = some (.lst ((rows.getD i d).2.map V.int)) :=
  f.rowmem (getD_mem h)
/-- the front list becomes a row -/
theorem Fr.rowin {x : List Int} (f : Fr H0 H ((p, .lst (x.map V.int)) :: (pre ++ rowsOwn rows))) : Fr H0 H (pre ++ rowsOwn (rows ++ [(p, x)])) := by
  refine f.perm ?_
  have e : pre ++ rowsOwn (rows ++ [(p, x)]) = (pre ++ rowsOwn rows) ++ [(p, HO.lst (x.map V.int))] := by
    unfold rowsOwn; rw [List.map_append, List.append_assoc]; rfl
  rw [e]
  exact (List.perm_append_singleton _ _).symm
theorem set_sub {α : Type} : ∀ {l : List α} {i : Nat} {z : α}, i < l.length → ∃ l', (l.set i z).Perm (z :: l') ∧ l'.Sublist l
  | [], _, _, h => by simp at h
  | x :: l, 0, z, _ => ⟨l, List.Perm.refl _, List.sublist_cons_self _ _⟩
  | x :: l, i + 1, z, h => by
    obtain ⟨l', h1, h2⟩ := set_sub (l := l) (i := i) (z := z) (by simpa using h)
    exact ⟨x :: l', (h1.cons x).trans (List.Perm.swap _ _ _), h2.cons_cons x⟩
/-- the front list becomes the i-th row -/
theorem Fr.rowset {x : List Int} {i : Nat} (f : Fr H0 H ((p, .lst (x.map V.int)) :: (pre ++ rowsOwn rows))) (h : i < rows.length) : Fr H0 H (pre ++ rowsOwn (rows.set i (p, x))) := by
  obtain ⟨l', h1, h2⟩ := set_sub (z := ((p, x) : RI)) h
  have e1 : (rowsOwn (rows.set i (p, x))).Perm (rowHO (p, x) :: rowsOwn l') := h1.map rowHO
  have g : Fr H0 H ((p, .lst (x.map V.int)) :: (pre ++ rowsOwn l')) := f.sub (List.Sublist.cons_cons _ (List.Sublist.append (List.Sublist.refl _) (h2.map _)))
  refine g.perm ?_
  have e2 : ((p, HO.lst (x.map V.int)) :: (pre ++ rowsOwn l')).Perm (pre ++ ((p, HO.lst (x.map V.int)) :: rowsOwn l')) := List.perm_middle.symm
  exact e2.trans (List.Perm.append_left _ e1.symm)
theorem nodup_split {α β : Type} {f : α → β} {l : List α} {i : Nat} (hn : (l.map f).Nodup) (h : i < l.length) {j : Nat} (hj : j < l.length) (hne : j ≠ i) : f l[j] ≠ f l[i] := by
  intro e
  have h1 : (l.map f)[j]'(by simpa using hj) = (l.map f)[i]'(by simpa using h) := by simpa using e
  exact hne ((List.getElem_inj (h₀ := by simpa using hj) (h₁ := by simpa using h) hn).mp h1)
/-- a row is written -/
theorem Fr.rowwr {i : Nat} {y : List Int} (f : Fr H0 H (pre ++ rowsOwn rows)) (h : i < rows.length) : Fr H0 (upd H rows[i].1 (.lst (y.map V.int))) (pre ++ rowsOwn (rows.set i (rows[i].1, y))) := by
  obtain ⟨l', h1, h2⟩ := set_sub (z := ((rows[i].1, y) : RI)) h
  obtain ⟨l2, h3, h4⟩ := set_sub (z := rows[i]) h
  rw [List.set_getElem_self] at h3
  have hlen : l'.Perm l2 := by
    have a1 : (rows.set i (rows[i].1, y)).Perm ((rows[i].1, y) :: rows.eraseIdx i) := set_er h
    have a2 : rows.Perm (rows[i] :: rows.eraseIdx i) := by
      have := set_er (l := rows) (z := rows[i]) h
      rwa [List.set_getElem_self] at this
    exact ((List.perm_cons _).mp (h1.symm.trans a1)).trans ((List.perm_cons _).mp (h3.symm.trans a2)).symm
  have e0 : (pre ++ rowsOwn rows).Perm (rowHO rows[i] :: (pre ++ rowsOwn l')) :=
    (List.Perm.append_left _ ((h3.trans (hlen.symm.cons _)).map rowHO)).trans List.perm_middle
  have g := (f.perm e0 : Fr H0 H ((rows[i].1, .lst (rows[i].2.map V.int)) :: (pre ++ rowsOwn l')))
  refine (Fr.wr (o' := .lst (y.map V.int)) g).perm ?_
  have e1 : (rowsOwn (rows.set i (rows[i].1, y))).Perm (rowHO (rows[i].1, y) :: rowsOwn l') := h1.map rowHO
  exact List.perm_middle.symm.trans (List.Perm.append_left _ e1.symm)
where
  set_er {α : Type} : ∀ {l : List α} {i : Nat} {z : α}, i < l.length → (l.set i z).Perm (z :: l.eraseIdx i)
  | [], _, _, h => by simp at h
  | x :: l, 0, z, _ => List.Perm.refl _
  | x :: l, i + 1, z, h => by
    have := set_er (l := l) (i := i) (z := z) (by simpa using h)
    exact (this.cons x).trans (List.Perm.swap _ _ _)
theorem Fr.rowsrev (f : Fr H0 H (pre ++ rowsOwn rows)) : Fr H0 H (pre ++ rowsOwn rows.reverse) := by
  refine f.perm (List.Perm.append_left _ ?_)
  unfold rowsOwn; rw [List.map_reverse]
  exact (List.reverse_perm _).symm
theorem atLastD {α : Type} {f : α → V} {xs : List α} (d : α) (h : 0 < xs.length) : atI (xs.map f) (-1) = some (f (xs.getD (xs.length - 1) d)) := by
  have e : xs.getLastD d = xs.getD (xs.length - 1) d := by
    rw [List.getLastD_eq_getLast?, List.getLast?_eq_getElem?, List.getD_eq_getElem?_getD]
  rw [← e]; exact atLast d h
theorem Fr.rowwrD {i : Nat} {y : List Int} {o' : HO} (d : RI) (f : Fr H0 H (pre ++ rowsOwn rows)) (h : i < rows.length) (eo : o' = .lst (y.map V.int)) : Fr H0 (upd H (rows.getD i d).1 o') (pre ++ rowsOwn (rows.set i ((rows.getD i d).1, y))) := by
  subst eo
  have e : rows.getD i d = rows[i] := by rw [List.getD_eq_getElem?_getD, List.getElem?_eq_getElem h]; rfl
  rw [e]; exact f.rowwr h
theorem rowRef_set (rows : List RI) (i : Nat) (d : RI) (y : List Int) : List.map rowRef rows = List.map rowRef (rows.set i ((rows.getD i d).1, y)) := by
  apply List.ext_getElem?
  intro j
  by_cases hj : i = j
  · subst hj
    by_cases hl : i < rows.length
    · simp [hl, rowRef, List.getD_eq_getElem?_getD]
    · simp [hl]
  · simp [hj]
/-- a new list of new lists, from a call -/
theorem Fr.crows (f : Fr H0 H own) (s : Same H H') (h : H p = none) (e : H' p = some o) (hr : ∀ z ∈ rows, H z.1 = none ∧ H' z.1 = some (.lst (z.2.map V.int))) (hn : (p :: rows.map (·.1)).Nodup) :
    Fr H0 H' ((p, o) :: (own ++ rowsOwn rows)) := by
  have g := f.cnew s h e
  refine ⟨g.same, fun z hz => ?_, ?_⟩
  · rcases List.mem_cons.mp hz with rfl | hz
    · exact g.frs _ List.mem_cons_self
    · rcases List.mem_append.mp hz with hz | hz
      · exact g.frs z (List.mem_cons_of_mem _ hz)
      · obtain ⟨r, hr', rfl⟩ := List.mem_map.mp hz
        exact ⟨f.fresh (hr r hr').1, (hr r hr').2⟩
  · rw [List.map_cons, List.map_append]
    have e1 : (rowsOwn rows).map (·.1) = rows.map (·.1) := by unfold rowsOwn; rw [List.map_map]; rfl
    rw [e1]
    have hn' := List.nodup_cons.mp hn
    have gn := List.nodup_cons.mp g.nd
    refine List.nodup_cons.mpr ⟨fun hm => ?_, List.nodup_append.mpr ⟨gn.2, hn'.2, fun a ha b hb hab => ?_⟩⟩
    · rcases List.mem_append.mp hm with hm | hm
      · exact gn.1 hm
      · exact hn'.1 hm
    · subst hab
      obtain ⟨z, hz, rfl⟩ := List.mem_map.mp ha
      obtain ⟨r, hr', e2⟩ := List.mem_map.mp hb
      have := (hr r hr').1
      rw [e2, (f.frs z hz).2] at this
      cases this
/-- what is handed back: outer list and rows -/
theorem Fr.rowsback (f : Fr H0 H ((p, o) :: rowsOwn rows)) : (∀ z ∈ rows, H0 z.1 = none ∧ H z.1 = some (.lst (z.2.map V.int))) ∧ (p :: rows.map (·.1)).Nodup := by
  refine ⟨fun z hz => f.frs (rowHO z) (List.mem_cons_of_mem _ (List.mem_map.mpr ⟨z, hz, rfl⟩)), ?_⟩
  have := f.nd
  rw [List.map_cons] at this
  have e1 : (rowsOwn rows).map (·.1) = rows.map (·.1) := by unfold rowsOwn; rw [List.map_map]; rfl
  rwa [e1] at this
end
/-- rows from outside -/
def Rows (H : Hp) (rows : List RI) : Prop := ∀ r ∈ rows, H r.1 = some (.lst (r.2.map V.int))
theorem Rows.same {H H' : Hp} {rows : List RI} (h : Rows H rows) (s : Same H H') : Rows H' rows := fun r hr => s _ _ (h r hr)
theorem Rows.at {H : Hp} {rows : List RI} (h : Rows H rows) {i : Nat} (d : RI) (hi : i < rows.length) : H (rows.getD i d).1 = some (.lst ((rows.getD i d).2.map V.int)) := h _ (getD_mem hi)
theorem rows_nil {H : Hp} : Rows H [] := fun _ h => nomatch h
theorem rows_cons {H : Hp} {a : Addr} {x : List Int} {rows : List RI} (h : H a = some (.lst (x.map V.int))) (hr : Rows H rows) : Rows H ((a, x) :: rows) := fun r h' => by
  rcases List.mem_cons.mp h' with rfl | h'
  · exact h
  · exact hr r h'

/-! whole numbers among scalars -/
def wholeV (v : V) : Bool := is_int v && !is_bool v
theorem wholeV_int {v : V} (h : wholeV v = true) : ∃ z, v = V.int z := by
  cases v with
  | int z => exact ⟨z, rfl⟩
  | bl b => cases h
  | _ => cases h
theorem wholeV_of (z : Int) : wholeV (V.int z) = true := rfl
/-- a part of a word for m heaps -/
def wordPart (m : Nat) : V → Bool
  | .int x => decide (0 ≤ x) && decide (x < (m : Int))
  | _ => false
theorem wordPart_no {m : Nat} {v : V} (h : wholeV v = false) : wordPart m v = false := by
  cases v with
  | int z => cases h
  | _ => rfl
theorem wp_no {m : Nat} {v : V} (h : wholeV v = false) : V.bl false = V.bl (wordPart m v) := by rw [wordPart_no h]
theorem wp_f1 {m : Nat} {z : Int} (h : ¬ 0 ≤ z) : V.bl false = V.bl (wordPart m (V.int z)) := by show V.bl false = V.bl (decide (0 ≤ z) && decide (z < (m : Int))); rw [decide_eq_false h]; rfl
theorem wp_f2 {m : Nat} {z : Int} (h : ¬ z < (m : Int)) : V.bl false = V.bl (wordPart m (V.int z)) := by show V.bl false = V.bl (decide (0 ≤ z) && decide (z < (m : Int))); rw [decide_eq_false h, Bool.and_false]
theorem wp_t {m : Nat} {z : Int} (h : 0 ≤ z) (h' : z < (m : Int)) : V.bl true = V.bl (wordPart m (V.int z)) := by show V.bl true = V.bl (decide (0 ≤ z) && decide (z < (m : Int))); rw [decide_eq_true h, decide_eq_true h']; rfl
def isWordV (m : Nat) (word : List V) (n : Int) : Bool := decide ((word.length : Int) = n) && word.all (wordPart m)
theorem isWordV_ints {m : Nat} {w : List Int} {n : Int} (h : ∀ x ∈ w, 0 ≤ x ∧ x < m) (hn : (w.length : Int) = n) : isWordV m (w.map V.int) n = true := by
  unfold isWordV
  rw [List.length_map, decide_eq_true hn, Bool.true_and, List.all_eq_true]
  intro v hv
  obtain ⟨x, hx, rfl⟩ := List.mem_map.mp hv
  show (decide (0 ≤ x) && decide (x < (m : Int))) = true
  rw [decide_eq_true (h x hx).1, decide_eq_true (h x hx).2]; rfl
/-- the two parts of a list beside a place -/
theorem cut_lo {α : Type} {xs : List α} {i : Int} (h0 : 0 ≤ i) (h1 : i ≤ xs.length) : cutL xs none (some i) = xs.take i.toNat := by
  obtain ⟨k, rfl⟩ := Int.eq_ofNat_of_zero_le h0
  unfold cutL
  rw [HT.sIx_none, HT.sIx_nat, Int.toNat_natCast, List.drop_zero, Nat.sub_zero, Nat.min_eq_left (by omega)]
theorem cut_hi {α : Type} {xs : List α} {i : Int} (h0 : 0 ≤ i) (h1 : i ≤ xs.length) : cutL xs (some i) none = xs.drop i.toNat := by
  obtain ⟨k, rfl⟩ := Int.eq_ofNat_of_zero_le h0
  unfold cutL
  rw [HT.sIx_none, HT.sIx_nat, Int.toNat_natCast, Nat.min_eq_left (by omega)]
  exact List.take_of_length_le (by rw [List.length_drop]; omega)
theorem cut_mid {α : Type} {xs : List α} {i j : Int} (h0 : 0 ≤ i) (hij : i ≤ j) (h1 : j ≤ xs.length) : cutL xs (some i) (some j) = (xs.drop i.toNat).take (j - i).toNat := by
  obtain ⟨k, rfl⟩ := Int.eq_ofNat_of_zero_le h0
  obtain ⟨l, rfl⟩ := Int.eq_ofNat_of_zero_le (show 0 ≤ j by omega)
  unfold cutL
  rw [HT.sIx_nat, HT.sIx_nat, Int.toNat_natCast, Nat.min_eq_left (by omega), Nat.min_eq_left (by omega)]
  congr 1; omega
theorem cut_erase {α : Type} {xs : List α} {i : Int} (h0 : 0 ≤ i) (h1 : i < xs.length) : cutL xs none (some i) ++ cutL xs (some (i + 1)) none = xs.eraseIdx i.toNat := by
  rw [cut_lo h0 (by omega), cut_hi (by omega) (by omega), show (i + 1).toNat = i.toNat + 1 by omega]
  exact (List.eraseIdx_eq_take_drop_succ _ _).symm
theorem lc_lx {α β : Type} {enc : β → V} {f : α → β} {ns : List α} {i : Nat} {y : α} {v : V} (h : ns[i]? = some y) (e : v = enc (f y)) : HO.lst ((((ns.take i).map f).map enc) ++ [v]) = .lst (((ns.take (i + 1)).map f).map enc) := by
  rw [e]; exact lc_l h
theorem lc_rx {β : Type} {enc : β → V} (f : Nat → β) (i : Nat) {v : V} (e : v = enc (f i)) : HO.lst ((((List.range i).map f).map enc) ++ [v]) = .lst (((List.range (i + 1)).map f).map enc) := by
  rw [e]; exact lc_r f i
theorem cut_one {α : Type} {xs : List α} (h : 0 < xs.length) : cutL xs (some 1) none = xs.drop 1 := cut_hi (by decide) (by omega)
theorem lc_app {β : Type} {enc : β → V} {xs ys : List β} {x : β} (e : xs ++ [x] = ys) : HO.lst (xs.map enc ++ [enc x]) = .lst (ys.map enc) := by
  rw [← e, List.map_append]; rfl
theorem count_filter (w : List Int) (a : Int) : (List.map (fun y : Int => y) (List.filter (fun y : Int => decide (y = a)) w)).length = w.count a := by
  rw [List.length_map, List.count_eq_length_filter]
  congr 1
end Rc
namespace Rc
open PySem PySem.Spec PyProof.Rows L2

/-! list.count of a truth -/
section
variable {X : Cx}
theorem bools_of_vals : ∀ {bs : List Bool} {us : List Value}, Vals (bs.map V.bl) us → us = bs.map Value.bool
  | [], _, h => by cases h; rfl
  | b :: bs, _, h => by
    cases h with
    | cons r rr =>
      cases r
      rw [bools_of_vals rr]; rfl
theorem countP_bools (k : Bool) : ∀ bs : List Bool, (bs.map Value.bool).countP (isBoolOf k) = bs.count k
  | [] => rfl
  | b :: bs => by
    rw [List.map_cons, List.countP_cons, List.count_cons, countP_bools k bs] <;> rfl
def rCntB (K : PySem.W.Frag) : V → List V → Hp → VK → Prop := fun x xs H Q => ∃ (p : Addr) (bs : List Bool) (k : Bool), x = .ref p ∧ xs = [.bl k] ∧ SqL K H p (bs.map V.bl) ∧ Q (.int (bs.count k : Nat)) H
theorem mt_lcountB : MtR X "list.count" (rCntB X.K) := by
  intro pins s σ H x xs v us Q I rx rxs h
  obtain ⟨p, bs, k, rfl, rfl, hs, q⟩ := h
  cases rx
  obtain ⟨u, rfl, ru⟩ := rxs.one
  cases ru
  obtain ⟨its, rv, ⟨⟨cls, dd, data, sl⟩, n, ho, hc, hdn, hd⟩, hlen⟩ := I.list hs
  simp only at hc hd
  subst hc hd
  have ei := bools_of_vals rv
  subst ei
  refine call_meets PySem.F.slot_list_count ⟨_, ho, rfl⟩ PySem.F.entry_list_count (PySem.F.args_list_count_2 _ _)
    (SeqAt.list_countAt p (bs.map Value.bool).toArray n dd sl (.bool k) (isBoolOf k)) ⟨ho, fun y hy => ?_, ?_⟩
  · have hy' : y ∈ bs.map Value.bool := by simpa using hy
    obtain ⟨b, _, rfl⟩ := List.mem_map.mp hy'
    exact SeqAt.EqAt.bool_bool b k
  · refine ⟨.int (bs.count k : Nat), H, I.tok _, ⟨s.toks, ?_⟩, q⟩
    show Value.int (((bs.map Value.bool).toArray.toList.countP (isBoolOf k) : Nat) : Int) s.toks = Value.int ((bs.count k : Nat) : Int) s.toks
    rw [show (bs.map Value.bool).toArray.toList = bs.map Value.bool from rfl, countP_bools]
end

/-! the exception that a suite holds -/
section
variable {X : Cx} {a : Addr} {oe : Obj} {cls : Value} {d : Option Addr}
/-- isinstance(e, c), e the exception that the suite holds: of the class D -/
def rIsP (K : PySem.W.Frag) (a : Addr) (cls : Value) (d : Option Addr) : List V → Hp → VK → Prop := fun xs H Q =>
  ∃ (D : Addr) (c : V) (cv : Value) (b : Bool), cls = .ref D ∧ d = none ∧ ExcC K D ∧ xs = [.ref a, c] ∧ (∀ u, RelV c u → u = cv) ∧ PySem.W.kitOne K (.ref D) cv = some b ∧ Q (.bl b) H
theorem call_isP (hz : Zc cls d oe) (hf : ∃ vs, oe.data = .fields vs) (hp : (a, oe) ∈ X.pn) : CallR X (.builtin "isinstance") (rIsP X.K a cls d) := by
  intro pins s σ H xs us Q I r h
  obtain ⟨D, c, cv, b, rfl, rfl, C, rfl, hcv, e, q⟩ := h
  cases r with
  | cons rx rr =>
    cases rr with
    | cons rt rr =>
      cases rr
      cases rx
      have ec := hcv _ rt
      subst ec
      obtain ⟨hget, _⟩ := I.pin (a, oe) (List.mem_append.mpr (.inl hp))
      obtain ⟨vs, hv⟩ := hf
      have J : PySem.W.InstAt s.heap a oe D none := by
        obtain ⟨oc, od, oda, osl⟩ := oe
        obtain ⟨h1, h2⟩ := hz
        dsimp only at h1 h2 hv
        subst h1 h2 hv
        exact ⟨hget, rfl, rfl, trivial⟩
      exact PySem.W.kia_one (PySem.W.handS_kitx_exc C.hg C.hk C.hs C.hd C.ha C.hn C.ht C.hm) I.kIn J e (fun z => nomatch z) fun tk => ⟨.bl b, H, I.kept (t' := tk) fun _ _ z => z, rfl, q⟩
theorem rel_ref {C : Addr} : ∀ u, RelV (.ref C) u → u = .ref C := fun u h => h
theorem rel_ty {t : String} : ∀ u, RelV (.ty t) u → u = .type t := fun u h => h
end

/-! defs that are called within a suite, with the exception -/
open L2H (RoomH PinOk cxH inv_startH)
/-- p's object is the exception that is handled, of the class D -/
structure HotZ (A : Around) (D : Addr) (p : Addr × Obj) : Prop where
  hd : A.handled = some (.ref p.1)
  cl : Zc (.ref D) none p.2
  dt : ∃ vs, p.2.data = .fields vs
structure FnE (P : Program) (w : World) (K : PySem.W.Frag) (mg : Str → Option Value) (base : Heap) (k : Nat) (f : Addr) (fd : FuncData) (ps : List Str) (sp : Addr → Addr → Sp) : Prop where
  len : ∀ a D vs H Q E, sp a D vs H Q E → vs.length = ps.length
  run : ∀ (A : Around) (outer : List Env) (s : Shared) (H : Hp) (args : Args) (us : List Value) (vs : List V) (Q : VK) (E : XK) (p : Addr × Obj) (D : Addr), RoomH k A → HotZ A D p → PinOk outer H s p → Env0 P w K mg base A outer s H → BindsTo s fd args (ps.zip us) → Vals vs us → sp p.1 D vs H Q E →
    codeAny (model P w) A (.call (.ref f) args) (CR CX0 outer P w H s Q E) s
theorem fn_ofE {P : Program} {w : World} {K : PySem.W.Frag} {mg : Str → Option Value} {base : Heap} {k : Nat} {f : Addr} {name qual : Str} {params : Arguments} {body : List Stmt} {scope : Scope} {dV kV doc pm cdv ct oc : Value} {an od : Option Addr}
    {osl : Array (Option Value)} {N ps : List Str} {sp : Addr → Addr → Sp} (lk : K.lookup f = some ⟨oc, od, .func (PySem.W.fnOf name qual params body scope dV kV doc pm an cdv ct), osl⟩) (hcd : PySem.W.codeIn K cdv qual = true) (S : FnScope N ps scope)
    (len : ∀ a D vs H Q E, sp a D vs H Q E → vs.length = ps.length)
    (hbody : ∀ (A : Around) (outer : List Env) (s : Shared) (H : Hp) (vs : List V) (Q : VK) (E : XK) (p : Addr × Obj) (D : Addr), HotZ A D p → RoomH k (A.deeper (envOfC qual scope s.heap.objs.size f cdv)) → sp p.1 D vs H Q E →
      ∃ t, PSs (cxH CX0 P w K mg base N qual scope f cdv A outer s H E p) body t ∧ t { nx := fun _ H' => Q .non H', rt := Q } (L2.start N vs) H) :
    FnE P w K mg base (k + 1) f (PySem.W.fnOf name qual params body scope dV kV doc pm an cdv ct) ps sp := by
  refine ⟨len, fun A outer s H args us vs Q E p D hr hot hpin e0 hb r hsp => ?_⟩
  have hl := len _ _ _ _ _ _ hsp
  have KX : K.In s.heap := e0.mod.kin.keeps fun b o e => (e0.bs b o e).1
  have lim : s.heap.NoLimit := e0.mod.nolimit.keeps fun b o e => (e0.bs b o e).1
  have hkind : ∀ y ∈ ps.zip us, scope.names.lookup y.1 = some .local ∨ (scope.names.lookup y.1 = some .cell ∧ ((cellsFrom (s.heap.objs.size + 1) scope.names []).lookup y.1).isSome = true) := fun ⟨n, v⟩ hy => by
    rcases S.par n (List.of_mem_zip hy).1 with q | q
    · exact .inl q
    · exact .inr ⟨q, PySem.W.cellsFrom_some _ _ _ (.inl q)⟩
  refine codeAny_call_function hr.depth (KX _ _ lk) rfl S.co S.gen rfl (PySem.W.codeRec_of KX hcd) (hb _ _ _ _ ?_)
  refine wpAny_newFunctionEnv_cells S.kind hkind fun env he s1 x => ?_
  subst he
  refine ⟨lim.keeps x.toInCall.keep, codeAny_func ?_⟩
  obtain ⟨t, ht, hq⟩ := hbody A outer s H vs Q E p D hot (hr.deeper _) hsp
  have I : Inv (cxH CX0 P w K mg base N qual scope f cdv A outer s H E p) [] (L2.start N vs) H s1 := inv_startH S hpin e0 hl r x
  refine wpAny_mono (ht.run [] s1 (L2.start N vs) H _ I hq) (fun fl s' hs => ?_) fun e s' hs => hs
  have fin : ∀ {σ' : L2.St} {H' : Hp} {v : V} {u : Value}, Inv (cxH CX0 P w K mg base N qual scope f cdv A outer s H E p) [] σ' H' s' → RelV v u → Q v H' → CE outer P w H s Q u s' :=
    fun {σ' H' v u} J rv q => ⟨v, H', J.os, J.bare, J.base, J.hok, rv, q⟩
  cases fl with
  | ret u =>
    obtain ⟨v, σ', H', J, rv, q⟩ := hs
    exact fin J rv q
  | next =>
    obtain ⟨σ', H', J, q⟩ := hs
    exact fin (v := V.non) (u := Value.none) J rfl q
  | brk =>
    obtain ⟨_, _, _, q⟩ := hs
    exact False.elim q
  | cont =>
    obtain ⟨_, _, _, q⟩ := hs
    exact False.elim q
section
variable {P : Program} {w : World} {K : PySem.W.Frag} {mg : Str → Option Value} {base : Heap}
/-- as Fun.ok, for a def that a suite calls -/
theorem Fun.okE {x qual : Str} {st : Stmt} {f : Addr} {fd : FuncData} {N ps : List Str} {k : Nat} {sp : Addr → Addr → Sp} (F : Fun K x qual st f fd) (S : FnScope N ps (defScope st)) (len : ∀ a D vs H Q E, sp a D vs H Q E → vs.length = ps.length)
    (hbody : ∀ (cdv : Value) (A : Around) (outer : List Env) (s : Shared) (H : Hp) (vs : List V) (Q : VK) (E : XK) (p : Addr × Obj) (D : Addr), HotZ A D p → RoomH k (A.deeper (envOfC qual (defScope st) s.heap.objs.size f cdv)) → sp p.1 D vs H Q E →
      ∃ t, PSs (cxH CX0 P w K mg base N qual (defScope st) f cdv A outer s H E p) (defBody st) t ∧ t { nx := fun _ H' => Q .non H', rt := Q } (start N vs) H) : FnE P w K mg base (k + 1) f fd ps sp := by
  obtain ⟨oc, od, kV, doc, pm, an, cdv, ct, osl, rfl, lk, hcd⟩ := F.ex
  exact fn_ofE lk hcd S len fun A outer s H vs Q E p D hz hr hsp => hbody cdv A outer s H vs Q E p D hz hr hsp
end
theorem hu64S {X : Cx} {k : Nat} {a : Addr} {pn : List (Addr × Obj)} (hr : Room k X.A) : (X.suite a pn).A.units + 64 < cLine := by
  have := hr.un
  show X.A.units + 64 < cLine
  omega
theorem roomS {X : Cx} {k : Nat} {a : Addr} {pn : List (Addr × Obj)} (hr : Room k X.A) : RoomH k (X.suite a pn).A := ⟨hr.dp, hr.un⟩
section
variable {X : Cx} {k : Nat} {f : Addr} {fd : FuncData} {ps : List Str} {sp : Addr → Addr → Sp} {x : Str} {q pos : Pos} {e : Expr} {es : List Expr} {t : TA} {a : Addr} {oe : Obj} {cls : Value} {d : Option Addr} {pn : List (Addr × Obj)}
/-- f(e, ..) within a suite, f asks about the exception -/
def tCallE (a : Addr) (cls : Value) (d : Option Addr) (sp : Addr → Addr → Sp) (t : TA) : TE := fun σ H Q => ∃ D, cls = .ref D ∧ d = none ∧ t σ H fun vs H1 => sp a D vs H1 Q E0
theorem pe_callE (hz : Zc cls d oe) (hf : ∃ vs, oe.data = .fields vs) (F : FnE X.prog X.w X.K X.mg X.base k f fd ps sp) (hr : RoomH k (X.suite a ((a, oe) :: pn)).A) (hg : Gl X x) (hm : X.mg x = some (.ref f)) (hk : PySem.W.keepIn X.K (.ref f) = true) (hb : Binds X.K fd ps [])
    (ha : PA (X.suite a ((a, oe) :: pn)) (e :: es) t) (hdb : (x == ("__debug__" : Str)) = false := by decide) (he : starEach (e :: es) X.env = (false, eval e X.env) :: starEach es X.env := by rfl) (hpl : (backTo pos (starEach es X.env)).any (·.1) = false := by rfl) :
    PE (X.suite a ((a, oe) :: pn)) (.Call (.Name x q) (e :: es) [] pos) (tCallE a cls d sp t) := by
  refine ⟨fun pins s σ H Q I h => ?_⟩
  obtain ⟨D, rfl, rfl, h⟩ := h
  have hg' : Gl (X.suite a ((a, oe) :: pn)) x := hg
  refine wpAny_Call_Name_kw (ld_glob I hg' hm ?_ hdb)
  refine PySem.W.callWith_K (h₀ := X.base) I.ok.mod.kin hk (thn (ha.run pos pins s σ H _ I h) fun us s1 ⟨vs, H1, I1, r, q⟩ => ⟨I1.kIn, ?_⟩) he hpl
  have hl : us.length = ps.length := by rw [← r.length]; exact F.len _ _ _ _ _ _ q
  have b := hb s1 us I1.kIn (by rw [List.append_nil]; exact hl)
  rw [List.append_nil] at b
  have P1 := I1.pin (a, oe) (List.mem_append_left _ List.mem_cons_self)
  have hpin : PinOk X.stack H1 s1 (a, oe) := ⟨P1.1, P1.2.1, fun hm => (List.mem_cons.mp (I1.stkSub a hm)).elim P1.2.2.1 P1.2.2.2.1, P1.2.2.2.2⟩
  refine wpAny_call (codeAny_mono (F.run (X.suite a ((a, oe) :: pn)).A X.stack s1 H1 ⟨us, []⟩ us vs Q E0 (a, oe) D hr ⟨rfl, hz, hf⟩ hpin I1.env0 b r q) fun r s' hq => ?_)
  cases r with
  | error e => exact False.elim hq
  | ok fl =>
    cases fl with
    | ret u => exact I1.after hq
    | next => exact False.elim hq
    | brk => exact False.elim hq
    | cont => exact False.elim hq
end

/-! facts of the top's exception classes -/
/-- an exception class of the program, over ValueError -/
structure ExcT (K : PySem.W.Frag) (mg : Str → Option Value) (n : Str) (C : Addr) : Prop where
  g : mg n = some (.ref C)
  kp : PySem.W.keepIn K (.ref C) = true
  ex : PySem.W.excIn K C [.type "ValueError", .type "Exception", .type "BaseException", .type "object"] "ValueError.__new__" = true
  c : ExcC K C
  ty : PySem.W.typeIn K (.ref C) = some (.type "type")
  ve : PySem.W.subIn K (.ref C) (.type "ValueError") = some true
theorem any_isSome {α : Type} {o : Option α} {p : α → Bool} (h : o.any p = true) : o.isSome = true := by
  cases o with
  | none => cases h
  | some _ => rfl
section
variable {K : PySem.W.Frag} {mg : Str → Option Value} {n : Str} {C D : Addr} {b : Bool}
theorem ExcT.kit (T : ExcT K mg n C) (h : PySem.W.subIn K (.ref D) (.ref C) = some b) (hne : b = false → D ≠ C) : PySem.W.kitOne K (.ref D) (.ref C) = some b := by
  unfold PySem.W.kitOne
  by_cases e : D = C
  · subst e
    rw [if_pos (by simp)]
    cases b with
    | true => rfl
    | false => exact absurd rfl (hne rfl)
  · have e1 : ((Value.ref D) == (Value.ref C)) = false := by
      rw [beq_eq_false_iff_ne]; exact fun z => e (Value.ref.inj z)
    rw [e1, if_neg Bool.false_ne_true]
    unfold PySem.W.kitCls
    have e2 : (PySem.W.clsIn K C).isSome = true := any_isSome T.c.hd
    dsimp only
    rw [e2, T.ty]
    exact h
theorem ExcT.exm (T : ExcT K mg n C) (h : PySem.W.subIn K (.ref D) (.ref C) = some b) : PySem.W.exmOne K (.ref D) (.ref C) = some b := PySem.W.exm_ref T.c.hs T.c.hd T.ty h
theorem ExcT.kve (T : ExcT K mg n C) : PySem.W.kitOne K (.ref C) (.type "ValueError") = some true := by
  unfold PySem.W.kitOne
  rw [show ((Value.ref C) == (Value.type "ValueError")) = false from rfl, if_neg Bool.false_ne_true]
  exact T.ve
end
end Rc
namespace Rc
open PySem PySem.Spec PyProof.Rows L2

/-! tables: lists of objects; an object's content is told by g -/
abbrev RO (β : Type) := Addr × β
def rref {β : Type} (r : RO β) : V := V.ref r.1
def rosOwn {β : Type} (g : β → HO) (rows : List (RO β)) : List (Addr × HO) := rows.map fun r => (r.1, g r.2)
abbrev gI : List Int → HO := fun xs => .lst (xs.map V.int)
abbrev gB : List Bool → HO := fun xs => .lst (xs.map V.bl)
abbrev gV : List V → HO := fun xs => .lst xs
abbrev gVB : V × Bool → HO := fun p => .tup [p.1, V.bl p.2]
abbrev gII : Int × Int → HO := fun p => .tup [V.int p.1, V.int p.2]
section
variable {β : Type} {g : β → HO} {H0 H H' : Hp} {own pre : List (Addr × HO)} {ts : List (List (Addr × HO))} {T : List (Addr × HO)} {p : Addr} {o : HO} {rows : List (RO β)} {C : List β}
theorem flat_pull {α : Type} : ∀ {ts : List (List α)} {k : Nat} {T : List α}, ts[k]? = some T → ts.flatten.Perm (T ++ (ts.eraseIdx k).flatten)
  | [], _, _, h => by simp at h
  | t :: ts, 0, T, h => by cases (Option.some.inj h); exact List.Perm.refl _
  | t :: ts, k + 1, T, h => by
    have ih := flat_pull (ts := ts) (k := k) (T := T) h
    show (t ++ ts.flatten).Perm (T ++ (t ++ (ts.eraseIdx k).flatten))
    refine (List.Perm.append_left t ih).trans ?_
    rw [← List.append_assoc, ← List.append_assoc]
    exact List.Perm.append_right _ List.perm_append_comm
/-- a tail to the front of the tails -/
theorem Fr.tup (f : Fr H0 H (pre ++ ts.flatten)) (k : Nat) (h : ts[k]? = some T) : Fr H0 H (pre ++ (T :: ts.eraseIdx k).flatten) :=
  f.perm (List.Perm.append_left _ (flat_pull h))
/-- a tail is no longer told of -/
theorem Fr.tdrop (f : Fr H0 H (pre ++ ts.flatten)) (k : Nat) (h : ts[k]? = some T) : Fr H0 H (pre ++ (ts.eraseIdx k).flatten) :=
  (f.tup k h).sub (List.Sublist.append (List.Sublist.refl _) (List.sublist_append_right _ _))
theorem Fr.rmem (f : Fr H0 H (pre ++ ts.flatten)) (k : Nat) (h : ts[k]? = some (rosOwn g rows)) {r : RO β} (hr : r ∈ rows) : H r.1 = some (g r.2) := by
  refine f.mem (List.mem_append_right _ (List.mem_flatten.mpr ⟨_, List.mem_of_getElem? h, ?_⟩))
  exact List.mem_map.mpr ⟨r, hr, rfl⟩
/-- an own object becomes a row of a new tail -/
theorem Fr.rnew {x : β} (f : Fr H0 H ((p, g x) :: (pre ++ ts.flatten))) : Fr H0 H (pre ++ (rosOwn g [(p, x)] :: ts).flatten) :=
  f.perm List.perm_middle.symm
/-- an own object becomes the last row of the first tail -/
theorem Fr.radd {x : β} (f : Fr H0 H ((p, g x) :: (pre ++ (rosOwn g rows :: ts).flatten))) : Fr H0 H (pre ++ (rosOwn g (rows ++ [(p, x)]) :: ts).flatten) := by
  refine f.perm ?_
  have e : rosOwn g (rows ++ [(p, x)]) = rosOwn g rows ++ [(p, g x)] := by unfold rosOwn; rw [List.map_append]; rfl
  show ((p, g x) :: (pre ++ (rosOwn g rows ++ ts.flatten))).Perm (pre ++ (rosOwn g (rows ++ [(p, x)]) ++ ts.flatten))
  rw [e]
  refine List.perm_middle.symm.trans (List.Perm.append_left _ ?_)
  rw [List.append_assoc]
  exact List.perm_middle.symm
theorem Fr.rset {x : β} {i : Nat} (f : Fr H0 H ((p, g x) :: (pre ++ (rosOwn g rows :: ts).flatten))) (h : i < rows.length) : Fr H0 H (pre ++ (rosOwn g (rows.set i (p, x)) :: ts).flatten) := by
  obtain ⟨l', h1, h2⟩ := set_sub (z := ((p, x) : RO β)) h
  have e1 : (rosOwn g (rows.set i (p, x))).Perm ((p, g x) :: rosOwn g l') := h1.map _
  have s : List.Sublist ((p, g x) :: (pre ++ (rosOwn g l' ++ ts.flatten))) ((p, g x) :: (pre ++ (rosOwn g rows ++ ts.flatten))) :=
    List.Sublist.cons_cons _ (List.Sublist.append (List.Sublist.refl _) (List.Sublist.append (h2.map _) (List.Sublist.refl _)))
  refine (f.sub s).perm ?_
  refine List.perm_middle.symm.trans (List.Perm.append_left _ ?_)
  exact List.Perm.append_right _ e1.symm
/-- a row is written: own o at p becomes o' -/
theorem Fr.rwr {i : Nat} {y : β} {q : Addr} (f : Fr H0 H (pre ++ (rosOwn g rows :: ts).flatten)) (h : i < rows.length) (hq : q = (rows[i]).1) : Fr H0 (upd H q (g y)) (pre ++ (rosOwn g (rows.set i (q, y)) :: ts).flatten) := by
  subst hq
  obtain ⟨l', h1, h2⟩ := set_sub (z := (((rows[i]).1, y) : RO β)) h
  have p1 : rows.Perm (rows[i] :: rows.eraseIdx i) := by
    have := set_er' (l := rows) (z := rows[i]) h
    rwa [List.set_getElem_self] at this
  have p2 : (rows.set i ((rows[i]).1, y)).Perm (((rows[i]).1, y) :: rows.eraseIdx i) := set_er' h
  have e0 : (pre ++ (rosOwn g rows ++ ts.flatten)).Perm (((rows[i]).1, g (rows[i]).2) :: (pre ++ (rosOwn g (rows.eraseIdx i) ++ ts.flatten))) :=
    (List.Perm.append_left _ (List.Perm.append_right _ (p1.map _))).trans List.perm_middle
  have gg := f.perm e0
  refine (Fr.wr (o' := g y) gg).perm ?_
  have p3 : (rosOwn g (rows.set i ((rows[i]).1, y))).Perm (((rows[i]).1, g y) :: rosOwn g (rows.eraseIdx i)) := p2.map (fun r : RO β => (r.1, g r.2))
  refine List.perm_middle.symm.trans (List.Perm.append_left _ ?_)
  show ((((rows[i]).1, g y) :: rosOwn g (rows.eraseIdx i)) ++ ts.flatten).Perm (rosOwn g (rows.set i ((rows[i]).1, y)) ++ ts.flatten)
  exact List.Perm.append_right _ p3.symm
where
  set_er' {α : Type} : ∀ {l : List α} {i : Nat} {z : α}, i < l.length → (l.set i z).Perm (z :: l.eraseIdx i)
  | [], _, _, h => by simp at h
  | x :: l, 0, z, _ => List.Perm.refl _
  | x :: l, i + 1, z, h => by
    have := set_er' (l := l) (i := i) (z := z) (by simpa using h)
    exact (this.cons x).trans (List.Perm.swap _ _ _)
theorem Fr.rcat {rows' : List (RO β)} (f : Fr H0 H (pre ++ (rosOwn g rows :: rosOwn g rows' :: ts).flatten)) : Fr H0 H (pre ++ (rosOwn g (rows ++ rows') :: ts).flatten) := by
  have e : (rosOwn g rows :: rosOwn g rows' :: ts).flatten = (rosOwn g (rows ++ rows') :: ts).flatten := by
    show rosOwn g rows ++ (rosOwn g rows' ++ ts.flatten) = rosOwn g (rows ++ rows') ++ ts.flatten
    unfold rosOwn; rw [List.map_append, List.append_assoc]
  rw [← e]; exact f
theorem Fr.rrev (f : Fr H0 H (pre ++ (rosOwn g rows :: ts).flatten)) : Fr H0 H (pre ++ (rosOwn g rows.reverse :: ts).flatten) := by
  refine f.perm (List.Perm.append_left _ (List.Perm.append_right _ ?_))
  unfold rosOwn; rw [List.map_reverse]
  exact (List.reverse_perm _).symm

/-! addresses of rows and their contents -/
theorem snd_len (h : rows.map (·.2) = C) : rows.length = C.length := by rw [← h, List.length_map]
theorem snd_at (h : rows.map (·.2) = C) (d : β) (a : Addr) (i : Nat) (hi : i < C.length) : (rows.getD i (a, d)).2 = C.getD i d := by
  subst h
  rw [List.length_map] at hi
  simp [List.getD, hi]
theorem snd_get {i : Nat} {r : RO β} (h : rows.map (·.2) = C) (hr : rows[i]? = some r) : C[i]? = some r.2 := by subst h; rw [List.getElem?_map, hr]; rfl
theorem snd_app {x : β} (h : rows.map (·.2) = C) : (rows ++ [(p, x)]).map (·.2) = C ++ [x] := by rw [List.map_append, h]; rfl
theorem snd_set {x : β} {i : Nat} (h : rows.map (·.2) = C) : (rows.set i (p, x)).map (·.2) = C.set i x := by rw [List.map_set, h]
theorem snd_rev (h : rows.map (·.2) = C) : rows.reverse.map (·.2) = C.reverse := by rw [List.map_reverse, h]
theorem snd_cat {rows' : List (RO β)} {C' : List β} (h : rows.map (·.2) = C) (h' : rows'.map (·.2) = C') : (rows ++ rows').map (·.2) = C ++ C' := by rw [List.map_append, h, h']
theorem rref_set (i : Nat) (d : RO β) (y : β) (hi : i < rows.length) : rows.map rref = (rows.set i ((rows.getD i d).1, y)).map rref := by
  rw [List.map_set]
  show rows.map rref = (rows.map rref).set i (rref (rows.getD i d))
  rw [List.getD_eq_getElem?_getD, List.getElem?_eq_getElem hi]
  apply List.ext_getElem?
  intro j
  by_cases hj : i = j
  · subst hj; simp [hi]
  · simp [hj]
theorem lst_rref_app {x : β} : HO.lst (rows.map rref ++ [V.ref p]) = .lst ((rows ++ [(p, x)]).map rref) := by rw [List.map_append]; rfl
theorem lst_rref_cat {rows' : List (RO β)} : HO.lst (rows.map rref ++ rows'.map rref) = .lst ((rows ++ rows').map rref) := by rw [List.map_append]
theorem lst_rref_set {x : β} {i : Nat} : HO.lst ((rows.map rref).set i (V.ref p)) = .lst ((rows.set i (p, x)).map rref) := by rw [List.map_set]; rfl

/-! a table that stands -/
structure Tab (H : Hp) (g : β → HO) (a : Addr) (C : List β) : Prop where
  ex : ∃ r : List (RO β), r.map (·.2) = C ∧ H a = some (.lst (r.map rref)) ∧ ∀ z ∈ r, H z.1 = some (g z.2)
theorem Tab.same {a : Addr} (t : Tab H g a C) (s : Same H H') : Tab H' g a C := by
  obtain ⟨r, h1, h2, h3⟩ := t.ex
  exact ⟨r, h1, s _ _ h2, fun z hz => s _ _ (h3 z hz)⟩
/-- a new table, from a call -/
structure TabN (H H' : Hp) (g : β → HO) (a : Addr) (r : List (RO β)) (C : List β) : Prop where
  n : H a = none
  e : H' a = some (.lst (r.map rref))
  c : r.map (·.2) = C
  rw : ∀ z ∈ r, H z.1 = none ∧ H' z.1 = some (g z.2)
  nd : (a :: r.map (·.1)).Nodup
theorem Fr.ctab {r : List (RO β)} (f : Fr H0 H (pre ++ ts.flatten)) (s : Same H H') (t : TabN H H' g p r C) : Fr H0 H' (((p, .lst (r.map rref)) :: pre) ++ (rosOwn g r :: ts).flatten) := by
  have gg := f.cnew s t.n t.e
  have h1 : Fr H0 H' ((((p, HO.lst (r.map rref)) :: pre) ++ ts.flatten) ++ rosOwn g r) := by
    refine ⟨gg.same, fun z hz => ?_, ?_⟩
    · rcases List.mem_append.mp hz with hz | hz
      · exact gg.frs z hz
      · obtain ⟨r', hr', rfl⟩ := List.mem_map.mp hz
        exact ⟨f.fresh (t.rw r' hr').1, (t.rw r' hr').2⟩
    · rw [List.map_append]
      have e1 : (rosOwn g r).map (·.1) = r.map (·.1) := by unfold rosOwn; rw [List.map_map]; rfl
      rw [e1]
      have hn' := List.nodup_cons.mp t.nd
      refine List.nodup_append.mpr ⟨gg.nd, hn'.2, fun a ha b hb hab => ?_⟩
      subst hab
      rcases List.mem_cons.mp ha with rfl | ha
      · exact hn'.1 hb
      · obtain ⟨z, hz, rfl⟩ := List.mem_map.mp ha
        obtain ⟨r', hr', e2⟩ := List.mem_map.mp hb
        have := (t.rw r' hr').1
        rw [e2, (f.frs z hz).2] at this
        cases this
  refine h1.perm ?_
  show ((((p, HO.lst (r.map rref)) :: pre) ++ ts.flatten) ++ rosOwn g r).Perm (((p, HO.lst (r.map rref)) :: pre) ++ (rosOwn g r ++ ts.flatten))
  rw [List.append_assoc]
  exact List.Perm.append_left _ List.perm_append_comm
/-- new objects, from a call -/
theorem Fr.comp {new : List (Addr × HO)} (f : Fr H0 H own) (n : Fr H H' new) : Fr H0 H' (new ++ own) := by
  refine ⟨f.same.trans n.same, fun z hz => ?_, ?_⟩
  · rcases List.mem_append.mp hz with hz | hz
    · exact ⟨f.fresh (n.frs z hz).1, (n.frs z hz).2⟩
    · exact ⟨(f.frs z hz).1, n.same _ _ (f.frs z hz).2⟩
  · rw [List.map_append]
    refine List.nodup_append.mpr ⟨n.nd, f.nd, fun a ha b hb hab => ?_⟩
    subst hab
    obtain ⟨z, hz, rfl⟩ := List.mem_map.mp ha
    obtain ⟨y, hy, e⟩ := List.mem_map.mp hb
    have h1 := (n.frs z hz).1
    rw [← e, (f.frs y hy).2] at h1
    cases h1
/-- what is handed back -/
theorem Fr.tabback (f : Fr H0 H ((p, .lst (rows.map rref)) :: (pre ++ (rosOwn g rows :: ts).flatten))) (h : rows.map (·.2) = C) : TabN H0 H g p rows C := by
  have f1 : Fr H0 H ((p, .lst (rows.map rref)) :: rosOwn g rows) :=
    f.sub (List.Sublist.cons_cons _ ((List.sublist_append_left _ _).trans (List.sublist_append_right _ _)))
  refine ⟨f1.n0, f1.at0, h, fun z hz => f1.frs (z.1, g z.2) (List.mem_cons_of_mem _ (List.mem_map.mpr ⟨z, hz, rfl⟩)), ?_⟩
  have := f1.nd
  rw [List.map_cons] at this
  have e1 : (rosOwn g rows).map (·.1) = rows.map (·.1) := by unfold rosOwn; rw [List.map_map]; rfl
  rwa [e1] at this
theorem Fr.tabback0 (f : Fr H0 H ((p, .lst (([] : List (RO β)).map rref)) :: own)) : TabN H0 H g p [] ([] : List β) :=
  ⟨f.n0, f.at0, rfl, (fun _ h => nomatch h), List.nodup_cons.mpr ⟨(fun h => nomatch h), List.nodup_nil⟩⟩
/-- a table by own facts -/
theorem Fr.tab (f : Fr H0 H (pre ++ ts.flatten)) (k j : Nat) (ho : (pre ++ ts.flatten)[k]? = some (p, .lst (rows.map rref))) (h : ts[j]? = some (rosOwn g rows)) (hc : rows.map (·.2) = C) : Tab H g p C :=
  ⟨⟨rows, hc, f.mem (List.mem_of_getElem? ho), fun z hz => f.rmem j h hz⟩⟩
/-- a table by its parts -/
theorem tab_lit {a : Addr} (hr : ∀ z ∈ rows, H z.1 = some (g z.2)) (ha : H a = some (.lst (rows.map rref))) (hc : rows.map (·.2) = C) : Tab H g a C := ⟨⟨rows, hc, ha, hr⟩⟩
theorem ros_nil : ∀ z ∈ ([] : List (RO β)), H z.1 = some (g z.2) := fun _ h => nomatch h
theorem ros_cons {a : Addr} {x : β} (h : H a = some (g x)) (hr : ∀ z ∈ rows, H z.1 = some (g z.2)) : ∀ z ∈ (a, x) :: rows, H z.1 = some (g z.2) := fun z hz => by
  rcases List.mem_cons.mp hz with rfl | hz
  · exact h
  · exact hr z hz
end
/-! rows at a place, casts, unrolled loops -/
section
variable {β : Type} {g : β → HO} {H0 H H' : Hp} {own pre : List (Addr × HO)} {ts : List (List (Addr × HO))} {p : Addr} {o o' : HO} {rows : List (RO β)} {C : List β}
theorem Fr.castk (f : Fr H0 H own) (k : Nat) (h : own[k]? = some (p, o)) (e : o = o') : Fr H0 H (own.set k (p, o')) := by
  subst e
  refine f.perm ?_
  have : own.set k (p, o) = own := by
    apply List.ext_getElem?
    intro j
    by_cases hj : k = j
    · subst hj
      obtain ⟨hl, he⟩ := List.getElem?_eq_some_iff.mp h
      rw [h]; simp [hl]
    · simp [hj]
  rw [this]
theorem ros_at (hr : ∀ z ∈ rows, H z.1 = some (g z.2)) (hc : rows.map (·.2) = C) (d : β) (i : Nat) (hi : i < C.length) : H (rows.getD i (0, d)).1 = some (g (C.getD i d)) := by
  have hl : i < rows.length := by rw [snd_len hc]; exact hi
  have := hr _ (getD_mem (d := ((0, d) : RO β)) hl)
  rwa [snd_at hc d 0 i hi] at this
theorem Fr.rat (f : Fr H0 H (pre ++ ts.flatten)) (k : Nat) (h : ts[k]? = some (rosOwn g rows)) (hc : rows.map (·.2) = C) (d : β) (i : Nat) (hi : i < C.length) : H (rows.getD i (0, d)).1 = some (g (C.getD i d)) :=
  ros_at (fun z hz => f.rmem k h hz) hc d i hi
theorem Fr.rwrD {i : Nat} {y : β} (f : Fr H0 H (pre ++ (rosOwn g rows :: ts).flatten)) (hc : rows.map (·.2) = C) (d : β) (hi : i < C.length) (e : o' = g y) :
    Fr H0 (upd H (rows.getD i (0, d)).1 o') (pre ++ (rosOwn g (rows.set i ((rows.getD i (0, d)).1, y)) :: ts).flatten) := by
  subst e
  have hl : i < rows.length := by rw [snd_len hc]; exact hi
  refine f.rwr hl ?_
  rw [List.getD_eq_getElem?_getD, List.getElem?_eq_getElem hl]; rfl
theorem len_rows (h : rows.map (·.2) = C) : (rows.map rref).length = C.length := by rw [List.length_map]; exact snd_len h
theorem rref_setD (i : Nat) (d y : β) (hc : rows.map (·.2) = C) (hi : i < C.length) : HO.lst (rows.map rref) = .lst ((rows.set i ((rows.getD i (0, d)).1, y)).map rref) :=
  congrArg HO.lst (rref_set i (0, d) y (by rw [snd_len hc]; exact hi))
theorem atRow (hc : rows.map (·.2) = C) (d : β) {i : Int} (h0 : 0 ≤ i) (h1 : i < (C.length : Int)) : atI (rows.map rref) i = some (V.ref (rows.getD i.toNat (0, d)).1) :=
  atD (f := rref) ((0, d) : RO β) h0 (by rw [snd_len hc]; exact h1)
theorem atRowLast (hc : rows.map (·.2) = C) (d : β) (h : 0 < C.length) : atI (rows.map rref) (-1) = some (V.ref (rows.getD (C.length - 1) (0, d)).1) := by
  have := atLastD (f := rref) ((0, d) : RO β) (xs := rows) (by rw [snd_len hc]; exact h)
  rw [snd_len hc] at this
  exact this
theorem ixRow (hc : rows.map (·.2) = C) {i : Int} (h0 : 0 ≤ i) (h1 : i < (C.length : Int)) : ixN (rows.map rref).length i = some i.toNat := ixDm h0 (by rw [snd_len hc]; exact h1)
theorem walkT {K : PySem.W.Frag} {a : Addr} (hc : rows.map (·.2) = C) : Walk (Itl K a) C.length (fun H => H a = some (.lst (rows.map rref))) (fun i H x H' => H' = H ∧ ∃ y : RO β, rows[i]? = some y ∧ C[i]? = some y.2 ∧ x = V.ref y.1) := by
  have w := walkL (K := K) (a := a) rref rows
  rw [snd_len hc] at w
  refine w.mono (fun _ h => h) fun i H x H' _ _ y => ?_
  obtain ⟨e, z, hz, hx⟩ := y
  exact ⟨e, z, hz, snd_get hc hz, hx⟩
theorem mtn {α : Type} {f : α → β} {ns : List α} {i : Nat} {y : α} {x : β} (h : ns[i]? = some y) (e : x = f y) : (ns.take i).map f ++ [x] = (ns.take (i + 1)).map f := by
  rw [take_next h, List.map_append, e]; rfl
theorem mrn {f : Nat → β} {i : Nat} {x : β} (e : x = f i) : (List.range i).map f ++ [x] = (List.range (i + 1)).map f := by
  rw [List.range_succ, List.map_append, e]; rfl
/-- a loop over a list, item by item -/
def unr (K : PySem.W.Frag) (a : Addr) (all : List V) (g : TG) (tb : TS) (D : Ends) : List V → L2.St → Hp → Prop
  | [], σ, H => SqL K H a all ∧ D.nx σ H
  | x :: xs, σ, H => SqL K H a all ∧ g x σ H fun σ2 H2 => tb { D with nx := unr K a all g tb D xs, ct := unr K a all g tb D xs, bk := D.nx } σ2 H2
theorem for_unr {K : PySem.W.Frag} {a : Addr} {g : TG} {tb : TS} {D : Ends} {σ : L2.St} {H : Hp} (all : List V) (h : unr K a all g tb D all σ H) :
    ∃ W : Nat → Nat → L2.St → Hp → Prop, (∃ m, W 0 m σ H) ∧ ∀ i m σ H, W i m σ H →
      ((Itl K a).stop i H ∧ D.nx σ H) ∨ ((Itl K a).go i H ∧ ∃ N : L2.St → Hp → Prop, (∀ σ' H', N σ' H' → ∃ m', m' < m ∧ W (i + 1) m' σ' H') ∧ ∀ x H', (Itl K a).yld i H x H' → g x σ H' fun σ2 H2 => tb { D with nx := N, ct := N, bk := D.nx } σ2 H2) := by
  refine for_it (walk_list (xs := all)) (fun i σ H => unr K a all g tb D (all.drop i) σ H) h (fun i σ H _ p => ?_) (fun i x σ H H' hi p y => ?_) (fun σ H p => ?_)
  · cases e : all.drop i with
    | nil => rw [e] at p; exact p.1
    | cons x xs => rw [e] at p; exact p.1
  · obtain ⟨rfl, hx⟩ := y
    have e : all.drop i = x :: all.drop (i + 1) := by
      rw [List.drop_eq_getElem_cons hi]
      congr 1
      rw [List.getElem?_eq_getElem hi] at hx
      exact Option.some.inj hx
    rw [e] at p
    exact p.2
  · rw [List.drop_length] at p
    exact p.2
end
/-! == of tables -/
section
variable {β : Type} {g : β → HO} {K : PySem.W.Frag} {H : Hp} {a : Addr} {C : List β} {gd : β → PyData}
theorem dp_tab (t : Tab H g a C) (h : ∀ (b : Addr) (x : β), H b = some (g x) → Dp K H (.ref b) (gd x)) : Dp K H (.ref a) (.list (C.map gd)) := by
  obtain ⟨r, hc, ha, hr⟩ := t.ex
  subst hc
  refine .lst (SqL.of ha) ?_
  rw [List.map_map]
  clear ha t
  revert hr
  induction r with
  | nil => intro _; exact .nil
  | cons z r ih => intro hr; exact .cons (h _ _ (hr z List.mem_cons_self)) (ih fun w hw => hr w (List.mem_cons_of_mem _ hw))
theorem okd_tab {n : Nat} (h : ∀ x : β, Okd n (gd x)) : Okd (n + 1) (.list (C.map gd)) :=
  ⟨canAll (fun x => (h x).can) C, Nat.succ_le_succ (depthAll (fun x => (h x).dep) C)⟩
theorem dp_tabI {C : List (List Int)} (t : Tab H gI a C) : Dp K H (.ref a) (.list (C.map dI)) := dp_tab t fun _ _ h => dp_ints h
theorem dp_tabB {C : List (List Bool)} (t : Tab H gB a C) : Dp K H (.ref a) (.list (C.map dB)) := dp_tab t fun _ _ h => dp_bls h
theorem okd_tabI {n : Nat} (C : List (List Int)) : Okd (n + 2) (.list (C.map dI)) := okd_tab fun x => okd_ints x
theorem okd_tabB {n : Nat} (C : List (List Bool)) : Okd (n + 2) (.list (C.map dB)) := okd_tab fun x => okd_bls x
theorem eqv_tabI (C D : List (List Int)) : PyData.eqv (.list (C.map dI)) (.list (D.map dI)) = decide (C = D) := eqvAll_map (fun x y => eqv_ints x y) C D
theorem eqv_tabB (C D : List (List Bool)) : PyData.eqv (.list (C.map dB)) (.list (D.map dB)) = decide (C = D) := eqvAll_map (fun x y => eqv_bls x y) C D
theorem Tab.tov {C : List (List Int)} (t : Tab H gI a C) : Tab H gV a (C.map (List.map V.int)) := by
  obtain ⟨r, hc, ha, hr⟩ := t.ex
  refine ⟨r.map fun z => (z.1, z.2.map V.int), ?_, ?_, fun z hz => ?_⟩
  · rw [← hc, List.map_map, List.map_map]; rfl
  · rw [ha, List.map_map]; rfl
  · obtain ⟨w, hw, rfl⟩ := List.mem_map.mp hz
    exact hr w hw
theorem dp_tabV {C : List (List V)} (t : Tab H gV a C) (hs : ∀ x ∈ C, Sca x) : Dp K H (.ref a) (.list (C.map dV)) := by
  obtain ⟨r, hc, ha, hr⟩ := t.ex
  subst hc
  refine .lst (SqL.of ha) ?_
  rw [List.map_map]
  clear ha t
  revert hr hs
  induction r with
  | nil => intro _ _; exact .nil
  | cons z r ih =>
    intro hr hs
    refine .cons (dp_vals (hr z List.mem_cons_self) (hs z.2 ?_)) (ih (fun w hw => hr w (List.mem_cons_of_mem _ hw)) fun x hx => hs x ?_)
    · rw [List.map_cons]; exact List.mem_cons_self
    · rw [List.map_cons]; exact List.mem_cons_of_mem _ hx
theorem okd_tabV {n : Nat} {C : List (List V)} (hs : ∀ x ∈ C, Sca x) : Okd (n + 2) (.list (C.map dV)) := by
  refine ⟨?_, ?_⟩
  · show PyData.canLayAll0 (C.map dV) = true
    induction C with
    | nil => rfl
    | cons x C ih =>
      show ((dV x).canLay0 && PyData.canLayAll0 (C.map dV)) = true
      have h1 : Okd (n + 1) (dV x) := okd_vals (hs x List.mem_cons_self)
      rw [h1.can, ih fun v hv => hs v (List.mem_cons_of_mem _ hv)]; rfl
  · refine Nat.succ_le_succ (depthAll (n := n + 1) (fun xs => ?_) C)
    exact Nat.succ_le_succ (Nat.le_trans (depthAll (n := 0) (fun v => by cases v <;> exact Nat.zero_le _) xs) (Nat.zero_le _))
theorem eqv_II (a b c d : Int) : PyData.eqv (.tuple [.int a, .int b]) (.tuple [.int c, .int d]) = decide (a = c ∧ b = d) := by
  show ((a == c) && ((b == d) && true)) = _
  by_cases h : a = c
  · by_cases h' : b = d
    · simp [h, h']
    · simp [h']
  · simp [h]
end
end Rc
namespace Rc
open PySem PySem.Spec PyProof.Rows L2
section
variable {X : Cx}
theorem str_dec {i j : Str} : decide (V.str i = V.str j) = decide (i = j) := by
  by_cases h : i = j
  · subst h; rw [decide_eq_true rfl, decide_eq_true rfl]
  · rw [decide_eq_false h, decide_eq_false fun z => h (V.str.inj z)]
theorem op_eqStr : OpR X (compareOp .Eq) (fun x y H Q => ∃ i j : Str, x = .str i ∧ y = .str j ∧ (i = j → Q (.bl true) H) ∧ (¬ i = j → Q (.bl false) H)) := by
  intro pins s σ H x y v u Q I rx ry h
  obtain ⟨i, j, rfl, rfl, q1, q2⟩ := h
  refine op_eq pins s σ H _ _ v u Q I rx ry ⟨rfl, ?_⟩
  rw [str_dec]
  by_cases h : i = j
  · rw [decide_eq_true h]; exact q1 h
  · rw [decide_eq_false h]; exact q2 h
theorem op_neStr : OpR X (compareOp .NotEq) (fun x y H Q => ∃ i j : Str, x = .str i ∧ y = .str j ∧ (¬ i = j → Q (.bl true) H) ∧ (i = j → Q (.bl false) H)) := by
  intro pins s σ H x y v u Q I rx ry h
  obtain ⟨i, j, rfl, rfl, q1, q2⟩ := h
  refine op_ne pins s σ H _ _ v u Q I rx ry ⟨rfl, ?_⟩
  rw [str_dec]
  by_cases h : i = j
  · rw [decide_eq_true h]; exact q2 h
  · rw [decide_eq_false h]; exact q1 h
end
/-! words: parts that are whole -/
def intV : V → Int
  | .int x => x
  | _ => 0
def intsV (w : List V) : List Int := w.map intV
theorem intsV_map (w : List Int) : intsV (w.map V.int) = w := by
  unfold intsV; rw [List.map_map]; exact (List.map_congr_left fun _ _ => rfl).trans (List.map_id w)
theorem wordPart_int {m : Nat} {v : V} (h : wordPart m v = true) : v = V.int (intV v) ∧ 0 ≤ intV v ∧ intV v < (m : Int) := by
  cases v with
  | int z =>
    have h' : (decide (0 ≤ z) && decide (z < (m : Int))) = true := h
    rw [Bool.and_eq_true, decide_eq_true_eq, decide_eq_true_eq] at h'
    exact ⟨rfl, h'⟩
  | _ => cases h
theorem isWordV_ex {m : Nat} {w : List V} {n : Int} (h : isWordV m w n = true) : ∃ u : List Int, w = u.map V.int ∧ (∀ x ∈ u, 0 ≤ x ∧ x < (m : Int)) ∧ (u.length : Int) = n := by
  unfold isWordV at h
  rw [Bool.and_eq_true, decide_eq_true_eq, List.all_eq_true] at h
  refine ⟨intsV w, ?_, fun x hx => ?_, ?_⟩
  · unfold intsV; rw [List.map_map]
    refine (List.map_id w).symm.trans (List.map_congr_left fun v hv => ?_)
    exact (wordPart_int (h.2 v hv)).1
  · obtain ⟨v, hv, rfl⟩ := List.mem_map.mp hx
    exact (wordPart_int (h.2 v hv)).2
  · unfold intsV; rw [List.length_map]; exact h.1
end Rc
namespace Rc
open PySem PySem.Spec PyProof.Rows L2
theorem hu1 {n : Nat} (h : n + 64 < cLine) : n + 1 < cLine := by omega
theorem inl_inj : ∀ {a b : List Int}, a.map (Sum.inl : Int → Key) = b.map Sum.inl → a = b
  | [], [], _ => rfl
  | [], _ :: _, h => by simp at h
  | _ :: _, [], h => by simp at h
  | x :: a, y :: b, h => by
    rw [List.map_cons, List.map_cons] at h
    injection h with h1 h2
    rw [Sum.inl.inj h1, inl_inj h2]
/-! a dict that counts: of each list of whole numbers, how often it stands in L -/
def cntR : List (List Int) → List (List Key × V)
  | [] => []
  | k :: R => putK (cntR R) (k.map Sum.inl) (V.int ((R.count k : Int) + 1))
def cntD (L : List (List Int)) : List (List Key × V) := cntR L.reverse
def optC (L : List (List Int)) (k : List Int) : Option V := if L.count k = 0 then none else some (V.int (L.count k))
theorem cntR_val : ∀ (R : List (List Int)) (k : List Int), valV (cntR R) (k.map Sum.inl) = optC R k
  | [], k => rfl
  | j :: R, k => by
    rw [cntR, valV_put]
    unfold optC
    by_cases h : k = j
    · subst h
      rw [if_pos rfl, List.count_cons_self, if_neg (by omega)]; push_cast; rfl
    · rw [if_neg (fun z => h (inl_inj z)), cntR_val R k, List.count_cons_of_ne (fun z => h z.symm)]; rfl
theorem cntD_val (L : List (List Int)) (k : List Int) : valV (cntD L) (k.map Sum.inl) = optC L k := by
  unfold cntD; rw [cntR_val]; unfold optC; rw [List.count_reverse]
theorem optC_get (L : List (List Int)) (k : List Int) : (optC L k).getD (V.int 0) = V.int (L.count k) := by
  unfold optC; split
  · rename_i h; rw [h]; rfl
  · rfl
theorem cntD_next (L : List (List Int)) (k : List Int) : putK (cntD L) (k.map Sum.inl) (V.int ((L.count k : Int) + 1)) = cntD (L ++ [k]) := by
  unfold cntD; rw [List.reverse_append]
  show _ = cntR (k :: L.reverse)
  rw [cntR, List.count_reverse]
theorem putK_len {κ : Type} [DecidableEq κ] (c : List (κ × V)) (k : κ) (x : V) : (putK c k x).length ≤ c.length + 1 := by
  unfold putK; split
  · rw [List.length_map]; omega
  · rw [List.length_append]; simp
theorem cntR_len : ∀ R : List (List Int), (cntR R).length ≤ R.length
  | [] => Nat.le_refl _
  | k :: R => Nat.le_trans (putK_len _ _ _) (Nat.succ_le_succ (cntR_len R))
theorem cntD_len (L : List (List Int)) : (cntD L).length ≤ L.length := by
  have := cntR_len L.reverse
  rwa [List.length_reverse] at this
section
variable {H : Hp} {a b : Addr} {L : List (List Int)} {k ks : List Int} {x : Int}
theorem keys_int (k : List Int) : (k.map (Sum.inl : Int → Key)).map kV = k.map V.int := by rw [List.map_map]; rfl
theorem dget_cnt (h : H a = some (.dT (cntD L))) (hb : H b = some (.tup (k.map V.int))) : DGet H a (.ref b) (optC L k) := by
  rw [← cntD_val]; exact .t h (by rw [keys_int]; exact hb)
theorem dput_cnt (h : H a = some (.dT (cntD L))) (hb : H b = some (.tup (k.map V.int))) (hl : L.length < 16777216) : DPut H a (.ref b) (V.int ((L.count k : Int) + 1)) (upd H a (.dT (cntD (L ++ [k])))) := by
  rw [← cntD_next]
  exact .t h (by rw [keys_int]; exact hb) (Nat.lt_of_le_of_lt (cntD_len L) hl)
theorem isD_cnt (h : H a = some (.dT (cntD L))) : IsD H a := .inr ⟨_, .inl h⟩
/-! a dict of what was seen -/
def seenR : List Int → List (Key × V)
  | [] => []
  | k :: R => putK (seenR R) (Sum.inl k) (V.bl true)
def seenD (L : List Int) : List (Key × V) := seenR L.reverse
def optS (L : List Int) (k : Int) : Option V := if k ∈ L then some (V.bl true) else none
theorem seenR_val : ∀ (R : List Int) (k : Int), valV (seenR R) (Sum.inl k) = optS R k
  | [], k => rfl
  | j :: R, k => by
    rw [seenR, valV_put]
    unfold optS
    by_cases h : k = j
    · subst h; rw [if_pos rfl, if_pos List.mem_cons_self]
    · rw [if_neg (fun z => h (Sum.inl.inj z)), seenR_val R k]
      unfold optS
      have : k ∈ j :: R ↔ k ∈ R := by simp [h]
      simp only [this]
theorem seenD_val (L : List Int) (k : Int) : valV (seenD L) (Sum.inl k) = optS L k := by
  unfold seenD; rw [seenR_val]; unfold optS; simp only [List.mem_reverse]
theorem seenR_len : ∀ R : List Int, (seenR R).length ≤ R.length
  | [] => Nat.le_refl _
  | k :: R => Nat.le_trans (putK_len _ _ _) (Nat.succ_le_succ (seenR_len R))
theorem seenD_len (L : List Int) : (seenD L).length ≤ L.length := by
  have := seenR_len L.reverse
  rwa [List.length_reverse] at this
theorem dput_seen (h : H a = some (.dK (seenD ks))) (hl : ks.length < 16777216) : DPut H a (.int x) (V.bl true) (upd H a (.dK (seenD (ks ++ [x])))) := by
  have e : seenD (ks ++ [x]) = putK (seenD ks) (Sum.inl x) (V.bl true) := by unfold seenD; rw [List.reverse_append]; rfl
  rw [e]
  exact .k (k := Sum.inl x) h (Nat.lt_of_le_of_lt (seenD_len ks) hl)
end
def rInSeen : R2 := fun x y H Q => ∃ (z : Int) (a : Addr) (ks : List Int), x = .int z ∧ y = .ref a ∧ H a = some (.dK (seenD ks)) ∧ Q (.bl (decide (z ∈ ks))) H
theorem op_inSeen {X : Cx} (hu : X.A.units + 1 < cLine) : OpR X (compareOp .In) rInSeen := by
  intro pins s σ H x y v u Q I rx ry h
  obtain ⟨z, a, ks, rfl, rfl, ha, q⟩ := h
  cases ry
  have g : DGet H a (kV (Sum.inl z)) (valV (seenD ks) (Sum.inl z)) := DGet.k ha
  refine d_in hu I g rx fun s3 I3 => ⟨.bl _, H, I3, rfl, ?_⟩
  have e : (valV (seenD ks) (Sum.inl z)).isSome = decide (z ∈ ks) := by
    rw [seenD_val]; unfold optS
    by_cases h : z ∈ ks
    · rw [if_pos h, decide_eq_true h]; rfl
    · rw [if_neg h, decide_eq_false h]; rfl
  rw [e]; exact q
/-! a truth in a list of truths -/
def rNotInB (K : PySem.W.Frag) : R2 := fun x y H Q => ∃ (z : Bool) (p : Addr) (xs : List Bool), x = .bl z ∧ y = .ref p ∧ SqL K H p (xs.map V.bl) ∧ Q (.bl (decide (xs.contains z = false))) H
theorem inV_bl (z : Bool) : ∀ xs : List Bool, inV (V.bl z) (xs.map V.bl) = xs.contains z
  | [] => rfl
  | x :: xs => by
    have ih := inV_bl z xs
    rw [List.contains_cons, ← ih]
    show (eqV (V.bl x) (V.bl z) || inV (V.bl z) (xs.map V.bl)) = _
    cases z <;> cases x <;> rfl
theorem op_notInB {X : Cx} : OpR X (compareOp .NotIn) (rNotInB X.K) := by
  intro pins s σ H x y v u Q I rx ry h
  obtain ⟨z, p, xs, rfl, rfl, hp, q⟩ := h
  refine op_notIn_seq pins s σ H _ _ v u Q I rx ry ⟨p, _, rfl, .inl hp, rfl, ?_, ?_⟩
  · rw [List.all_map, List.all_eq_true]; intro w _; rfl
  · show Q (.bl (!inV (V.bl z) (xs.map V.bl))) H
    have e : (!xs.contains z) = decide (xs.contains z = false) := by cases xs.contains z <;> rfl
    rw [inV_bl, e]; exact q
/-! tuple of a list of whole numbers -/
def rTupL (K : PySem.W.Frag) : List V → Hp → VK → Prop := fun xs H Q => ∃ (p : Addr) (ns : List Int), xs = [.ref p] ∧ SqL K H p (ns.map V.int) ∧ ∀ l, H l = none → Q (.ref l) (upd H l (.tup (ns.map V.int)))
theorem call_tupL {X : Cx} : CallR X (.type "tuple") (rTupL X.K) := by
  intro pins s σ H xs us Q I r h
  obtain ⟨p, ns, rfl, hp, q⟩ := h
  exact call_tuple_of pins s σ H _ us Q I r ⟨p, _, rfl, .inl ⟨hp, q⟩⟩
end Rc
namespace Rc
open PySem PySem.Spec PyProof.Rows L2
/-! methods and makings that may raise -/
section
variable {X : Cx} {CX : CXT} {k : Nat} {f C : Addr} {fd : FuncData} {ps : List Str} {sp : Sp} {E : L2.St → XK} {x m : Str} {p pos apos : Pos} {e o : Expr} {es : List Expr} {ta : TE} {t : TA}
def tMethX (C : Addr) (m : Str) (sp : Sp) (E : L2.St → XK) (ta : TE) (t : TA) : TE := fun σ H Q => ta σ H fun x H1 => ∃ a dx fs, x = .ref a ∧ H1 a = some (.ins C dx fs) ∧ fs.lookup m = none ∧ t σ H1 fun vs H2 => sp (x :: vs) H2 Q (E σ)
theorem pe_methX {pl : Sem Bool} (he : PE X o ta) (c : Cls X.K C) (hm : Meth X.K C m f) (F : FnOk X.prog X.w X.K X.mg X.base CX k f fd ps sp) (hr : Room k X.A) (hb : Binds X.K fd ps []) (hx : ∀ σ, PassesAt CX X σ (E σ)) (ha : PA X (e :: es) t)
    (hst : starEach (e :: es) X.env = (false, eval e X.env) :: starEach es X.env := by rfl) (hpl : (backTo pos (starEach es X.env)).any (·.1) = false := by rfl)
    (ht : eval (.Call (.Attribute o m apos) (e :: es) [] pos) X.env = (do
      let ov ← eval o X.env
      standAt apos.atName
      let (f, first) ← holding [ov] (getMethod ov m pl)
      callWith pos f first (backTo pos (starEach (e :: es) X.env)) (backToKw pos (keywordEach [] X.env))) := by rfl) :
    PE X (.Call (.Attribute o m apos) (e :: es) [] pos) (tMethX C m sp E ta t) := by
  refine ⟨fun pins s σ H Q I h => ?_⟩
  refine PySem.W.methodCall_KW (pl := pl) (thn (he.run pins s σ H _ I h) fun u s1 ⟨x, H1, I1, rx, a, dx, fs, ex, ea, l, q⟩ => ?_) ht
  subst ex
  obtain rfl : u = Value.ref a := rx
  refine getmeth_ok I1 ea c hm l ?_
  refine PySem.W.callWith_K (first := [.ref a]) (h₀ := X.base) I.ok.mod.kin hm.kp (thn (ha.run pos pins s1 σ H1 _ I1 q) fun us s2 ⟨vs, H2, I2, r, q2⟩ => ⟨I2.kIn, ?_⟩) hst hpl
  exact run_fnS (us := .ref a :: us) (vs := .ref a :: vs) F hr hb (hx σ) I2 (.cons rfl r) q2
theorem pe_methX0 {pl : Sem Bool} (he : PE X o ta) (c : Cls X.K C) (hm : Meth X.K C m f) (F : FnOk X.prog X.w X.K X.mg X.base CX k f fd ps sp) (hr : Room k X.A) (hb : Binds X.K fd ps []) (hx : ∀ σ, PassesAt CX X σ (E σ))
    (ht : eval (.Call (.Attribute o m apos) [] [] pos) X.env = (do
      let ov ← eval o X.env
      standAt apos.atName
      let (f, first) ← holding [ov] (getMethod ov m pl)
      callWith pos f first (backTo pos (starEach [] X.env)) (backToKw pos (keywordEach [] X.env))) := by rfl) :
    PE X (.Call (.Attribute o m apos) [] [] pos) (tMethX C m sp E ta tNil) := by
  refine ⟨fun pins s σ H Q I h => ?_⟩
  refine PySem.W.methodCall_KW (pl := pl) (thn (he.run pins s σ H _ I h) fun u s1 ⟨x, H1, I1, rx, a, dx, fs, ex, ea, l, q⟩ => ?_) ht
  subst ex
  obtain rfl : u = Value.ref a := rx
  refine getmeth_ok I1 ea c hm l ?_
  exact PySem.W.callWith_K0 (first := [.ref a]) I1.kIn hm.kp (run_fnS (us := [.ref a]) (vs := [.ref a]) F hr hb (hx σ) I1 (.cons rfl .nil) q)
theorem run_makeX {pins : List (Addr × Obj)} {σ : L2.St} {H : Hp} {s : Shared} {Q : VK} {us : List Value} {vs : List V} (M : Mk X.K C f) (F : FnOk X.prog X.w X.K X.mg X.base CX k f fd ps sp) (hr : Room (k + 1) X.A) (hb : Binds X.K fd ps [])
    (hx : PassesAt CX X σ (E σ)) (I : Inv X pins σ H s) (r : Vals vs us)
    (h : ∀ x dx, H x = none → H dx = none → dx ≠ x → sp (.ref x :: vs) (upd (upd H dx (.own x)) x (.ins C dx [])) (fun v H2 => v = .non ∧ Q (.ref x) H2) (E σ)) :
    wpAny (model X.prog X.w) X.A (call (.ref C) us) (EP X pins σ Q) X.xe s := by
  have hq := h (s.heap.objs.size + 1) s.heap.objs.size (I.hok.fresh (Nat.le_succ _)) (I.hok.fresh (Nat.le_refl _)) (Nat.ne_of_lt (Nat.lt_succ_self _))
  have I2 := Inv.made (C := C) I
  have r2 : Vals (V.ref (s.heap.objs.size + 1) :: vs) (Value.ref (s.heap.objs.size + 1) :: us) := .cons rfl r
  have hl : (Value.ref (s.heap.objs.size + 1) :: us ++ []).length = ps.length := by
    have e := r2.length
    rw [F.len _ _ _ _ hq] at e
    rw [List.append_nil]
    exact e.symm
  have b := hb _ (Value.ref (s.heap.objs.size + 1) :: us) I2.kIn hl
  rw [List.append_nil] at b
  refine wpAny_call (make_map (f := f) I.kIn M.makes M.init (beq_iff_eq.mp M.fn) (codeAny_mono (F.run _ X.stack _ _ ⟨Value.ref (s.heap.objs.size + 1) :: us, []⟩ (Value.ref (s.heap.objs.size + 1) :: us) _ _ (E σ) (hr.make C us [])
    (I2.env0.make C us []) b r2 hq) fun r s' hq' => ?_))
  cases r with
  | error e => exact hx pins _ _ e s' I2 hq'
  | ok fl =>
    cases fl with
    | ret u =>
      obtain ⟨v, H', I3, rv, ev, q3⟩ := I2.after hq'
      subst ev
      exact ⟨rv, ⟨V.ref (s.heap.objs.size + 1), H', I3, rfl, q3⟩⟩
    | next => exact False.elim hq'
    | brk => exact False.elim hq'
    | cont => exact False.elim hq'
def tMakeX (C : Addr) (sp : Sp) (E : L2.St → XK) (t : TA) : TE := fun σ H Q => t σ H fun vs H1 => ∀ x dx, H1 x = none → H1 dx = none → dx ≠ x → sp (.ref x :: vs) (upd (upd H1 dx (.own x)) x (.ins C dx [])) (fun v H2 => v = .non ∧ Q (.ref x) H2) (E σ)
theorem pe_makeX (M : Mk X.K C f) (F : FnOk X.prog X.w X.K X.mg X.base CX k f fd ps sp) (hr : Room (k + 1) X.A) (hg : Gl X x) (hm : X.mg x = some (.ref C)) (hb : Binds X.K fd ps []) (hx : ∀ σ, PassesAt CX X σ (E σ))
    (ha : PA X (e :: es) t) (hdb : (x == ("__debug__" : Str)) = false := by decide) (he : starEach (e :: es) X.env = (false, eval e X.env) :: starEach es X.env := by rfl) (hpl : (backTo pos (starEach es X.env)).any (·.1) = false := by rfl) :
    PE X (.Call (.Name x p) (e :: es) [] pos) (tMakeX C sp E t) := by
  refine ⟨fun pins s σ H Q I h => ?_⟩
  refine wpAny_Call_Name_kw (ld_glob I hg hm ?_ hdb)
  refine PySem.W.callWith_K (h₀ := X.base) I.ok.mod.kin M.kp (thn (ha.run pos pins s σ H _ I h) fun us s1 ⟨vs, H1, I1, r, q⟩ => ⟨I1.kIn, ?_⟩) he hpl
  exact run_makeX M F hr hb (hx σ) I1 r q
end
end Rc
namespace Rc
open PySem PySem.Spec PyProof.Rows L2
/-! what is lent to a def that changes it -/
def minus (H : Hp) (as : List Addr) : Hp := fun b => if b ∈ as then none else H b
structure Lent (Hm H : Hp) (fp : List (Addr × HO)) : Prop where
  fr : Fr Hm H fp
  rest : ∀ b x, H b = some x → b ∉ fp.map (·.1) → Hm b = some x
section
variable {H0 H H1 Hm : Hp} {fp rest own' : List (Addr × HO)}
theorem Fr.mn (f : Fr H0 H (fp ++ rest)) : Fr H0 (minus H (fp.map (·.1))) rest := by
  have nd := f.nd
  rw [List.map_append] at nd
  have dis := (List.nodup_append.mp nd).2.2
  refine ⟨fun b x e => ?_, fun z hz => ?_, (List.nodup_append.mp nd).2.1⟩
  · unfold minus
    rw [if_neg]
    · exact f.same _ _ e
    · intro hb
      obtain ⟨z, hz, rfl⟩ := List.mem_map.mp hb
      have := (f.frs z (List.mem_append_left _ hz)).1
      rw [this] at e; cases e
  · refine ⟨(f.frs z (List.mem_append_right _ hz)).1, ?_⟩
    unfold minus
    rw [if_neg]
    · exact (f.frs z (List.mem_append_right _ hz)).2
    · intro hb
      exact dis _ hb _ (List.mem_map.mpr ⟨z, hz, rfl⟩) rfl
theorem Fr.lent (f : Fr H0 H (fp ++ rest)) : Lent (minus H (fp.map (·.1))) H fp := by
  have nd := f.nd
  rw [List.map_append] at nd
  refine ⟨⟨fun b x e => ?_, fun z hz => ⟨?_, (f.frs z (List.mem_append_left _ hz)).2⟩, (List.nodup_append.mp nd).1⟩, fun b x e hb => ?_⟩
  · unfold minus at e
    by_cases hb : b ∈ fp.map (·.1)
    · rw [if_pos hb] at e; cases e
    · rw [if_neg hb] at e; exact e
  · unfold minus; rw [if_pos (List.mem_map.mpr ⟨z, hz, rfl⟩)]
  · unfold minus; rw [if_neg hb]; exact e
theorem Fr.back (f : Fr H0 H (fp ++ rest)) (g : Fr (minus H (fp.map (·.1))) H1 own') : Fr H0 H1 (own' ++ rest) := by
  have m := f.mn
  refine ⟨fun b x e => g.same _ _ (m.same _ _ e), fun z hz => ?_, ?_⟩
  · rcases List.mem_append.mp hz with hz | hz
    · exact ⟨m.same.free (g.frs z hz).1, (g.frs z hz).2⟩
    · exact ⟨(m.frs z hz).1, g.same _ _ (m.frs z hz).2⟩
  · rw [List.map_append]
    refine List.nodup_append.mpr ⟨g.nd, m.nd, fun a ha b hb hab => ?_⟩
    subst hab
    obtain ⟨z, hz, rfl⟩ := List.mem_map.mp ha
    obtain ⟨y, hy, e⟩ := List.mem_map.mp hb
    have h1 := (g.frs z hz).1
    rw [← e, (m.frs y hy).2] at h1
    cases h1
/-- what was lent stands again as it was: all stands -/
theorem Lent.all (l : Lent Hm H fp) (f : Fr Hm H1 (fp ++ rest)) : Same H H1 := fun b x e => by
  by_cases hb : b ∈ fp.map (·.1)
  · obtain ⟨z, hz, rfl⟩ := List.mem_map.mp hb
    rw [(l.fr.frs z hz).2] at e
    cases e
    exact (f.frs z (List.mem_append_left _ hz)).2
  · exact f.same _ _ (l.rest b x e hb)
end
/-! the front of what is told: plain objects, then tails -/
section
variable {H0 H H1 Hm : Hp} {bpre pre bpre' new : List (Addr × HO)} {bts ts bts' : List (List (Addr × HO))}
theorem split_perm {α : Type} (a b : List α) (c d : List (List α)) : ((a ++ b) ++ (c ++ d).flatten).Perm ((a ++ c.flatten) ++ (b ++ d.flatten)) := by
  rw [List.flatten_append, List.append_assoc, List.append_assoc]
  refine List.Perm.append_left _ ?_
  rw [← List.append_assoc, ← List.append_assoc]
  exact List.Perm.append_right _ List.perm_append_comm
theorem Fr.split (f : Fr H0 H ((bpre ++ pre) ++ (bts ++ ts).flatten)) : Fr H0 H ((bpre ++ bts.flatten) ++ (pre ++ ts.flatten)) := f.perm (split_perm _ _ _ _)
theorem Fr.back2 (f : Fr H0 H ((bpre ++ bts.flatten) ++ (pre ++ ts.flatten))) (g : Fr (minus H ((bpre ++ bts.flatten).map (·.1))) H1 (bpre' ++ bts'.flatten)) : Fr H0 H1 ((bpre' ++ pre) ++ (bts' ++ ts).flatten) :=
  (f.back g).perm (split_perm _ _ _ _).symm
/-- new objects of a call that lends nothing -/
theorem Fr.comp2 (f : Fr H0 H (pre ++ ts.flatten)) (g : Fr H H1 (bpre' ++ bts'.flatten)) : Fr H0 H1 ((bpre' ++ pre) ++ (bts' ++ ts).flatten) :=
  (Fr.comp f g).perm (split_perm _ _ _ _).symm
end
theorem permS {α : Type} (X A R : List α) : (X ++ (A ++ R)).Perm (A ++ (X ++ R)) := by
  rw [← List.append_assoc, ← List.append_assoc A X R]; exact List.Perm.append_right _ List.perm_append_comm
/-! a riffle done: its tuple, marks, word -/
structure PE where
  t : Addr
  m : Addr
  w : Addr
  marks : List Bool
  word : List Int
def peRef (e : PE) : V := .ref e.t
def peOwn (e : PE) : List (Addr × HO) := [(e.t, .tup [.ref e.m, .ref e.w]), (e.m, .lst (e.marks.map V.bl)), (e.w, .lst (e.word.map V.int))]
def pesOwn (es : List PE) : List (Addr × HO) := es.flatMap peOwn
abbrev PC := List Bool × List Int
def peC (e : PE) : PC := (e.marks, e.word)
section
variable {H0 H H' H1 : Hp} {own pre : List (Addr × HO)} {ts : List (List (Addr × HO))} {T : List (Addr × HO)} {at_ am aw p : Addr} {marks : List Bool} {word : List Int} {es : List PE} {C : List PC}
theorem pesOwn_app (es es' : List PE) : pesOwn (es ++ es') = pesOwn es ++ pesOwn es' := by unfold pesOwn; rw [List.flatMap_append]
theorem pesOwn_one (e : PE) : pesOwn [e] = peOwn e := by unfold pesOwn; simp
/-- three own objects become the last riffle of the first tail -/
theorem Fr.padd (f : Fr H0 H ((at_, .tup [.ref am, .ref aw]) :: (am, .lst (marks.map V.bl)) :: (aw, .lst (word.map V.int)) :: (pre ++ (pesOwn es :: ts).flatten))) : Fr H0 H (pre ++ (pesOwn (es ++ [⟨at_, am, aw, marks, word⟩]) :: ts).flatten) := by
  refine f.perm ?_
  rw [pesOwn_app, pesOwn_one]
  show (peOwn ⟨at_, am, aw, marks, word⟩ ++ (pre ++ (pesOwn es ++ ts.flatten))).Perm (pre ++ ((pesOwn es ++ peOwn ⟨at_, am, aw, marks, word⟩) ++ ts.flatten))
  generalize peOwn ⟨at_, am, aw, marks, word⟩ = X
  generalize pesOwn es = Y
  rw [List.append_assoc Y X]
  refine (permS X pre _).trans (List.Perm.append_left _ ?_)
  exact permS X Y _
theorem Fr.pnew (f : Fr H0 H (pre ++ ts.flatten)) : Fr H0 H (pre ++ (pesOwn [] :: ts).flatten) := f
/-- the last riffle of the first tail is taken out -/
theorem Fr.ppop (f : Fr H0 H (pre ++ (pesOwn es :: ts).flatten)) (h : es ≠ []) :
    Fr H0 H (((es.getLast h).t, .tup [.ref (es.getLast h).m, .ref (es.getLast h).w]) :: ((es.getLast h).m, .lst ((es.getLast h).marks.map V.bl)) :: ((es.getLast h).w, .lst ((es.getLast h).word.map V.int)) :: (pre ++ (pesOwn es.dropLast :: ts).flatten)) := by
  have e : pesOwn es = pesOwn es.dropLast ++ peOwn (es.getLast h) := by
    rw [← pesOwn_one, ← pesOwn_app, List.dropLast_concat_getLast]
  refine f.perm ?_
  show (pre ++ (pesOwn es ++ ts.flatten)).Perm (peOwn (es.getLast h) ++ (pre ++ (pesOwn es.dropLast ++ ts.flatten)))
  rw [e]
  generalize peOwn (es.getLast h) = X
  generalize pesOwn es.dropLast = Y
  rw [List.append_assoc]
  refine (List.Perm.append_left pre (permS Y X _)).trans ?_
  exact permS pre X _
theorem pes_mem {e : PE} {z : Addr × HO} (he : e ∈ es) (hz : z ∈ peOwn e) : z ∈ pesOwn es := List.mem_flatMap.mpr ⟨e, he, hz⟩
/-- the riffles stand -/
def PesAt (H : Hp) (es : List PE) : Prop := ∀ z ∈ pesOwn es, H z.1 = some z.2
theorem PesAt.same (h : PesAt H es) (s : Same H H') : PesAt H' es := fun z hz => s _ _ (h z hz)
theorem PesAt.t {e : PE} (h : PesAt H es) (he : e ∈ es) : H e.t = some (.tup [.ref e.m, .ref e.w]) := h _ (pes_mem he List.mem_cons_self)
theorem PesAt.m {e : PE} (h : PesAt H es) (he : e ∈ es) : H e.m = some (.lst (e.marks.map V.bl)) := h _ (pes_mem he (List.mem_cons_of_mem _ List.mem_cons_self))
theorem PesAt.w {e : PE} (h : PesAt H es) (he : e ∈ es) : H e.w = some (.lst (e.word.map V.int)) := h _ (pes_mem he (List.mem_cons_of_mem _ (List.mem_cons_of_mem _ List.mem_cons_self)))
theorem Fr.pes (f : Fr H0 H (pre ++ ts.flatten)) (k : Nat) (h : ts[k]? = some (pesOwn es)) : PesAt H es := fun z hz =>
  f.mem (List.mem_append_right _ (List.mem_flatten.mpr ⟨_, List.mem_of_getElem? h, hz⟩))
theorem pc_len (h : es.map peC = C) : es.length = C.length := by rw [← h, List.length_map]
theorem pc_len2 (h : es.map peC = C) : (es.map peRef).length = C.length := by rw [List.length_map, pc_len h]
theorem pc_get {i : Nat} {e : PE} (h : es.map peC = C) (he : es[i]? = some e) : C[i]? = some (e.marks, e.word) := by subst h; rw [List.getElem?_map, he]; rfl
theorem pc_app (h : es.map peC = C) : (es ++ [(⟨at_, am, aw, marks, word⟩ : PE)]).map peC = C ++ [(marks, word)] := by rw [List.map_append, h]; rfl
theorem pc_pop (h : es.map peC = C) : es.dropLast.map peC = C.dropLast := by rw [← h, List.map_dropLast]
theorem pc_last (h : es.map peC = C) (hn : es ≠ []) (d : PC) : ((es.getLast hn).marks, (es.getLast hn).word) = C.getLastD d := by
  subst h
  rw [List.getLastD_eq_getLast?, List.getLast?_map, List.getLast?_eq_some_getLast hn]; rfl
theorem lst_pe_app : HO.lst (es.map peRef ++ [V.ref at_]) = .lst ((es ++ [(⟨at_, am, aw, marks, word⟩ : PE)]).map peRef) := by rw [List.map_append]; rfl
theorem lst_pe_pop : HO.lst ((es.map peRef).dropLast) = .lst (es.dropLast.map peRef) := by rw [List.map_dropLast]
/-- the place of a riffle, by a number -/
def peD (es : List PE) (i : Nat) : PE := es.getD i ⟨0, 0, 0, [], []⟩
theorem peD_mem {i : Nat} (h : i < es.length) : peD es i ∈ es := getD_mem h
theorem pc_at {i : Nat} (h : es.map peC = C) (hi : i < C.length) : (peD es i).marks = (C.getD i ([], [])).1 ∧ (peD es i).word = (C.getD i ([], [])).2 := by
  have hl : i < es.length := by rw [pc_len h]; exact hi
  subst h
  unfold peD
  simp [List.getD, hl, peC]
theorem atPe (h : es.map peC = C) {i : Int} (h0 : 0 ≤ i) (h1 : i < (C.length : Int)) : atI (es.map peRef) i = some (V.ref (peD es i.toNat).t) :=
  atD (f := peRef) ⟨0, 0, 0, [], []⟩ h0 (by rw [pc_len h]; exact h1)
theorem walkP {K : PySem.W.Frag} {a : Addr} (hc : es.map peC = C) : Walk (Itl K a) C.length (fun H => H a = some (.lst (es.map peRef))) (fun i H x H' => H' = H ∧ ∃ y : PE, es[i]? = some y ∧ C[i]? = some (y.marks, y.word) ∧ x = V.ref y.t) := by
  have w := walkL (K := K) (a := a) peRef es
  rw [pc_len hc] at w
  refine w.mono (fun _ h => h) fun i H x H' _ _ y => ?_
  obtain ⟨e, z, hz, hx⟩ := y
  exact ⟨e, z, hz, pc_get hc hz, hx⟩
/-- a pst from a call -/
structure PstAt (H : Hp) (a : Addr) (es : List PE) (C : List PC) : Prop where
  e : H a = some (.lst (es.map peRef))
  r : PesAt H es
  c : es.map peC = C
theorem PstAt.same {a : Addr} (h : PstAt H a es C) (s : Same H H') : PstAt H' a es C := ⟨s _ _ h.e, h.r.same s, h.c⟩
end
/-! a pack -/
def pkF (a b : Addr) : List (Str × V) := putF "past" (.ref b) (putF "cards" (.ref a) [])
theorem pk_ne : ¬ (("cards" : Str) = "past") := by decide +kernel
theorem pkF_eq (a b : Addr) : pkF a b = ([("cards", V.ref a), ("past", V.ref b)] : List (Str × V)) := by
  show (if ("cards" : Str) = "past" then [(("cards" : Str), V.ref b)] else (("cards" : Str), V.ref a) :: putF "past" (V.ref b) []) = _
  rw [if_neg pk_ne]; rfl
theorem pkF_cards (a b : Addr) : (pkF a b).lookup ("cards" : Str) = some (.ref a) := by
  unfold pkF; rw [lookup_putF, if_neg pk_ne, lookup_putF, if_pos rfl]
theorem pkF_past (a b : Addr) : (pkF a b).lookup ("past" : Str) = some (.ref b) := by
  unfold pkF; rw [lookup_putF, if_pos rfl]
theorem pkF_no (a b : Addr) {m : Str} (h1 : ¬ m = "past") (h2 : ¬ m = "cards") : (pkF a b).lookup m = none := by
  unfold pkF; rw [lookup_putF, if_neg h1, lookup_putF, if_neg h2]; rfl
theorem pkF_len (a b : Addr) : (pkF a b).length < 1000 := by rw [pkF_eq]; show 2 < 1000; decide
theorem pkF_put (a b c : Addr) : putF "cards" (.ref c) (pkF a b) = pkF c b := by
  rw [pkF_eq, pkF_eq]
  show (if ("cards" : Str) = "cards" then (("cards" : Str), V.ref c) :: [(("past" : Str), V.ref b)] else _) = _
  rw [if_pos rfl]
structure PK where
  dx : Addr
  a : Addr
  b : Addr
  es : List PE
  order : List Int
def PK.past (k : PK) : List PC := k.es.map peC
theorem pk_past (k : PK) : k.es.map peC = k.past := rfl
def pkOwn (C p : Addr) (k : PK) : List (Addr × HO) := [(p, .ins C k.dx (pkF k.a k.b)), (k.dx, .own p), (k.a, .lst (k.order.map V.int)), (k.b, .lst (k.es.map peRef))] ++ pesOwn k.es
/-- a pack that stands -/
def PkAt (C : Addr) (H : Hp) (p : Addr) (k : PK) : Prop := ∀ z ∈ pkOwn C p k, H z.1 = some z.2
section
variable {H0 H H' H1 : Hp} {pre : List (Addr × HO)} {ts : List (List (Addr × HO))} {C ap : Addr} {k : PK}
theorem PkAt.same (h : PkAt C H ap k) (s : Same H H') : PkAt C H' ap k := fun z hz => s _ _ (h z hz)
theorem PkAt.p (h : PkAt C H ap k) : H ap = some (.ins C k.dx (pkF k.a k.b)) := h _ List.mem_cons_self
theorem PkAt.a (h : PkAt C H ap k) : H k.a = some (.lst (k.order.map V.int)) := h _ (List.mem_cons_of_mem _ (List.mem_cons_of_mem _ List.mem_cons_self))
theorem PkAt.b (h : PkAt C H ap k) : H k.b = some (.lst (k.es.map peRef)) := h _ (List.mem_cons_of_mem _ (List.mem_cons_of_mem _ (List.mem_cons_of_mem _ List.mem_cons_self)))
theorem PkAt.es (h : PkAt C H ap k) : PesAt H k.es := fun z hz => h z (List.mem_append_right _ hz)
theorem PkAt.past (h : PkAt C H ap k) : PstAt H k.b k.es k.past := ⟨h.b, h.es, rfl⟩
theorem Fr.pk (f : Fr H0 H (pre ++ ts.flatten)) (j : Nat) (h : ts[j]? = some (pkOwn C ap k)) : PkAt C H ap k := fun z hz =>
  f.mem (List.mem_append_right _ (List.mem_flatten.mpr ⟨_, List.mem_of_getElem? h, hz⟩))
/-- a lent pack, opened -/
theorem Fr.pkopen (f : Fr H0 H (pre ++ (pkOwn C ap k :: ts).flatten)) :
    Fr H0 H (((ap, .ins C k.dx (pkF k.a k.b)) :: (k.dx, .own ap) :: (k.a, .lst (k.order.map V.int)) :: (k.b, .lst (k.es.map peRef)) :: pre) ++ (pesOwn k.es :: ts).flatten) := by
  refine f.perm ?_
  show (pre ++ ((([(ap, .ins C k.dx (pkF k.a k.b)), (k.dx, .own ap), (k.a, .lst (k.order.map V.int)), (k.b, .lst (k.es.map peRef))] : List (Addr × HO)) ++ pesOwn k.es) ++ ts.flatten)).Perm ((([(ap, .ins C k.dx (pkF k.a k.b)), (k.dx, .own ap), (k.a, .lst (k.order.map V.int)), (k.b, .lst (k.es.map peRef))] : List (Addr × HO)) ++ pre) ++ (pesOwn k.es ++ ts.flatten))
  generalize ([(ap, .ins C k.dx (pkF k.a k.b)), (k.dx, .own ap), (k.a, .lst (k.order.map V.int)), (k.b, .lst (k.es.map peRef))] : List (Addr × HO)) = X
  rw [List.append_assoc X, List.append_assoc X]
  exact permS pre X _
/-- a pack, closed -/
theorem Fr.pkclose {dx a b : Addr} {es : List PE} {order : List Int} (f : Fr H0 H (((ap, .ins C dx (pkF a b)) :: (dx, .own ap) :: (a, .lst (order.map V.int)) :: (b, .lst (es.map peRef)) :: pre) ++ (pesOwn es :: ts).flatten)) :
    Fr H0 H (pre ++ (pkOwn C ap ⟨dx, a, b, es, order⟩ :: ts).flatten) := by
  refine f.perm ?_
  show ((([(ap, .ins C dx (pkF a b)), (dx, .own ap), (a, .lst (order.map V.int)), (b, .lst (es.map peRef))] : List (Addr × HO)) ++ pre) ++ (pesOwn es ++ ts.flatten)).Perm (pre ++ ((([(ap, .ins C dx (pkF a b)), (dx, .own ap), (a, .lst (order.map V.int)), (b, .lst (es.map peRef))] : List (Addr × HO)) ++ pesOwn es) ++ ts.flatten))
  generalize ([(ap, .ins C dx (pkF a b)), (dx, .own ap), (a, .lst (order.map V.int)), (b, .lst (es.map peRef))] : List (Addr × HO)) = X
  rw [List.append_assoc X, List.append_assoc X]
  exact permS X pre _
end
end Rc
namespace Rc
open PySem PySem.Spec PyProof.Rows L2
section
variable {H0 H H1 Hm : Hp} {fp own : List (Addr × HO)} {bpre pre : List (Addr × HO)} {bts ts : List (List (Addr × HO))} {x dx : Addr} {o : HO} {es : List PE} {C : List PC}
theorem Lent.all0 (l : Lent Hm H fp) (f : Fr Hm H1 fp) : Same H H1 := l.all (rest := []) (by rw [List.append_nil]; exact f)
theorem Fr.unsplit (f : Fr H0 H ((bpre ++ bts.flatten) ++ (pre ++ ts.flatten))) : Fr H0 H ((bpre ++ pre) ++ (bts ++ ts).flatten) := f.perm (split_perm _ _ _ _).symm
theorem Fr.made (f : Fr H0 H own) (nx : H x = none) (ndx : H dx = none) (ne : dx ≠ x) : Fr H0 (upd (upd H dx (.own x)) x o) ((x, o) :: (dx, .own x) :: own) :=
  (f.new ndx).new (by rw [upd_ne (fun e => ne e.symm)]; exact nx)
theorem pc_ne (h : es.map peC = C) (hC : 0 < C.length) : es ≠ [] := fun z => by subst z; subst h; exact absurd hC (by decide)
theorem pe_last (h : es ≠ []) : (es.map peRef)[(es.map peRef).length - 1]? = some (V.ref (es.getLast h).t) := by
  rw [List.getElem?_map, List.length_map, ← List.getLast?_eq_getElem?, List.getLast?_eq_some_getLast h]; rfl
end
end Rc
namespace Rc
open PySem PySem.Spec PyProof.Rows L2
section
variable {β : Type} {g : β → HO} {H0 H : Hp} {pre : List (Addr × HO)} {ts : List (List (Addr × HO))} {rows : List (RO β)} {C : List β}
theorem tab_ne (h : rows.map (·.2) = C) (hC : 0 < C.length) : rows ≠ [] := fun z => by subst z; subst h; exact absurd hC (by simp)
theorem tab_last (h : rows ≠ []) : (rows.map rref)[(rows.map rref).length - 1]? = some (V.ref (rows.getLast h).1) := by
  rw [List.getElem?_map, List.length_map, ← List.getLast?_eq_getElem?, List.getLast?_eq_some_getLast h]; rfl
theorem lst_rref_pop : HO.lst ((rows.map rref).dropLast) = .lst (rows.dropLast.map rref) := by rw [List.map_dropLast]
theorem snd_pop (h : rows.map (·.2) = C) : rows.dropLast.map (·.2) = C.dropLast := by rw [← h, List.map_dropLast]
theorem Fr.rpop (f : Fr H0 H (pre ++ (rosOwn g rows :: ts).flatten)) (h : rows ≠ []) : Fr H0 H (((rows.getLast h).1, g (rows.getLast h).2) :: (pre ++ (rosOwn g rows.dropLast :: ts).flatten)) := by
  have e : rosOwn g rows = rosOwn g rows.dropLast ++ [((rows.getLast h).1, g (rows.getLast h).2)] := by
    unfold rosOwn
    conv => lhs; rw [← List.dropLast_concat_getLast h]
    rw [List.map_append]; rfl
  refine f.perm ?_
  show (pre ++ (rosOwn g rows ++ ts.flatten)).Perm (((rows.getLast h).1, g (rows.getLast h).2) :: (pre ++ (rosOwn g rows.dropLast ++ ts.flatten)))
  rw [e]
  generalize rosOwn g rows.dropLast = Y
  generalize ((rows.getLast h).1, g (rows.getLast h).2) = z
  rw [List.append_assoc]
  refine (List.Perm.append_left pre (permS Y [z] _)).trans ?_
  exact permS pre [z] _
theorem tab_getLast (h : rows.map (·.2) = C) (hn : rows ≠ []) (d : β) : (rows.getLast hn).2 = C.getLastD d := by
  subst h
  rw [List.getLastD_eq_getLast?, List.getLast?_map, List.getLast?_eq_some_getLast hn]; rfl
end
end Rc
namespace Rc
open PySem PySem.Spec PyProof.Rows L2
/-- a comprehension over a list, item by item -/
def unrc (K : PySem.W.Frag) (a D : Addr) (all : List V) (g : TG) (tt : TT) (te : TE) (vs : List Nat) (σ : L2.St) (Qd : Hp → Prop) : List V → Hp → Prop
  | [], H => SqL K H a all ∧ Qd H
  | x :: xs, H => SqL K H a all ∧ g x (wipe σ vs) H fun σ2 H2 => wipe σ2 vs = wipe σ vs ∧ tt σ2 H2 fun b H3 =>
      if b = true then te σ2 H3 fun y H4 => ∃ acc, H4 D = some (.lst acc) ∧ acc.length < sizeLine ∧ unrc K a D all g tt te vs σ Qd xs (upd H4 D (.lst (acc ++ [y]))) else unrc K a D all g tt te vs σ Qd xs H3
theorem lc_unr {K : PySem.W.Frag} {a D : Addr} {g : TG} {tt : TT} {te : TE} {vs : List Nat} {σ : L2.St} {H1 : Hp} {Qd : Hp → Prop} (all : List V) (h : unrc K a D all g tt te vs σ Qd all (upd H1 D (.lst []))) :
    ∃ W : Nat → Nat → Hp → Prop, (∃ m, W 0 m (upd H1 D (.lst []))) ∧ ∀ i m H, W i m H →
      ((Itl K a).stop i H ∧ Qd H) ∨ ((Itl K a).go i H ∧ ∃ Nx : Hp → Prop, (∀ H', Nx H' → ∃ m', m' < m ∧ W (i + 1) m' H') ∧ ∀ x H', (Itl K a).yld i H x H' → g x (wipe σ vs) H' fun σ2 H2 => wipe σ2 vs = wipe σ vs ∧ tt σ2 H2 fun b H3 =>
        if b = true then te σ2 H3 fun y H4 => ∃ acc, H4 D = some (.lst acc) ∧ acc.length < sizeLine ∧ Nx (upd H4 D (.lst (acc ++ [y]))) else Nx H3) := by
  refine lc_it (walk_list (xs := all)) (fun i H => unrc K a D all g tt te vs σ Qd (all.drop i) H) h (fun i H _ p => ?_) (fun i x H H' hi p y => ?_) (fun H p => ?_)
  · cases e : all.drop i with
    | nil => rw [e] at p; exact p.1
    | cons x xs => rw [e] at p; exact p.1
  · obtain ⟨rfl, hx⟩ := y
    have e : all.drop i = x :: all.drop (i + 1) := by
      rw [List.drop_eq_getElem_cons hi]
      congr 1
      rw [List.getElem?_eq_getElem hi] at hx
      exact Option.some.inj hx
    rw [e] at p
    exact p.2
  · rw [List.drop_length] at p
    exact p.2
/-! riffles that are scribbled over: no marks, a nine behind the word -/
def scr (e : PE) : PE := { e with marks := [], word := e.word ++ [9] }
def scrTo (es : List PE) (i : Nat) : List PE := (es.take i).map scr ++ es.drop i
section
variable {H0 H : Hp} {pre : List (Addr × HO)} {ts : List (List (Addr × HO))} {es : List PE} {i : Nat} {y : PE}
theorem scrTo_zero : scrTo es 0 = es := by unfold scrTo; rw [List.take_zero, List.map_nil, List.drop_zero]; rfl
theorem scrTo_get (h : es[i]? = some y) : (scrTo es i)[i]? = some y := by
  unfold scrTo
  have hi := (List.getElem?_eq_some_iff.mp h).1
  rw [List.getElem?_append_right (by rw [List.length_map, List.length_take]; omega), List.length_map, List.length_take, List.getElem?_drop]
  rw [show i + (i - min i es.length) = i by omega]; exact h
theorem scrTo_next (h : es[i]? = some y) : (scrTo es i).set i (scr y) = scrTo es (i + 1) := by
  have hi := (List.getElem?_eq_some_iff.mp h).1
  have hy := (List.getElem?_eq_some_iff.mp h).2
  unfold scrTo
  have hl : ((es.take i).map scr).length = i := by rw [List.length_map, List.length_take]; omega
  rw [List.set_append_right _ _ (by omega), hl, Nat.sub_self, List.drop_eq_getElem_cons hi, List.set_cons_zero, take_next h, List.map_append, List.append_assoc]
  rfl
theorem peOwn_split (h : es[i]? = some y) : (pesOwn es).Perm (peOwn y ++ pesOwn (es.eraseIdx i)) := by
  have p1 : es.Perm (y :: es.eraseIdx i) := getElem?_perm h
  unfold pesOwn
  exact (List.Perm.flatMap_right _ p1).trans (by rw [List.flatMap_cons])
theorem set_split {z : PE} (h : i < es.length) : (pesOwn (es.set i z)).Perm (peOwn z ++ pesOwn (es.eraseIdx i)) := by
  have h1 : (es.set i z)[i]? = some z := by simp [h]
  have e : (es.set i z).eraseIdx i = es.eraseIdx i := by
    rw [List.eraseIdx_eq_take_drop_succ, List.eraseIdx_eq_take_drop_succ, List.take_set, List.drop_set]
    rw [if_pos (by omega)]
    rw [List.set_eq_of_length_le (by rw [List.length_take]; omega)]
  have := peOwn_split h1
  rwa [e] at this
theorem Fr.psetm {ms : List Bool} (f : Fr H0 H (pre ++ (pesOwn es :: ts).flatten)) (h : es[i]? = some y) : Fr H0 (upd H y.m (.lst (ms.map V.bl))) (pre ++ (pesOwn (es.set i { y with marks := ms }) :: ts).flatten) := by
  have hi := (List.getElem?_eq_some_iff.mp h).1
  have f1 : Fr H0 H ((y.m, .lst (y.marks.map V.bl)) :: ((y.t, .tup [.ref y.m, .ref y.w]) :: (y.w, .lst (y.word.map V.int)) :: (pre ++ (pesOwn (es.eraseIdx i) ++ ts.flatten)))) := by
    refine f.perm ?_
    show (pre ++ (pesOwn es ++ ts.flatten)).Perm _
    refine (List.Perm.append_left pre (List.Perm.append_right _ (peOwn_split h))).trans ?_
    rw [List.append_assoc]
    refine (permS pre (peOwn y) _).trans ?_
    exact List.Perm.swap _ _ _
  refine (Fr.wr (o' := .lst (ms.map V.bl)) f1).perm ?_
  refine (List.Perm.swap _ _ _).trans ?_
  refine List.Perm.trans ?_ (List.Perm.append_left pre (List.Perm.append_right _ (set_split (z := { y with marks := ms }) hi))).symm
  rw [List.append_assoc]
  exact (permS pre (peOwn { y with marks := ms }) _).symm
theorem Fr.psetw {ws : List Int} (f : Fr H0 H (pre ++ (pesOwn es :: ts).flatten)) (h : es[i]? = some y) : Fr H0 (upd H y.w (.lst (ws.map V.int))) (pre ++ (pesOwn (es.set i { y with word := ws }) :: ts).flatten) := by
  have hi := (List.getElem?_eq_some_iff.mp h).1
  have f1 : Fr H0 H ((y.w, .lst (y.word.map V.int)) :: ((y.t, .tup [.ref y.m, .ref y.w]) :: (y.m, .lst (y.marks.map V.bl)) :: (pre ++ (pesOwn (es.eraseIdx i) ++ ts.flatten)))) := by
    refine f.perm ?_
    show (pre ++ (pesOwn es ++ ts.flatten)).Perm _
    refine (List.Perm.append_left pre (List.Perm.append_right _ (peOwn_split h))).trans ?_
    rw [List.append_assoc]
    refine (permS pre (peOwn y) _).trans ?_
    refine ((List.Perm.swap _ _ _).cons _).trans ?_
    exact List.Perm.swap _ _ _
  refine (Fr.wr (o' := .lst (ws.map V.int)) f1).perm ?_
  refine (List.Perm.swap _ _ _).trans ?_
  refine ((List.Perm.swap _ _ _).cons _).trans ?_
  refine List.Perm.trans ?_ (List.Perm.append_left pre (List.Perm.append_right _ (set_split (z := { y with word := ws }) hi))).symm
  rw [List.append_assoc]
  exact (permS pre (peOwn { y with word := ws }) _).symm
/-- one turn of the scribbling -/
theorem Fr.scr1 (f : Fr H0 H (pre ++ (pesOwn (scrTo es i) :: ts).flatten)) (h : es[i]? = some y) : Fr H0 (upd H y.m (.lst [])) (pre ++ (pesOwn ((scrTo es i).set i { y with marks := [] }) :: ts).flatten) := Fr.psetm (ms := []) f (scrTo_get h)
theorem scr1_get (h : es[i]? = some y) : ((scrTo es i).set i { y with marks := [] })[i]? = some { y with marks := [] } := by
  have hi := (List.getElem?_eq_some_iff.mp (scrTo_get h)).1
  simp [hi]
theorem Fr.scr2 (f : Fr H0 H (pre ++ (pesOwn ((scrTo es i).set i { y with marks := [] }) :: ts).flatten)) (h : es[i]? = some y) : Fr H0 (upd H y.w (.lst ((y.word ++ [9]).map V.int))) (pre ++ (pesOwn (scrTo es (i + 1)) :: ts).flatten) := by
  have e : ((scrTo es i).set i { y with marks := [] }).set i { ({ y with marks := [] } : PE) with word := y.word ++ [9] } = scrTo es (i + 1) := by
    rw [List.set_set, ← scrTo_next h]; rfl
  rw [← e]
  exact Fr.psetw (ws := y.word ++ [9]) f (scr1_get h)
theorem scr_at (f : Fr H0 H (pre ++ (pesOwn (scrTo es i) :: ts).flatten)) (h : es[i]? = some y) : H y.t = some (.tup [.ref y.m, .ref y.w]) ∧ H y.m = some (.lst (y.marks.map V.bl)) :=
  have p := Fr.pes (pre := pre) (ts := pesOwn (scrTo es i) :: ts) f 0 rfl
  ⟨p.t (List.mem_of_getElem? (scrTo_get h)), p.m (List.mem_of_getElem? (scrTo_get h))⟩
theorem scr_aw (f : Fr H0 H (pre ++ (pesOwn ((scrTo es i).set i { y with marks := [] }) :: ts).flatten)) (h : es[i]? = some y) : H y.w = some (.lst (y.word.map V.int)) :=
  PesAt.w (e := { y with marks := [] }) (Fr.pes (pre := pre) (ts := pesOwn ((scrTo es i).set i { y with marks := [] }) :: ts) f 0 rfl) (List.mem_of_getElem? (scr1_get h))
end
end Rc
namespace Rc
open PySem PySem.Spec PyProof.Rows L2 RT
/-! list(reversed(range(n))) -/
section
variable {prog : Program} {w : World} {A : Around} {E : Value → Shared → Prop} {s : Shared}
theorem hint_call {it : Addr} {x left step : Int} {Q : Value → Shared → Prop} (hit : IsRangeIter s.heap it x left step) (hQ : ∀ u tk, Q (.int left u) { s with toks := tk }) :
    wpAny (model prog w) A (call (.builtin "range_iterator.__length_hint__") [.ref it]) Q E s := by
  have hT : s.TypeIs (.ref it) "range_iterator" := ⟨_, hit, rfl⟩
  refine wpAny_call_entry F.slot_range_iterator_length_hint hT F.entry_range_iterator_length_hint ?_ (F.args_range_iterator_length_hint_1 _)
  unfold Builtin.«range_iterator.__length_hint__»
  wp_walk
  exact ⟨_, rfl, hQ _ _⟩
/-- list.extend with a range's iterator, into a new list at S -/
theorem rit_extend {it S : Addr} {a c : Int} {n : Nat} {R : Result → Shared → Prop} {res : Value} {c0 : Nat} (hh : A.handled = none) (hit : IsRangeIter s.heap it a (n : Int) c)
    (hSi : S ≠ it) (hS : s.heap.get? S = some (nilO c0)) (hn : n ≤ 2 ^ 24)
    (hR : ∀ h' tk acc c', (∀ b o, b ≠ S → b ≠ it → s.heap.get? b = some o → h'.get? b = some o) → h'.get? S = some { cls := .type "list", dict := none, data := .seq acc c', slots := #[] } →
      ItemsOf (fun i v => ∃ t, v = .int (a + i * c) t) acc n → R (.ok (.ret res)) { s with heap := h', toks := tk }) :
    wpAny (model prog w) A.in1 (Builtin.List.listExtendWith (.ref S) (.ref it) res)
      (fun fin z => match fin with | .done f => R (.ok f) z | .again c => c.quiet = true ∧ codeAny (model prog w) A c R z) (fun e z => R (.error e) z) s := by
  have W := (Walks.range (prog := prog) (w := w) (A := A.in1) hh it a c n).toS
  have hf : S ∉ [it] := fun z => hSi (List.mem_singleton.mp z)
  have hsl : n ≤ sizeLine := by rw [sizeLine_eq]; omega
  have ty : s.TypeIs (.ref it) "range_iterator" := ⟨_, hit, rfl⟩
  have h1 : Builtin.List.listSameRef (.ref S) (.ref it) = false := by simp [Builtin.List.listSameRef, hSi]
  unfold Builtin.List.listExtendWith
  refine wpAny_bind (wpAny_typeOf ty ?_)
  rw [if_neg (by rw [h1]; decide)]
  refine wpAny_bind (wpAny_pyIter_rangeiter hit ?_)
  refine wpAny_bind (wpAny_holding ?_)
  unfold Builtin.List.listLengthHint
  refine wpAny_bind (wpAny_specialOf ty F.nolen_ra ?_)
  show wpAny _ A.in1 (specialOf (Value.ref it) (Str.ofString "__length_hint__") >>= _) _ _ _
  refine wpAny_bind (wpAny_specialOf ty F.hint_ra ?_)
  generalize hid : ("range_iterator.__length_hint__" : String) = id0
  wp_delta
  rw [show splitId id0 = some ("range_iterator", "__length_hint__") from by subst hid; decide +kernel]
  subst hid
  refine wpAny_bind (wpAny_isInstance (b := true) ty (by rw [isSubtype_type]; kernel_rfl) ?_)
  show wpAny _ A.in1 (call (.builtin "range_iterator.__length_hint__") [.ref it] >>= _) _ _ _
  refine wpAny_bind (hint_call hit fun u tk => ?_)
  refine wpAny_bind (m := asInt? (.int (n : Int) u)) (wpAny_pure ?_)
  dsimp only
  have hk : Builtin.List.listTooLong (Int.toNat (n : Int)) = false := by
    unfold Builtin.List.listTooLong
    rw [Int.toNat_natCast]
    exact decide_eq_false (by omega)
  rw [if_neg (by rw [hk]; decide)]
  refine wpAny_pure ?_
  rw [if_neg (by decide)]
  have e0 : a + ((0 : Nat) : Int) * c = a := by simp
  refine wpAny_pure ⟨plainId_quiet F.plain_extend_loop _, codeAny_extend_loopS W hsl _ hf _ n 0 _ _ _ rfl (Nat.zero_le _) (by
    show IsRangeIter _ it (a + ((0 : Nat) : Int) * c) ((n : Int) - ((0 : Nat) : Int)) c
    rw [e0, show (n : Int) - ((0 : Nat) : Int) = (n : Int) by omega]
    exact hit) hS (ItemsOf.nil _) fun z acc c' hm hz hacc => ?_⟩
  rw [Moved.eq_with hm]
  refine hR z.heap z.toks acc c' (fun b o h1 h2 e => hm.heap b o (fun hmem => (List.mem_cons.mp hmem).elim h1 fun z => h2 (List.mem_singleton.mp z)) e) hz hacc
theorem call_list_rit {it : Addr} {a c : Int} {n : Nat} {Q : Value → Shared → Prop} (hh : A.handled = none) (hit : IsRangeIter s.heap it a (n : Int) c) (hn : n ≤ 2 ^ 24)
    (hQ : ∀ h' tk acc c', (∀ b o, b ≠ it → s.heap.get? b = some o → h'.get? b = some o) → h'.get? s.heap.objs.size = some { cls := .type "list", dict := none, data := .seq acc c', slots := #[] } →
      ItemsOf (fun i v => ∃ t, v = .int (a + i * c) t) acc n → Q (.ref s.heap.objs.size) { s with heap := h', toks := tk }) :
    wpAny (model prog w) A (call (.type "list") [.ref it]) Q E s := by
  refine callType_codes (Q₁ := fun obj z => obj = .ref s.heap.objs.size ∧ z = { s with heap := s.heap.push (nilO 0) }) F.called_list (F.typeCall_list_1 _) F.entry_list_init
    (code_list_new _ ⟨rfl, rfl⟩) fun obj z hz => ?_
  obtain ⟨rfl, rfl⟩ := hz
  have hS : (s.heap.push (nilO 0)).get? s.heap.objs.size = some (nilO 0) := Heap.get?_push_size _ rfl
  have ni : s.heap.objs.size ≠ it := Nat.ne_of_gt (Heap.lt_size hit)
  refine ⟨⟨_, hS, rfl⟩, F.args_list_init_2 _ _, ?_⟩
  show wpAny _ A.in1.in1 (do let old ← Builtin.List.listItems (.ref s.heap.objs.size); Builtin.List.listUpdate (.ref s.heap.objs.size) (fun _ => #[]); letGo old.toList.reverse; Builtin.List.listExtendWith (.ref s.heap.objs.size) (.ref it) .none) _ _ _
  refine wpAny_bind ?_; unfold Builtin.List.listItems
  refine wpAny_bind (wpAny_seqItems hS rfl (wpAny_pure ?_))
  show wpAny _ _ (updateSeq s.heap.objs.size (fun _ => #[]) >>= fun _ => letGo (#[] : Array Value).toList.reverse >>= fun _ => Builtin.List.listExtendWith (.ref s.heap.objs.size) (.ref it) .none) _ _ _
  refine wpAny_bind (wpAny_updateSeq hS rfl ?_)
  have hS2 := Heap.get?_update_self (Obj.mapSeq (fun _ => (#[] : Array Value))) hS rfl
  have oth : ∀ b o, b ≠ s.heap.objs.size → s.heap.get? b = some o → ((s.heap.push (nilO 0)).update s.heap.objs.size (Obj.mapSeq (fun _ => (#[] : Array Value)))).get? b = some o :=
    fun b o hb e => (Heap.get?_update_other _ _ (Ne.symm hb)).trans (Heap.get?_push_of_some _ e)
  refine wpAny_bind (wpAny_letGo ?_)
  refine rit_extend (A := A.in1) (s := { s with heap := _ }) hh (oth _ _ ni.symm hit) ni hS2 hn fun h' tk acc c' hk hz hacc => ⟨rfl, ?_⟩
  exact hQ h' tk acc c' (fun b o hb e => hk b o (Nat.ne_of_lt (Heap.lt_size e)) hb (oth b o (Nat.ne_of_lt (Heap.lt_size e)) e)) hz hacc
end
theorem vals_down : ∀ {n : Nat} {x : Int} {acc : List Value}, acc.length = n → (∀ (i : Nat) (v : Value), acc[i]? = some v → ∃ t, v = Value.int (x + (i : Int) * (-1)) t) → Vals (((List.range n).map fun i : Nat => x - (i : Int)).map V.int) acc := by
  intro n x acc hl h
  subst hl
  rw [List.map_map]
  exact vals_of_get acc _ fun j u hj => by
    obtain ⟨t, rfl⟩ := h j u hj
    exact ⟨t, by show Value.int (x + (j : Int) * (-1)) t = Value.int (x - (j : Int)) t; congr 1; omega⟩
theorem down_rev (n : Nat) : ((List.range n).map fun i : Nat => ((n : Int) - 1) - (i : Int)) = ((List.range n).map fun i : Nat => (i : Int)).reverse := by
  refine List.ext_getElem? fun k => ?_
  by_cases hk : k < n
  · rw [List.getElem?_map, List.getElem?_range hk, List.getElem?_reverse (by simpa using hk), List.getElem?_map, List.length_map, List.length_range, List.getElem?_range (by omega)]
    show some (((n : Int) - 1) - (k : Int)) = some (((n - 1 - k : Nat)) : Int)
    congr 1
    omega
  · rw [List.getElem?_eq_none (by simp; omega), List.getElem?_eq_none (by simp; omega)]
section
variable {X : Cx}
/-- list(reversed(range(n))): a new list -/
def tListRevR (te : TE) : TE := fun σ H Q => tRg1 te σ H fun a b H1 => ∃ (n : Int), a = 0 ∧ b = n ∧ 0 ≤ n ∧ n ≤ 16777216 ∧ ∀ q, H1 q = none → Q (.ref q) (upd H1 q (.lst ((((List.range n.toNat).map fun i : Nat => (i : Int)).reverse).map V.int)))
theorem pe_listRevR {e : Expr} {te : TE} {p p2 p3 pos pos2 pos3 : Pos} (hc : X.calm = true) (hg : Gl X "list") (hm : X.mg "list" = none) (hg2 : Gl X "reversed") (hm2 : X.mg "reversed" = none) (hg3 : Gl X "range") (hm3 : X.mg "range" = none) (he : L2.PE X e te)
    (hs0 : starEach [e] X.env = (false, eval e X.env) :: starEach [] X.env := by rfl)
    (hs : starEach [.Call (.Name "range" p3) [e] [] pos3] X.env = (false, eval (.Call (.Name "range" p3) [e] [] pos3) X.env) :: starEach [] X.env := by rfl)
    (hs2 : starEach [.Call (.Name "reversed" p2) [.Call (.Name "range" p3) [e] [] pos3] [] pos2] X.env = (false, eval (.Call (.Name "reversed" p2) [.Call (.Name "range" p3) [e] [] pos3] [] pos2) X.env) :: starEach [] X.env := by rfl) :
    L2.PE X (.Call (.Name "list" p) [.Call (.Name "reversed" p2) [.Call (.Name "range" p3) [e] [] pos3] [] pos2] [] pos) (tListRevR te) := by
  have hr := prg_1 (p := p3) (pos := pos3) hg3 hm3 he hs0
  refine ⟨fun pins s σ H Q I h => Call_ (ld_blt I hg hm (show bootBuiltins ("list" : Str) = some (.type "list") by decide +kernel) (PyProof.Rows.callWith_type1 (args_cons (Call_ (ld_blt I hg2 hm2 PyProof.Rows.boot_reversed (PyProof.Rows.callWith_type1 (args_cons (thn (hr pins s σ H _ I h) fun u s1 hx => args_nil ?_) hs) hs rfl))) hs2) hs2 rfl))⟩
  obtain ⟨r, a, b, t, w1, v, H1, eu, hrg, I1, n, rfl, rfl, h0, h1, q⟩ := hx
  subst eu
  obtain ⟨m, rfl⟩ := Int.eq_ofNat_of_zero_le h0
  have hn : Builtin.Range.rangeSize 0 (m : Int) 1 = ((m : Nat) : Int) := by
    have := rangeSize_nat 0 (m : Int)
    rwa [Int.sub_zero, Int.toNat_natCast] at this
  refine call_reversed_range hrg (smallRev_one (by omega) (by omega) (by omega) (by omega)) (args_nil ?_)
  have k0 : ∀ b o, s1.heap.get? b = some o → (s1.heap.push (rngRevObj 0 (m : Int) 1)).get? b = some o := fun b o z => Heap.get?_push_of_some _ z
  have hf := I1.hok.fresh (Nat.le_refl s1.heap.objs.size)
  have hit : IsRangeIter (s1.heap.push (rngRevObj 0 (m : Int) 1)) s1.heap.objs.size ((m : Int) - 1) ((m : Nat) : Int) (-1) := by
    have e : rngRevObj 0 (m : Int) 1 = { cls := .type "range_iterator", dict := none, data := .fields #[rawInt ((m : Int) - 1), rawInt ((m : Nat) : Int), rawInt (-1)], slots := #[] } := by
      unfold rngRevObj
      rw [hn]
      congr 5
      omega
    show (s1.heap.push (rngRevObj 0 (m : Int) 1)).get? s1.heap.objs.size = _
    rw [← e]
    exact Heap.get?_push_size _ rfl
  refine call_list_rit (s := { s1 with heap := s1.heap.push (rngRevObj 0 (m : Int) 1) }) (I1.ok.hd hc) hit (by omega) fun h' tk acc c' hk hS hi => ?_
  have hsz : s1.heap.objs.size ≤ (s1.heap.push (rngRevObj 0 (m : Int) 1)).objs.size := by rw [Heap.size_push]; omega
  have kk : ∀ b o, s1.heap.get? b = some o → h'.get? b = some o := fun b o z => hk b o (Nat.ne_of_lt (Heap.lt_size z)) (k0 b o z)
  have hv : Vals ((((List.range (m : Int).toNat).map fun i : Nat => (i : Int)).reverse).map V.int) acc.toList := by
    rw [Int.toNat_natCast, ← down_rev]
    exact vals_down (by rw [Array.length_toList]; exact hi.1) fun i v e => hi.2 i v (by rw [← e, Array.getElem?_toList])
  refine ⟨.ref (s1.heap.push (rngRevObj 0 (m : Int) 1)).objs.size, upd H1 (s1.heap.push (rngRevObj 0 (m : Int) 1)).objs.size (.lst ((((List.range (m : Int).toNat).map fun i : Nat => (i : Int)).reverse).map V.int)),
    I1.laid kk hsz (show ObjOk X.prog X.w _ _ _ (.lst ((((List.range (m : Int).toNat).map fun i : Nat => (i : Int)).reverse).map V.int)) from ⟨?_, acc.toList, c', hv, ?_⟩), rfl, q _ (I1.hok.fresh hsz)⟩
  · rw [List.length_map, List.length_reverse, List.length_map, List.length_range, Int.toNat_natCast, sizeLine_eq]
    omega
  · rw [Array.toArray_toList]
    exact hS
end
end Rc
namespace Rc
theorem pick60 (c : Int) : 1 ≤ ([60, 12] : List Int).getD (Int.toNat (min 1 (c % 8))) 0 ∧ ([60, 12] : List Int).getD (Int.toNat (min 1 (c % 8))) 0 ≤ 60 := by
  have h : min 1 (c % 8) = 0 ∨ min 1 (c % 8) = 1 := by omega
  rcases h with h | h <;> rw [h] <;> decide
def upto (n : Nat) : List Int := (List.range n).map fun i : Nat => (i : Int)
@[simp] theorem upto_length (n : Nat) : (upto n).length = n := by simp [upto]
theorem upto_succ (n : Nat) : upto (n + 1) = upto n ++ [(n : Int)] := by simp [upto, List.range_succ]
theorem mem_upto {n : Nat} {x : Int} : x ∈ upto n ↔ 0 ≤ x ∧ x < n := by
  unfold upto
  rw [List.mem_map]
  constructor
  · rintro ⟨i, hi, rfl⟩
    have := List.mem_range.mp hi
    omega
  · rintro ⟨h0, h1⟩
    exact ⟨x.toNat, List.mem_range.mpr (by omega), by omega⟩
theorem upto_nodup (n : Nat) : (upto n).Nodup := by
  unfold upto
  rw [List.nodup_iff_pairwise_ne, List.pairwise_map]
  exact (List.nodup_range (n := n)).imp fun h e => h (Int.ofNat.inj e)
theorem upto_getElem? {n i : Nat} (h : i < n) : (upto n)[i]? = some (i : Int) := by
  unfold upto; rw [List.getElem?_map, List.getElem?_range h]; rfl
theorem upto_getElem {n i : Nat} (h : i < (upto n).length) : (upto n)[i] = (i : Int) := by simp [upto]
/-- an order of its cards -/
def IsOrd (xs : List Int) : Prop := xs.Perm (upto xs.length)
theorem IsOrd.nodup {xs : List Int} (h : IsOrd xs) : xs.Nodup := h.nodup_iff.mpr (upto_nodup _)
theorem IsOrd.mem {xs : List Int} (h : IsOrd xs) {x : Int} : x ∈ xs ↔ 0 ≤ x ∧ x < xs.length := by rw [List.Perm.mem_iff h, mem_upto]
theorem IsOrd.bd {xs : List Int} (h : IsOrd xs) {i : Nat} {x : Int} (e : xs[i]? = some x) : 0 ≤ x ∧ x < xs.length := h.mem.mp (List.mem_of_getElem? e)
theorem isOrd_upto (n : Nat) : IsOrd (upto n) := by unfold IsOrd; rw [upto_length]
theorem isOrd_of {xs : List Int} {n : Nat} (h : xs.Perm (upto n)) : IsOrd xs := by
  have := h.length_eq
  rw [upto_length] at this
  unfold IsOrd; rwa [this]
theorem perm_of_nodup : ∀ {xs ys : List Int}, xs.Nodup → (∀ x ∈ xs, x ∈ ys) → ys.length ≤ xs.length → xs.Perm ys
  | [], ys, _, _, hl => by
    have : ys = [] := List.eq_nil_of_length_eq_zero (by simpa using hl)
    subst this; exact List.Perm.refl _
  | x :: xs, ys, hn, hs, hl => by
    have hx : x ∈ ys := hs x List.mem_cons_self
    have h1 := List.perm_cons_erase hx
    have hlen : (ys.erase x).length = ys.length - 1 := List.length_erase_of_mem hx
    have hn' := List.nodup_cons.mp hn
    have ih := perm_of_nodup (ys := ys.erase x) hn'.2 (fun y hy => by
      have hne : y ≠ x := fun e => hn'.1 (e ▸ hy)
      exact (List.mem_erase_of_ne hne).mpr (hs y (List.mem_cons_of_mem _ hy))) (by
        rw [List.length_cons] at hl; omega)
    exact (ih.cons x).trans h1.symm
theorem eraseIdx_perm {α : Type} : ∀ {ls : List α} {k : Nat} (h : k < ls.length), (ls[k] :: ls.eraseIdx k).Perm ls
  | [], _, h => by simp at h
  | _ :: _, 0, _ => List.Perm.refl _
  | x :: ls, k + 1, h => by
    have hk : k < ls.length := by simpa using h
    have ih := eraseIdx_perm hk
    show (ls[k] :: x :: ls.eraseIdx k).Perm (x :: ls)
    exact (List.Perm.swap _ _ _).trans (ih.cons x)
/-- as many different cards below their number -/
theorem isOrd_of_nodup {xs : List Int} (hn : xs.Nodup) (hb : ∀ x ∈ xs, 0 ≤ x ∧ x < xs.length) : IsOrd xs := by
  exact perm_of_nodup hn (fun x hx => mem_upto.mpr (hb x hx)) (by rw [upto_length]; exact Nat.le_refl _)
/-- a card taken out of what is left -/
theorem take_perm {os ls : List Int} {n k : Nat} (h : (os ++ ls).Perm (upto n)) (hk : k < ls.length) : ((os ++ [ls.getD k 0]) ++ ls.eraseIdx k).Perm (upto n) := by
  have e : ls.getD k 0 = ls[k] := by simp [List.getD, hk]
  have h1 : (ls[k] :: ls.eraseIdx k).Perm ls := eraseIdx_perm hk
  refine List.Perm.trans ?_ h
  rw [e, List.append_assoc]
  exact List.Perm.append_left _ h1
def placesI (o : List Int) : List Int := (List.range o.length).map fun c : Nat => (o.idxOf (c : Int) : Int)
def laidI (one other : List Int) : List Int := other.map fun p => one.getD p.toNat 0
@[simp] theorem placesI_length (o : List Int) : (placesI o).length = o.length := by simp [placesI]
@[simp] theorem laidI_length (one other : List Int) : (laidI one other).length = other.length := by simp [laidI]
theorem idxOf_lt {o : List Int} (h : IsOrd o) {c : Nat} (hc : c < o.length) : o.idxOf (c : Int) < o.length := List.idxOf_lt_length_of_mem (h.mem.mpr ⟨by omega, by omega⟩)
theorem idxOf_at {o : List Int} (h : o.Nodup) {i : Nat} {x : Int} (e : o[i]? = some x) : o.idxOf x = i := by
  obtain ⟨hi, rfl⟩ := List.getElem?_eq_some_iff.mp e
  exact h.idxOf_getElem i hi
theorem at_idxOf {o : List Int} {x : Int} (h : x ∈ o) : o.getD (o.idxOf x) 0 = x := by
  have hl := List.idxOf_lt_length_of_mem h
  rw [List.getD_eq_getElem?_getD, List.getElem?_eq_getElem hl, List.getElem_idxOf]; rfl
theorem placesI_getD {o : List Int} {c : Nat} (hc : c < o.length) : (placesI o).getD c 0 = (o.idxOf (c : Int) : Int) := by
  rw [List.getD_eq_getElem?_getD]; simp [placesI, hc]
theorem isOrd_placesI {o : List Int} (h : IsOrd o) : IsOrd (placesI o) := by
  refine isOrd_of_nodup ?_ ?_
  · unfold placesI
    rw [List.nodup_iff_pairwise_ne, List.pairwise_map]
    refine List.Pairwise.imp_of_mem ?_ (List.nodup_range (n := o.length))
    intro a b ha hb hne e
    have ha' := List.mem_range.mp ha
    have hb' := List.mem_range.mp hb
    have e1 : o.idxOf (a : Int) = o.idxOf (b : Int) := by omega
    have h1 := at_idxOf (h.mem.mpr ⟨show (0 : Int) ≤ (a : Int) by omega, show (a : Int) < o.length by omega⟩)
    have h2 := at_idxOf (h.mem.mpr ⟨show (0 : Int) ≤ (b : Int) by omega, show (b : Int) < o.length by omega⟩)
    rw [e1, h2] at h1
    omega
  · intro x hx
    obtain ⟨c, hc, rfl⟩ := List.mem_map.mp hx
    have := idxOf_lt h (List.mem_range.mp hc)
    rw [placesI_length]
    omega
theorem placesI_idxOf {o : List Int} (h : IsOrd o) {i : Nat} {x : Int} (e : o[i]? = some x) : (placesI o).idxOf (i : Int) = x.toNat := by
  have hb := h.bd e
  have hx : x.toNat < o.length := by omega
  refine idxOf_at (isOrd_placesI h).nodup ?_
  unfold placesI
  rw [List.getElem?_map, List.getElem?_range hx]
  have : ((x.toNat : Nat) : Int) = x := by omega
  simp only [Option.map_some, this, idxOf_at h.nodup e]
theorem placesI_placesI {o : List Int} (h : IsOrd o) : placesI (placesI o) = o := by
  apply List.ext_getElem?
  intro i
  by_cases hi : i < o.length
  · have e : o[i]? = some o[i] := List.getElem?_eq_getElem hi
    have := placesI_idxOf h e
    have hb := h.bd e
    rw [e]
    show ((List.range (placesI o).length).map fun c : Nat => ((placesI o).idxOf (c : Int) : Int))[i]? = _
    rw [List.getElem?_map, List.getElem?_range (by simpa using hi)]
    simp only [Option.map_some, this]
    congr 1; omega
  · rw [List.getElem?_eq_none (by simp; omega), List.getElem?_eq_none (by omega)]
theorem laidI_upto {o : List Int} (h : IsOrd o) : laidI (upto o.length) o = o := by
  unfold laidI
  conv => rhs; rw [← List.map_id o]
  apply List.map_congr_left
  intro x hx
  have := h.mem.mp hx
  rw [List.getD_eq_getElem?_getD, upto_getElem? (by omega)]
  simp; omega
theorem laidI_places {o : List Int} (h : IsOrd o) : laidI o (placesI o) = upto o.length := by
  unfold laidI placesI upto
  rw [List.map_map]
  apply List.map_congr_left
  intro c hc
  have hc' := List.mem_range.mp hc
  simp only [Function.comp]
  rw [Int.toNat_natCast]
  exact at_idxOf (h.mem.mpr ⟨by omega, by omega⟩)
theorem laidI_assoc {a b c : List Int} (hb : ∀ p ∈ c, 0 ≤ p ∧ p < b.length) : laidI (laidI a b) c = laidI a (laidI b c) := by
  unfold laidI
  rw [List.map_map]
  apply List.map_congr_left
  intro p hp
  have := hb p hp
  simp only [Function.comp]
  rw [List.getD_eq_getElem?_getD, List.getElem?_map, List.getD_eq_getElem?_getD (l := b), List.getElem?_eq_getElem (show p.toNat < b.length by omega)]
  rfl
theorem isOrd_laidI {a b : List Int} (ha : IsOrd a) (hb : IsOrd b) (hl : a.length = b.length) : IsOrd (laidI a b) := by
  have h1 : (laidI a b).Perm (laidI a (upto b.length)) := List.Perm.map _ hb
  have h2 : laidI a (upto b.length) = a := by
    unfold laidI upto
    rw [List.map_map, ← hl]
    apply List.ext_getElem
    · simp
    · intro i h1 h2
      simp only [List.getElem_map, List.getElem_range, Function.comp, Int.toNat_natCast]
      rw [List.getD_eq_getElem?_getD, List.getElem?_eq_getElem h2]; rfl
  rw [h2] at h1
  exact isOrd_of (h1.trans ha)
/-- the places as they are filled -/
def placesTo (o : List Int) (i : Nat) : List Int := (List.range o.length).map fun c : Nat => if o.idxOf (c : Int) < i then (o.idxOf (c : Int) : Int) else 0
theorem placesTo_zero (o : List Int) : placesTo o 0 = List.replicate o.length 0 := by
  unfold placesTo
  rw [List.eq_replicate_iff]
  simp
theorem placesTo_all {o : List Int} (h : IsOrd o) : placesTo o o.length = placesI o := by
  unfold placesTo placesI
  apply List.map_congr_left
  intro c hc
  rw [if_pos (idxOf_lt h (List.mem_range.mp hc))]
theorem placesTo_next {o : List Int} (h : IsOrd o) {i : Nat} {x : Int} (e : o[i]? = some x) : (placesTo o i).set x.toNat (i : Int) = placesTo o (i + 1) := by
  have hb := h.bd e
  have hi := idxOf_at h.nodup e
  apply List.ext_getElem
  · simp [placesTo]
  · intro c h1 h2
    have hc : c < o.length := by simpa [placesTo] using h2
    simp only [placesTo, List.getElem_set, List.getElem_map, List.getElem_range]
    by_cases ex : x.toNat = c
    · subst ex
      have : ((x.toNat : Nat) : Int) = x := by omega
      rw [if_pos rfl, this, hi, if_pos (by omega)]
    · rw [if_neg ex]
      have hne : o.idxOf (c : Int) ≠ i := by
        intro z
        have h3 := at_idxOf (h.mem.mpr ⟨show (0 : Int) ≤ (c : Int) by omega, show (c : Int) < o.length by omega⟩)
        rw [z, List.getD_eq_getElem?_getD, e] at h3
        simp at h3
        omega
      by_cases h4 : o.idxOf (c : Int) < i
      · rw [if_pos h4, if_pos (by omega)]
      · rw [if_neg h4, if_neg (by omega)]
theorem sorted_eq {a b x y : List Int} (ha : a.Pairwise (· ≤ ·)) (hb : b.Pairwise (· ≤ ·)) (pa : a.Perm x) (pb : b.Perm y) (h : x.Perm y) : a = b := by
  have hp : a.Perm b := pa.trans (h.trans pb.symm)
  clear pa pb h
  induction a generalizing b with
  | nil => exact (List.nil_perm.mp hp).symm
  | cons u a ih =>
    cases b with
    | nil => exact absurd hp.length_eq (by simp)
    | cons v b =>
      have h1 := List.pairwise_cons.mp ha
      have h2 := List.pairwise_cons.mp hb
      have e : u = v := by
        have hu : u ∈ v :: b := hp.mem_iff.mp List.mem_cons_self
        have hv : v ∈ u :: a := hp.mem_iff.mpr List.mem_cons_self
        rcases List.mem_cons.mp hu with e | hu
        · exact e
        · rcases List.mem_cons.mp hv with e | hv
          · exact e.symm
          · have := h1.1 v hv; have := h2.1 u hu; omega
      subst e
      rw [ih h1.2 h2.2 ((List.perm_cons u).mp hp)]
theorem ord_perm {a b : List Int} (ha : IsOrd a) (hb : IsOrd b) (hl : a.length = b.length) : a.Perm b := by
  unfold IsOrd at ha hb
  rw [hl] at ha
  exact ha.trans hb.symm
end Rc
namespace Rc
open PySem PySem.Spec PyProof.Rows L2
theorem isWordV_len {m : Nat} {w : List V} {n : Int} (h : (w.length : Int) ≠ n) : isWordV m w n = false := by
  unfold isWordV; rw [decide_eq_false h]; rfl
theorem isWordV_mem {m : Nat} {w : List V} {n : Int} {v : V} (h : v ∈ w) (hv : wordPart m v = false) : isWordV m w n = false := by
  unfold isWordV
  have : w.all (wordPart m) = false := by
    rw [List.all_eq_false]; exact ⟨v, h, by rw [hv]; exact Bool.false_ne_true⟩
  rw [this, Bool.and_false]
theorem wp_neg {m : Nat} {x : Int} (h : x < 0) : wordPart m (V.int x) = false := by
  show (decide (0 ≤ x) && decide (x < (m : Int))) = false
  rw [decide_eq_false (by omega)]; rfl
theorem wp_big {m : Nat} {x : Int} (h : (m : Int) ≤ x) : wordPart m (V.int x) = false := by
  show (decide (0 ≤ x) && decide (x < (m : Int))) = false
  rw [decide_eq_false (p := x < (m : Int)) (by omega), Bool.and_false]
theorem mid_mem {α : Type} {a b : List α} {x : α} : x ∈ a ++ [x] ++ b := by simp
theorem part_of {m : Nat} {l : List V} (hl : ∀ v ∈ l, wordPart m v = false) {i : Nat} {d : V} (hi : i < l.length) : wordPart m (l.getD i d) = false := hl _ (getD_mem hi)
theorem cut_last_len {α : Type} {xs : List α} (h : 0 < xs.length) : (cutL xs (some (-1)) none).length = 1 := by
  rw [cutL_length]
  show min (xs.length - (if (-1 : Int) < 0 then ((-1 : Int) + (xs.length : Int)).toNat else min (-1 : Int).toNat xs.length)) (xs.length - (if (-1 : Int) < 0 then ((-1 : Int) + (xs.length : Int)).toNat else min (-1 : Int).toNat xs.length)) = 1
  rw [if_pos (by decide)]; omega
theorem cut_lo_len {α : Type} {xs : List α} {i : Int} (h0 : 0 ≤ i) (h1 : i ≤ xs.length) : (cutL xs none (some i)).length = i.toNat := by
  rw [cut_lo h0 h1, List.length_take]; omega
theorem cut_hi_len {α : Type} {xs : List α} {i : Int} (h0 : 0 ≤ i) (h1 : i ≤ xs.length) : (cutL xs (some i) none).length = xs.length - i.toNat := by
  rw [cut_hi h0 h1, List.length_drop]
theorem all8 {m : Nat} {h r : Int} (hm : (m : Int) = h) (hr : 0 ≤ r) : ∀ v ∈ ([V.int (-1), V.int h, V.bl true, V.bl false, V.non, V.str "0", V.int (h + r), V.int (-1 - r)] : List V), wordPart m v = false := by
  intro v hv
  rcases List.mem_cons.mp hv with rfl | hv
  · exact wp_neg (by omega)
  rcases List.mem_cons.mp hv with rfl | hv
  · exact wp_big (by omega)
  rcases List.mem_cons.mp hv with rfl | hv
  · rfl
  rcases List.mem_cons.mp hv with rfl | hv
  · rfl
  rcases List.mem_cons.mp hv with rfl | hv
  · rfl
  rcases List.mem_cons.mp hv with rfl | hv
  · rfl
  rcases List.mem_cons.mp hv with rfl | hv
  · exact wp_big (by omega)
  rcases List.mem_cons.mp hv with rfl | hv
  · exact wp_neg (by omega)
  cases hv
theorem all4 {α : Type} {P : α → Prop} {a b c d : α} (h1 : P a) (h2 : P b) (h3 : P c) (h4 : P d) : ∀ z, z ∈ [a, b, c, d] → P z := by
  intro z hz
  rcases List.mem_cons.mp hz with rfl | hz
  · exact h1
  rcases List.mem_cons.mp hz with rfl | hz
  · exact h2
  rcases List.mem_cons.mp hz with rfl | hz
  · exact h3
  rcases List.mem_cons.mp hz with rfl | hz
  · exact h4
  cases hz
theorem all3 {α : Type} {P : α → Prop} {a b c : α} (h1 : P a) (h2 : P b) (h3 : P c) : ∀ z, z ∈ [a, b, c] → P z := by
  intro z hz
  rcases List.mem_cons.mp hz with rfl | hz
  · exact h1
  rcases List.mem_cons.mp hz with rfl | hz
  · exact h2
  rcases List.mem_cons.mp hz with rfl | hz
  · exact h3
  cases hz
theorem all2 {α : Type} {P : α → Prop} {a b : α} (h1 : P a) (h2 : P b) : ∀ z, z ∈ [a, b] → P z := by
  intro z hz
  rcases List.mem_cons.mp hz with rfl | hz
  · exact h1
  rcases List.mem_cons.mp hz with rfl | hz
  · exact h2
  cases hz
/-- what is told of a word: refused, another order's, the order's -/
def toldS (ok : Bool) (r o : List Int) : Str := if ok = true then (if r = o then "" else "way") else "riffle"
theorem told_no {ok : Bool} {r o : List Int} (h : ok = false) : toldS ok r o = "riffle" := by subst h; rfl
theorem told_way {ok : Bool} {r o : List Int} (h : ok = true) (h' : ¬ r = o) : toldS ok r o = "way" := by subst h; unfold toldS; rw [if_pos rfl, if_neg h']
theorem told_yes {ok : Bool} {r o : List Int} (h : ok = true) (h' : r = o) : toldS ok r o = "" := by subst h; unfold toldS; rw [if_pos rfl, if_pos h']
theorem isW_rot {m : Nat} {w : List Int} (h : ∀ x ∈ w, 0 ≤ x ∧ x < (m : Int)) (hl : 1 ≤ w.length) : ∀ x ∈ cutL w (some 1) none ++ cutL w none (some 1), 0 ≤ x ∧ x < (m : Int) := by
  intro x hx
  rw [cut_hi (by decide) (by omega), cut_lo (by decide) (by omega)] at hx
  rcases List.mem_append.mp hx with hx | hx
  · exact h x (List.mem_of_mem_drop hx)
  · exact h x (List.mem_of_mem_take hx)
theorem all8b {m : Nat} {h r : Int} (hm : (m : Int) = h) (hr : 0 ≤ r) : ∀ v ∈ ([V.int h, V.int (h + r), V.int (-1), V.int (-1 - r), V.bl true, V.bl false, V.non, V.str "0"] : List V), wordPart m v = false := by
  intro v hv
  rcases List.mem_cons.mp hv with rfl | hv
  · exact wp_big (by omega)
  rcases List.mem_cons.mp hv with rfl | hv
  · exact wp_big (by omega)
  rcases List.mem_cons.mp hv with rfl | hv
  · exact wp_neg (by omega)
  rcases List.mem_cons.mp hv with rfl | hv
  · exact wp_neg (by omega)
  rcases List.mem_cons.mp hv with rfl | hv
  · rfl
  rcases List.mem_cons.mp hv with rfl | hv
  · rfl
  rcases List.mem_cons.mp hv with rfl | hv
  · rfl
  rcases List.mem_cons.mp hv with rfl | hv
  · rfl
  cases hv
theorem isWordV_self {m : Nat} {w : List V} (h : isWordV m w (w.length : Int) = false) (n : Int) : isWordV m w n = false := by
  unfold isWordV at *
  rw [decide_eq_true rfl, Bool.true_and] at h
  rw [h, Bool.and_false]
theorem mod33 (c : Int) : (0 : Int) < ([59, 10] : List Int).getD (Int.toNat (min 1 (c % 8))) 0 := by
  by_cases h : c % 8 = 0
  · rw [h]; decide
  · rw [show min 1 (c % 8) = 1 by omega]; decide
theorem nn33 (c : Int) : 1 ≤ 1 + c / 8 % ([59, 10] : List Int).getD (Int.toNat (min 1 (c % 8))) 0 ∧ 1 + c / 8 % ([59, 10] : List Int).getD (Int.toNat (min 1 (c % 8))) 0 ≤ 60 := by
  have h1 := mod33 c
  have h2 := Int.emod_nonneg (c / 8) (show ([59, 10] : List Int).getD (Int.toNat (min 1 (c % 8))) 0 ≠ 0 by omega)
  have h3 := Int.emod_lt_of_pos (c / 8) h1
  have h4 : ([59, 10] : List Int).getD (Int.toNat (min 1 (c % 8))) 0 ≤ 59 := by
    by_cases h : c % 8 = 0
    · rw [h]; decide
    · rw [show min 1 (c % 8) = 1 by omega]; decide
  omega
end Rc
namespace Rc
open PySem PySem.Spec PyProof.Rows L2
/-! things of any kind, for isinstance -/
def Thing (K : PySem.W.Frag) (H : Hp) (v : V) : Prop := ∃ t : Value, TyX K H v t ∧ PySem.W.kitOne K t (.type "int") = some (is_int v) ∧ PySem.W.kitOne K t (.type "bool") = some (is_bool v)
theorem Thing.sca {K : PySem.W.Frag} {H : Hp} {v : V} (h : sca v = true) : Thing K H v := ⟨_, tyx_val h, kit_int h, kit_bool h⟩
theorem Thing.str {K : PySem.W.Frag} {H : Hp} {z : Str} : Thing K H (.str z) := ⟨_, .base (.str _), kit_ty (show kitB "str" "int" = some false by decide +kernel), kit_ty (show kitB "str" "bool" = some false by decide +kernel)⟩
theorem Thing.lst {K : PySem.W.Frag} {H : Hp} {a : Addr} {xs : List V} (h : H a = some (.lst xs)) : Thing K H (.ref a) := ⟨_, .base (.lst h), kit_ty (show kitB "list" "int" = some false by decide +kernel), kit_ty (show kitB "list" "bool" = some false by decide +kernel)⟩
theorem Thing.tup {K : PySem.W.Frag} {H : Hp} {a : Addr} {xs : List V} (h : H a = some (.tup xs)) : Thing K H (.ref a) := ⟨_, .base (.tup h), kit_ty (show kitB "tuple" "int" = some false by decide +kernel), kit_ty (show kitB "tuple" "bool" = some false by decide +kernel)⟩
/-! an order of cards, among any scalars -/
def ordV (cards : List V) : Bool := decide (1 ≤ cards.length ∧ cards.length ≤ 60 ∧ (∀ v ∈ cards, wordPart cards.length v = true) ∧ (intsV cards).Nodup)
theorem ord_len {cards : List V} (h : ¬ (1 ≤ cards.length ∧ cards.length ≤ 60)) : false = ordV cards := by
  unfold ordV; rw [decide_eq_false fun z => h ⟨z.1, z.2.1⟩]
theorem ord_part {cards : List V} {i : Nat} {v : V} (e : cards[i]? = some v) (h : wordPart cards.length v = false) : false = ordV cards := by
  unfold ordV; rw [decide_eq_false fun z => ?_]
  have := z.2.2.1 v (List.mem_of_getElem? e)
  rw [h] at this; cases this
theorem ord_no {cards : List V} {i : Nat} {v : V} (e : cards[i]? = some v) (h : wholeV v = false) : false = ordV cards := ord_part e (wordPart_no h)
theorem ord_neg {cards : List V} {i : Nat} {x : Int} (e : cards[i]? = some (V.int x)) (h : x < 0) : false = ordV cards := ord_part e (wp_neg h)
theorem ord_big {cards : List V} {i : Nat} {x : Int} (e : cards[i]? = some (V.int x)) (h : (cards.length : Int) ≤ x) : false = ordV cards := ord_part e (wp_big h)
theorem intsV_take {cards : List V} {i : Nat} {x : Int} (e : cards[i]? = some (V.int x)) : intsV (cards.take (i + 1)) = intsV (cards.take i) ++ [x] := by
  unfold intsV; rw [take_next e, List.map_append]; rfl
theorem ord_twice {cards : List V} {i : Nat} {x : Int} {L : List Int} (hL : L = intsV (cards.take i)) (e : cards[i]? = some (V.int x)) (h : x ∈ L) : false = ordV cards := by
  unfold ordV; rw [decide_eq_false fun z => ?_]
  have h2 : (intsV (cards.take (i + 1))).Nodup := z.2.2.2.sublist ((List.take_sublist _ _).map _)
  rw [intsV_take e, List.nodup_append] at h2
  rw [hL] at h
  exact h2.2.2 x h x (by simp) rfl
theorem ord_step {cards : List V} {i : Nat} {x : Int} {L : List Int} (hL : L = intsV (cards.take i)) (hn : L.Nodup) (e : cards[i]? = some (V.int x)) (h : ¬ x ∈ L) : L ++ [x] = intsV (cards.take (i + 1)) ∧ (L ++ [x]).Nodup := by
  refine ⟨by rw [intsV_take e, hL], ?_⟩
  rw [List.nodup_append]
  exact ⟨hn, by simp, fun a ha b hb hab => h (by rw [List.mem_singleton.mp hb] at hab; rw [← hab]; exact ha)⟩
theorem all_take {P : V → Prop} {cards : List V} {i : Nat} {v : V} (h : ∀ w ∈ cards.take i, P w) (e : cards[i]? = some v) (hv : P v) : ∀ w ∈ cards.take (i + 1), P w := fun w hw => by
  rw [take_next e] at hw
  rcases List.mem_append.mp hw with hw | hw
  · exact h w hw
  · rw [List.mem_singleton.mp hw]; exact hv
theorem wp_ok {m : Nat} {z : Int} (h : ¬ z < 0) (h' : ¬ (m : Int) ≤ z) : wordPart m (V.int z) = true := by
  show (decide (0 ≤ z) && decide (z < (m : Int))) = true
  rw [decide_eq_true (by omega), decide_eq_true (by omega)]; rfl
theorem ord_end {cards : List V} {L : List Int} (h : ¬ ((cards.length : Int) < 1 ∨ 60 < (cards.length : Int))) (hL : L = intsV (cards.take cards.length)) (hp : ∀ w ∈ cards.take cards.length, wordPart cards.length w = true) (hn : L.Nodup) : true = ordV cards := by
  rw [List.take_length] at hL hp
  unfold ordV; rw [decide_eq_true ⟨by omega, by omega, hp, by rw [← hL]; exact hn⟩]
theorem whole_ints {cards : List V} (h : ∀ w ∈ cards.take cards.length, wholeV w = true) : ∃ u : List Int, cards = u.map V.int := by
  rw [List.take_length] at h
  refine ⟨intsV cards, ?_⟩
  unfold intsV; rw [List.map_map]
  refine (List.map_id cards).symm.trans (List.map_congr_left fun v hv => ?_)
  obtain ⟨z, rfl⟩ := wholeV_int (h v hv)
  rfl
theorem sorted_uniq : ∀ {a b : List Int}, a.Pairwise (· ≤ ·) → b.Pairwise (· ≤ ·) → a.Perm b → a = b := fun {a b} ha hb h => List.Perm.eq_of_pairwise (le := (· ≤ ·)) (fun _ _ _ _ h1 h2 => Int.le_antisymm h1 h2) ha hb h
theorem upto_sorted (n : Nat) : (upto n).Pairwise (· ≤ ·) := by
  unfold upto
  refine List.pairwise_map.mpr ((List.pairwise_lt_range (n := n)).imp fun {a b} h => ?_)
  omega
theorem srt_due {u ys : List Int} {n : Int} (hn : n = (u.length : Int)) (h1 : 1 ≤ u.length) (h2 : u.length ≤ 60) (hp : ys.Perm u) (hs : ys.Pairwise (· ≤ ·)) : decide (ys = rangeI n) = ordV (u.map V.int) := by
  have hr : rangeI n = upto u.length := by subst hn; unfold rangeI upto; rw [Int.toNat_natCast]
  unfold ordV
  rw [hr, List.length_map, intsV_map, decide_eq_decide]
  constructor
  · intro e
    have pm : u.Perm (upto u.length) := hp.symm.trans (by rw [e])
    have ho : IsOrd u := pm
    refine ⟨h1, h2, fun v hv => ?_, ho.nodup⟩
    obtain ⟨x, hx, rfl⟩ := List.mem_map.mp hv
    have := ho.mem.mp hx
    exact wp_ok (by omega) (by omega)
  · rintro ⟨_, _, hw, hd⟩
    have ho : IsOrd u := isOrd_of_nodup hd fun x hx => by
      have := (wordPart_int (hw _ (List.mem_map.mpr ⟨x, hx, rfl⟩))).2
      exact this
    exact sorted_uniq hs (upto_sorted _) (hp.trans ho)
theorem lg41 {i : Int} (h : i.natAbs < 2 ^ 150) : i.natAbs.log2 < 1920 := by
  by_cases e : i.natAbs = 0
  · rw [e]; decide
  · exact Nat.lt_trans ((Nat.log2_lt e).mpr h) (by decide)
theorem at_fr {H0 H : Hp} {own : List (Addr × HO)} (f : Fr H0 H own) {P : Hp → Prop} (h : P H) : P H := h
theorem mem_k {α : Type} {l : List α} {x : α} (k : Nat) (h : l[k]? = some x) : x ∈ l := List.mem_of_getElem? h
end Rc
namespace Rc
/-- the parts of a word for m heaps -/
def IsW (m : Nat) (w : List Int) : Prop := ∀ x ∈ w, 0 ≤ x ∧ x < m
theorem IsW.at {m : Nat} {w : List Int} (h : IsW m w) {i : Nat} {x : Int} (e : w[i]? = some x) : 0 ≤ x ∧ x < m := h x (List.mem_of_getElem? e)
theorem IsW.nil (m : Nat) : IsW m [] := fun _ h => nomatch h
theorem IsW.app {m : Nat} {w : List Int} {x : Int} (h : IsW m w) (h0 : 0 ≤ x) (h1 : x < m) : IsW m (w ++ [x]) := fun y hy => by
  rcases List.mem_append.mp hy with hy | hy
  · exact h y hy
  · rw [List.mem_singleton.mp hy]; exact ⟨h0, h1⟩
theorem take_nxt {α : Type} {ns : List α} {i : Nat} {y : α} (h : ns[i]? = some y) : ns.take (i + 1) = ns.take i ++ [y] := by rw [List.take_add_one, h]; rfl
/-- how often each heap stands -/
def sizesI (m : Nat) (w : List Int) : List Int := (List.range m).map fun h : Nat => (w.count (h : Int) : Int)
@[simp] theorem sizesI_length (m : Nat) (w : List Int) : (sizesI m w).length = m := by simp [sizesI]
theorem sizesI_getD {m : Nat} {w : List Int} {h : Nat} (hh : h < m) : (sizesI m w).getD h 0 = (w.count (h : Int) : Int) := by
  rw [List.getD_eq_getElem?_getD]; simp [sizesI, hh]
theorem sizesI_nil (m : Nat) : sizesI m [] = List.replicate m 0 := by
  unfold sizesI; rw [List.eq_replicate_iff]; simp
theorem sizesI_next {m : Nat} {w : List Int} (hw : IsW m w) {i : Nat} {x : Int} (e : w[i]? = some x) :
    (sizesI m (w.take i)).set x.toNat ((sizesI m (w.take i)).getD x.toNat 0 + 1) = sizesI m (w.take (i + 1)) := by
  have hb := hw.at e
  rw [take_nxt e, sizesI_getD (show x.toNat < m by omega)]
  apply List.ext_getElem
  · simp
  · intro c h1 h2
    have hc : c < m := by simpa using h2
    simp only [sizesI, List.getElem_set, List.getElem_map, List.getElem_range, List.count_append, List.count_singleton]
    by_cases ex : x.toNat = c
    · subst ex
      have : ((x.toNat : Nat) : Int) = x := by omega
      rw [if_pos rfl, this]; simp
    · rw [if_neg ex]
      have : (x == (c : Int)) = false := by rw [beq_eq_false_iff_ne]; omega
      simp [this]
/-- how many stand in heaps ahead of h -/
def startI (w : List Int) : Nat → Nat
  | 0 => 0
  | h + 1 => startI w h + w.count (h : Int)
theorem startI_mono (w : List Int) {h h' : Nat} (hh : h ≤ h') : startI w h ≤ startI w h' := by
  induction h' with
  | zero => have : h = 0 := by omega
            subst this; exact Nat.le_refl _
  | succ k ih =>
    by_cases e : h = k + 1
    · subst e; exact Nat.le_refl _
    · have := ih (by omega); show _ ≤ startI w k + _; omega
theorem startI_lt {w : List Int} {h h' : Nat} (hh : h < h') : startI w h + w.count (h : Int) ≤ startI w h' := startI_mono w (show h + 1 ≤ h' from hh)
theorem startI_filter (w : List Int) (hw : ∀ x ∈ w, 0 ≤ x) : ∀ h : Nat, startI w h = (w.filter fun x => decide (x < (h : Int))).length
  | 0 => by
    have : (w.filter fun x => decide (x < ((0 : Nat) : Int))) = [] := List.filter_eq_nil_iff.mpr fun x hx => by have := hw x hx; simp; omega
    rw [this]; rfl
  | h + 1 => by
    show startI w h + _ = _
    rw [startI_filter w hw h, show ((h + 1 : Nat) : Int) = (h : Int) + 1 by omega]
    clear hw
    induction w with
    | nil => rfl
    | cons x w ih =>
      simp only [List.count_cons, List.filter_cons]
      by_cases h1 : x < (h : Int)
      · have e1 : decide (x < (h : Int)) = true := decide_eq_true h1
        have e2 : decide (x < (h : Int) + 1) = true := decide_eq_true (by omega)
        have e3 : (x == (h : Int)) = false := by rw [beq_eq_false_iff_ne]; omega
        simp only [e1, e2, e3, if_true, List.length_cons]; simp; omega
      · have e1 : decide (x < (h : Int)) = false := decide_eq_false h1
        by_cases h2 : x = (h : Int)
        · have e2 : decide (x < (h : Int) + 1) = true := decide_eq_true (by omega)
          have e3 : (x == (h : Int)) = true := beq_iff_eq.mpr h2
          simp only [e1, e2, e3, if_true, List.length_cons]; simp; omega
        · have e2 : decide (x < (h : Int) + 1) = false := decide_eq_false (by omega)
          have e3 : (x == (h : Int)) = false := by rw [beq_eq_false_iff_ne]; omega
          simp only [e1, e2, e3]; simp; omega
theorem startI_all {m : Nat} {w : List Int} (hw : IsW m w) : startI w m = w.length := by
  rw [startI_filter w (fun x hx => (hw x hx).1)]
  congr 1
  exact List.filter_eq_self.mpr fun x hx => decide_eq_true (hw x hx).2
theorem sizesI_take_sum (m : Nat) (w : List Int) : ∀ {h : Nat}, h ≤ m → ((sizesI m w).take h).sum = startI w h
  | 0, _ => by simp; rfl
  | h + 1, hh => by
    have e : (sizesI m w)[h]? = some (w.count (h : Int) : Int) := by simp [sizesI, show h < m by omega]
    rw [take_nxt e, List.sum_append, sizesI_take_sum m w (by omega)]
    show _ + _ = ((startI w h + _ : Nat) : Int)
    simp
theorem sizesI_sum {m : Nat} {w : List Int} (hw : IsW m w) : (sizesI m w).sum = w.length := by
  have := sizesI_take_sum m w (Nat.le_refl m)
  rw [startI_all hw, List.take_of_length_le (by simp)] at this
  exact this
/-- the place from which the card comes that lies at place j: w[j] = h -/
def topI (ms : List Bool) (w : List Int) (h : Nat) (c : Nat) : Int := if ms.getD h false = true then (startI w h : Int) + w.count (h : Int) - 1 - c else startI w h + c
def cntI (w : List Int) (j : Nat) : Nat := (w.take j).count (w.getD j 0)
def numAt (ms : List Bool) (w : List Int) (j : Nat) : Int := topI ms w (w.getD j 0).toNat (cntI w j)
def numI (ms : List Bool) (w : List Int) : List Int := (List.range w.length).map (numAt ms w)
@[simp] theorem numI_length (ms : List Bool) (w : List Int) : (numI ms w).length = w.length := by simp [numI]
theorem getD_of {α : Type} {xs : List α} {i : Nat} {x d : α} (e : xs[i]? = some x) : xs.getD i d = x := by rw [List.getD_eq_getElem?_getD, e]; rfl
theorem getElem?_getD {α : Type} {xs : List α} {i : Nat} (d : α) (h : i < xs.length) : xs[i]? = some (xs.getD i d) := by
  rw [List.getD_eq_getElem?_getD, List.getElem?_eq_getElem h]; rfl
theorem cnt_lt {w : List Int} {j : Nat} {x : Int} (e : w[j]? = some x) : (w.take j).count x < w.count x := by
  have h1 := take_nxt e
  have h2 : (w.take (j + 1)).count x ≤ w.count x := (List.take_sublist _ _).count_le x
  rw [h1, List.count_append, List.count_singleton] at h2
  simp at h2
  omega
theorem topI_bd {m : Nat} {ms : List Bool} {w : List Int} (hw : IsW m w) {h c : Nat} (hh : h < m) (hc : c < w.count (h : Int)) :
    (startI w h : Int) ≤ topI ms w h c ∧ topI ms w h c < startI w h + w.count (h : Int) ∧ startI w h + w.count (h : Int) ≤ w.length := by
  have h1 := startI_lt (w := w) (show h < h + 1 by omega)
  have h2 := startI_mono w (show h + 1 ≤ m from hh)
  rw [startI_all hw] at h2
  have h3 : startI w (h + 1) = startI w h + w.count (h : Int) := rfl
  unfold topI
  split <;> omega
theorem numAt_bd {m : Nat} {ms : List Bool} {w : List Int} (hw : IsW m w) {j : Nat} (hj : j < w.length) : 0 ≤ numAt ms w j ∧ numAt ms w j < w.length := by
  have e := getElem?_getD 0 hj
  have hb := hw.at e
  have hc := cnt_lt e
  unfold numAt cntI
  have ex : (((w.getD j 0).toNat : Nat) : Int) = w.getD j 0 := by omega
  have := topI_bd (ms := ms) hw (h := (w.getD j 0).toNat) (c := (w.take j).count (w.getD j 0)) (by omega) (by rw [ex]; exact hc)
  rw [ex] at this
  omega
theorem numAt_inj {m : Nat} {ms : List Bool} {w : List Int} (hw : IsW m w) {i j : Nat} (hi : i < w.length) (hj : j < w.length) (he : numAt ms w i = numAt ms w j) : i = j := by
  have ei := getElem?_getD 0 hi
  have ej := getElem?_getD 0 hj
  have bi := hw.at ei
  have bj := hw.at ej
  have ci := cnt_lt ei
  have cj := cnt_lt ej
  have xi : (((w.getD i 0).toNat : Nat) : Int) = w.getD i 0 := by omega
  have xj : (((w.getD j 0).toNat : Nat) : Int) = w.getD j 0 := by omega
  have ti := topI_bd (ms := ms) hw (h := (w.getD i 0).toNat) (c := cntI w i) (by omega) (by rw [xi]; exact ci)
  have tj := topI_bd (ms := ms) hw (h := (w.getD j 0).toNat) (c := cntI w j) (by omega) (by rw [xj]; exact cj)
  have same : (w.getD i 0).toNat = (w.getD j 0).toNat := by
    unfold numAt at he
    rcases Nat.lt_trichotomy (w.getD i 0).toNat (w.getD j 0).toNat with h | h | h
    · have := startI_lt (w := w) h; omega
    · exact h
    · have := startI_lt (w := w) h; omega
  have sv : w.getD i 0 = w.getD j 0 := by omega
  have hcnt : cntI w i = cntI w j := by
    unfold numAt at he
    rw [same] at he
    unfold topI at he
    split at he <;> omega
  unfold cntI at hcnt
  rw [← sv] at hcnt
  rw [← sv] at ej
  rcases Nat.lt_trichotomy i j with h | h | h
  · have h1 : (w.take (i + 1)).count (w.getD i 0) ≤ (w.take j).count (w.getD i 0) := by
      have : (w.take (i + 1)).Sublist (w.take j) := List.take_sublist_take_left (by omega)
      exact this.count_le _
    rw [take_nxt ei, List.count_append, List.count_singleton_self] at h1
    omega
  · exact h
  · have h1 : (w.take (j + 1)).count (w.getD i 0) ≤ (w.take i).count (w.getD i 0) := by
      have : (w.take (j + 1)).Sublist (w.take i) := List.take_sublist_take_left (by omega)
      exact this.count_le _
    rw [take_nxt ej, List.count_append, List.count_singleton_self] at h1
    omega
theorem isOrd_numI {m : Nat} (ms : List Bool) {w : List Int} (hw : IsW m w) : IsOrd (numI ms w) := by
  refine isOrd_of_nodup ?_ ?_
  · unfold numI
    rw [List.nodup_iff_pairwise_ne, List.pairwise_map]
    refine List.Pairwise.imp_of_mem ?_ (List.nodup_range (n := w.length))
    intro a b ha hb hne e
    exact hne (numAt_inj hw (List.mem_range.mp ha) (List.mem_range.mp hb) e)
  · intro x hx
    obtain ⟨j, hj, rfl⟩ := List.mem_map.mp hx
    rw [numI_length]
    exact numAt_bd hw (List.mem_range.mp hj)
/-- the order behind a riffle, and the one ahead -/
def riffleI (o : List Int) (ms : List Bool) (w : List Int) : List Int := laidI o (numI ms w)
def undoneI (o : List Int) (ms : List Bool) (w : List Int) : List Int := laidI o (placesI (numI ms w))
@[simp] theorem riffleI_length (o : List Int) (ms : List Bool) (w : List Int) : (riffleI o ms w).length = w.length := by simp [riffleI]
@[simp] theorem undoneI_length (o : List Int) (ms : List Bool) (w : List Int) : (undoneI o ms w).length = w.length := by simp [undoneI]
theorem laidI_self_places {p : List Int} (h : IsOrd p) : laidI (placesI p) p = upto p.length := by
  have := laidI_places (isOrd_placesI h)
  rwa [placesI_placesI h, placesI_length] at this
theorem laidI_id {o : List Int} : laidI o (upto o.length) = o := by
  unfold laidI upto
  rw [List.map_map]
  apply List.ext_getElem
  · simp
  · intro i h1 h2
    simp only [List.getElem_map, List.getElem_range, Function.comp, Int.toNat_natCast]
    rw [List.getD_eq_getElem?_getD, List.getElem?_eq_getElem h2]; rfl
theorem riffle_undone {m : Nat} {o : List Int} {ms : List Bool} {w : List Int} (hw : IsW m w) (hl : o.length = w.length) : riffleI (undoneI o ms w) ms w = o := by
  have h := isOrd_numI ms hw
  unfold riffleI undoneI
  rw [laidI_assoc (fun p hp => by have := h.mem.mp hp; rwa [placesI_length]), laidI_self_places h, numI_length, ← hl, laidI_id]
theorem undone_riffle {m : Nat} {o : List Int} {ms : List Bool} {w : List Int} (hw : IsW m w) (hl : o.length = w.length) : undoneI (riffleI o ms w) ms w = o := by
  have h := isOrd_numI ms hw
  unfold riffleI undoneI
  rw [laidI_assoc (fun p hp => by have := (isOrd_placesI h).mem.mp hp; rwa [placesI_length] at this), laidI_places h, numI_length, ← hl, laidI_id]
theorem isOrd_riffleI {m : Nat} {o : List Int} (ms : List Bool) {w : List Int} (ho : IsOrd o) (hw : IsW m w) (hl : o.length = w.length) : IsOrd (riffleI o ms w) :=
  isOrd_laidI ho (isOrd_numI ms hw) (by simpa using hl)
theorem isOrd_undoneI {m : Nat} {o : List Int} (ms : List Bool) {w : List Int} (ho : IsOrd o) (hw : IsW m w) (hl : o.length = w.length) : IsOrd (undoneI o ms w) :=
  isOrd_laidI ho (isOrd_placesI (isOrd_numI ms hw)) (by simpa using hl)
theorem riffle_laid {m : Nat} {o : List Int} {ms : List Bool} {w : List Int} {n : Int} (hw : IsW m w) (hl : w.length = o.length) (hn : (o.length : Int) = n) : riffleI o ms w = laidI o (riffleI (upto n.toNat) ms w) := by
  have h := isOrd_numI ms hw
  subst hn
  unfold riffleI
  rw [Int.toNat_natCast, ← laidI_assoc (fun p hp => by have := h.mem.mp hp; rw [numI_length] at this; rw [upto_length]; omega), laidI_id]
theorem undone_laid {m : Nat} {o : List Int} {ms : List Bool} {w : List Int} {n : Int} (hw : IsW m w) (hl : w.length = o.length) (hn : (o.length : Int) = n) : undoneI o ms w = laidI o (undoneI (upto n.toNat) ms w) := by
  have h := isOrd_placesI (isOrd_numI ms hw)
  subst hn
  unfold undoneI
  rw [Int.toNat_natCast, ← laidI_assoc (fun p hp => by have := h.mem.mp hp; rw [placesI_length, numI_length] at this; rw [upto_length]; omega), laidI_id]
theorem ord_bd {a : List Int} {n : Nat} (h : IsOrd a) (hl : a.length = n) : ∀ p ∈ a, 0 ≤ p ∧ p < (n : Int) := fun p hp => by have := h.mem.mp hp; omega
/-! the programs' loops -/
theorem size_at {m : Nat} {w : List Int} {i : Nat} {y : Int} (e : (sizesI m w)[i]? = some y) : y = (w.count (i : Int) : Int) := by
  have hl := (List.getElem?_eq_some_iff.mp e).1
  have := getD_of (d := 0) e
  rw [sizesI_getD (by simpa using hl)] at this
  exact this.symm
def topsTo (ms : List Bool) (w : List Int) (n j : Nat) : List Int := (List.range n).map fun h => topI ms w h ((w.take j).count (h : Int))
theorem topI_t {ms : List Bool} {w : List Int} {h c : Nat} (hm : ms.getD (Int.toNat (h : Int)) false = true) : topI ms w h c = (startI w h : Int) + w.count (h : Int) - 1 - c := by
  rw [Int.toNat_natCast] at hm; unfold topI; rw [if_pos hm]
theorem topI_f {ms : List Bool} {w : List Int} {h c : Nat} (hm : ms.getD (Int.toNat (h : Int)) false = false) : topI ms w h c = (startI w h : Int) + c := by
  rw [Int.toNat_natCast] at hm; unfold topI; rw [if_neg (by rw [hm]; exact Bool.false_ne_true)]
theorem topsTo_next (ms : List Bool) (w : List Int) (n : Nat) {x : Int} (h : x = topI ms w n 0) : topsTo ms w n 0 ++ [x] = topsTo ms w (n + 1) 0 := by
  unfold topsTo; rw [List.range_succ, List.map_append, h]; simp
theorem topsTo_getD {ms : List Bool} {w : List Int} {n j h : Nat} (hh : h < n) : (topsTo ms w n j).getD h 0 = topI ms w h ((w.take j).count (h : Int)) := by
  rw [List.getD_eq_getElem?_getD]; simp [topsTo, hh]
def numTo (ms : List Bool) (w : List Int) (j : Nat) : List Int := (List.range j).map (numAt ms w)
theorem numTo_next {ms : List Bool} {w : List Int} (hw : IsW ms.length w) {i : Nat} {y : Int} (e : w[i]? = some y) : numTo ms w i ++ [(topsTo ms w ms.length i).getD y.toNat 0] = numTo ms w (i + 1) := by
  have hb := hw.at e
  unfold numTo
  rw [List.range_succ, List.map_append, topsTo_getD (by omega)]
  show _ = _ ++ [numAt ms w i]
  unfold numAt cntI
  rw [getD_of e, show ((y.toNat : Nat) : Int) = y by omega]
theorem tops_step {ms : List Bool} {w : List Int} (hw : IsW ms.length w) {i : Nat} {y v : Int} (e : w[i]? = some y) (hv : v = topI ms w y.toNat ((w.take i).count y + 1)) :
    (topsTo ms w ms.length i).set y.toNat v = topsTo ms w ms.length (i + 1) := by
  have hb := hw.at e
  apply List.ext_getElem
  · simp [topsTo]
  · intro c h1 h2
    simp only [topsTo, List.getElem_set, List.getElem_map, List.getElem_range]
    rw [take_nxt e, List.count_append, List.count_singleton]
    by_cases ex : y.toNat = c
    · subst ex
      have : ((y.toNat : Nat) : Int) = y := by omega
      rw [if_pos rfl, this, hv]; simp
    · rw [if_neg ex]
      have : (y == (c : Int)) = false := by rw [beq_eq_false_iff_ne]; omega
      simp [this]
theorem tops_t {ms : List Bool} {w : List Int} (hw : IsW ms.length w) {i : Nat} {y : Int} (e : w[i]? = some y) (hm : ms.getD y.toNat false = true) :
    (topsTo ms w ms.length i).set y.toNat ((topsTo ms w ms.length i).getD y.toNat 0 - 1) = topsTo ms w ms.length (i + 1) := by
  have hb := hw.at e
  refine tops_step hw e ?_
  rw [topsTo_getD (by omega), show ((y.toNat : Nat) : Int) = y by omega]
  unfold topI; rw [if_pos hm, if_pos hm]; omega
theorem tops_f {ms : List Bool} {w : List Int} (hw : IsW ms.length w) {i : Nat} {y : Int} (e : w[i]? = some y) (hm : ms.getD y.toNat false = false) :
    (topsTo ms w ms.length i).set y.toNat ((topsTo ms w ms.length i).getD y.toNat 0 + 1) = topsTo ms w ms.length (i + 1) := by
  have hb := hw.at e
  refine tops_step hw e ?_
  rw [topsTo_getD (by omega), show ((y.toNat : Nat) : Int) = y by omega]
  have hn : ¬ ms.getD y.toNat false = true := by rw [hm]; exact Bool.false_ne_true
  unfold topI; rw [if_neg hn, if_neg hn]; omega
def undoTo (o p : List Int) (i : Nat) : List Int := (List.range o.length).map fun c : Nat => if p.idxOf (c : Int) < i then o.getD (p.idxOf (c : Int)) 0 else 0
theorem undoTo_zero (o p : List Int) : o.map (fun _ => (0 : Int)) = undoTo o p 0 := by
  unfold undoTo
  apply List.ext_getElem
  · simp
  · intro i h1 h2; simp
theorem undoTo_all {o p : List Int} (h : IsOrd p) (hl : o.length = p.length) : undoTo o p (min o.length p.length) = laidI o (placesI p) := by
  unfold undoTo laidI placesI
  rw [List.map_map, hl, Nat.min_self]
  apply List.map_congr_left
  intro c hc
  rw [if_pos (idxOf_lt h (List.mem_range.mp hc))]; rfl
theorem undoTo_next {o p : List Int} (h : IsOrd p) (hl : o.length = p.length) {i : Nat} {x y : Int} (e : o[i]? = some x) (e2 : p[i]? = some y) : (undoTo o p i).set y.toNat x = undoTo o p (i + 1) := by
  have hb := h.bd e2
  have hi := idxOf_at h.nodup e2
  apply List.ext_getElem
  · simp [undoTo]
  · intro c h1 h2
    have hc : c < p.length := by rw [← hl]; simpa [undoTo] using h2
    simp only [undoTo, List.getElem_set, List.getElem_map, List.getElem_range]
    by_cases ex : y.toNat = c
    · subst ex
      have : ((y.toNat : Nat) : Int) = y := by omega
      rw [if_pos rfl, this, hi, if_pos (by omega), getD_of e]
    · rw [if_neg ex]
      have hne : p.idxOf (c : Int) ≠ i := by
        intro z
        have h3 := at_idxOf (h.mem.mpr ⟨show (0 : Int) ≤ (c : Int) by omega, show (c : Int) < p.length by omega⟩)
        rw [z, getD_of e2] at h3
        omega
      by_cases h4 : p.idxOf (c : Int) < i
      · rw [if_pos h4, if_pos (by omega)]
      · rw [if_neg h4, if_neg (by omega)]
/-! the law's heaps -/
def heapI (o : List Int) (ms : List Bool) (w : List Int) (h : Nat) : List Int :=
  if ms.getD h false = true then ((o.drop (startI w h)).take (w.count (h : Int))).reverse else (o.drop (startI w h)).take (w.count (h : Int))
def heapsTo (o : List Int) (ms : List Bool) (w : List Int) (n : Nat) : List (List Int) := (List.range n).map (heapI o ms w)
def heapsAt (o : List Int) (ms : List Bool) (w : List Int) (j : Nat) : List (List Int) := (List.range ms.length).map fun h => (heapI o ms w h).drop ((w.take j).count (h : Int))
theorem heapsTo_next (o : List Int) (ms : List Bool) (w : List Int) (n : Nat) : heapsTo o ms w (n + 1) = heapsTo o ms w n ++ [heapI o ms w n] := by
  unfold heapsTo; rw [List.range_succ, List.map_append]; rfl
theorem heapsAt_zero (o : List Int) (ms : List Bool) (w : List Int) : heapsAt o ms w 0 = heapsTo o ms w ms.length := by
  unfold heapsAt heapsTo
  apply List.map_congr_left
  intro h _; simp
theorem count_room {m : Nat} {w : List Int} (hw : IsW m w) {h : Nat} (hh : h < m) : startI w h + w.count (h : Int) ≤ w.length := by
  have h2 := startI_mono w (show h + 1 ≤ m from hh)
  rw [startI_all hw] at h2
  exact h2
theorem heapI_length {m : Nat} {o : List Int} {ms : List Bool} {w : List Int} (hw : IsW m w) (hl : w.length = o.length) {h : Nat} (hh : h < m) : (heapI o ms w h).length = w.count (h : Int) := by
  have := count_room hw hh
  unfold heapI
  split
  · rw [List.length_reverse, List.length_take, List.length_drop]; omega
  · rw [List.length_take, List.length_drop]; omega
theorem heapI_getD {m : Nat} {o : List Int} {ms : List Bool} {w : List Int} (hw : IsW m w) (hl : w.length = o.length) {h c : Nat} (hh : h < m) (hc : c < w.count (h : Int)) :
    (heapI o ms w h).getD c 0 = o.getD (topI ms w h c).toNat 0 := by
  have hr := count_room hw hh
  have hln := heapI_length (ms := ms) hw hl hh
  unfold heapI topI at *
  by_cases hm : ms.getD h false = true
  · rw [if_pos hm] at hln ⊢
    rw [if_pos hm]
    rw [List.getD_eq_getElem?_getD, List.getElem?_reverse (by rw [List.length_reverse] at hln; omega), List.getElem?_take_of_lt (by rw [List.length_reverse] at hln; omega), List.getElem?_drop, List.getD_eq_getElem?_getD]
    rw [List.length_reverse] at hln
    congr 2
    omega
  · rw [if_neg hm] at hln ⊢
    rw [if_neg hm]
    rw [List.getD_eq_getElem?_getD, List.getElem?_take_of_lt hc, List.getElem?_drop, List.getD_eq_getElem?_getD]
    congr 2
theorem heapsAt_row {o : List Int} {ms : List Bool} {w : List Int} {j : Nat} {y : Int} {rows : List (Nat × List Int)} (hl : w.length = o.length) (hb : 0 ≤ y ∧ y < ms.length) (hh : rows.map (·.2) = heapsAt o ms w j) :
    (rows.getD y.toNat (0, [])).2 = (heapI o ms w y.toNat).drop ((w.take j).count y) := by
  have e : (rows.map (·.2)).getD y.toNat [] = (rows.getD y.toNat (0, [])).2 := by
    rw [List.getD_eq_getElem?_getD, List.getElem?_map, List.getD_eq_getElem?_getD]
    cases rows[y.toNat]? <;> rfl
  rw [← e, hh, List.getD_eq_getElem?_getD]
  have : y.toNat < ms.length := by omega
  simp only [heapsAt, List.getElem?_map, List.getElem?_range this, Option.map_some, Option.getD_some]
  rw [show ((y.toNat : Nat) : Int) = y by omega]
theorem heapAt_length {o : List Int} {ms : List Bool} {w : List Int} (hw : IsW ms.length w) (hl : w.length = o.length) {i : Nat} {y : Int} (e : w[i]? = some y) :
    0 < ((heapI o ms w y.toNat).drop ((w.take i).count y)).length ∧ ((heapI o ms w y.toNat).drop ((w.take i).count y)).length ≤ w.length := by
  have hb := hw.at e
  have hc := cnt_lt e
  rw [List.length_drop, heapI_length hw hl (show y.toNat < ms.length by omega), show ((y.toNat : Nat) : Int) = y by omega]
  have := w.count_le_length (a := y)
  omega
def riffTo (o : List Int) (ms : List Bool) (w : List Int) (j : Nat) : List Int := (List.range j).map fun j => o.getD (numAt ms w j).toNat 0
theorem riffTo_all {o : List Int} {ms : List Bool} {w : List Int} (hw : IsW ms.length w) (hl : w.length = o.length) : riffTo o ms w w.length = riffleI o ms w := by
  unfold riffTo riffleI laidI numI
  rw [List.map_map]; rfl
theorem riffTo_next {o : List Int} {ms : List Bool} {w : List Int} (hw : IsW ms.length w) (hl : w.length = o.length) {i : Nat} {y : Int} (e : w[i]? = some y) :
    riffTo o ms w i ++ [((heapI o ms w y.toNat).drop ((w.take i).count y)).getD 0 0] = riffTo o ms w (i + 1) := by
  have hb := hw.at e
  have hc := cnt_lt e
  have ey : ((y.toNat : Nat) : Int) = y := by omega
  unfold riffTo
  rw [List.range_succ, List.map_append]
  congr 1
  have := heapI_getD (o := o) (ms := ms) hw hl (show y.toNat < ms.length by omega) (c := (w.take i).count y) (by rw [ey]; exact hc)
  rw [List.getD_eq_getElem?_getD, List.getElem?_drop, Nat.add_zero, ← List.getD_eq_getElem?_getD, this]
  show [_] = [o.getD (numAt ms w i).toNat 0]
  unfold numAt cntI
  rw [getD_of e]
theorem heapsAt_next {o : List Int} {ms : List Bool} {w : List Int} (hw : IsW ms.length w) {i : Nat} {y : Int} (e : w[i]? = some y) {r : List Int} (hr : r = ((heapI o ms w y.toNat).drop ((w.take i).count y)).drop 1) :
    (heapsAt o ms w i).set y.toNat r = heapsAt o ms w (i + 1) := by
  have hb := hw.at e
  apply List.ext_getElem
  · simp [heapsAt]
  · intro c h1 h2
    simp only [heapsAt, List.getElem_set, List.getElem_map, List.getElem_range]
    rw [take_nxt e, List.count_append, List.count_singleton]
    by_cases ex : y.toNat = c
    · subst ex
      have : ((y.toNat : Nat) : Int) = y := by omega
      rw [if_pos rfl, this, hr, List.drop_drop]; simp
    · rw [if_neg ex]
      have : (y == (c : Int)) = false := by rw [beq_eq_false_iff_ne]; omega
      simp [this]
end Rc
namespace Rc
open PySem PySem.Spec PyProof.Rows L2
theorem heap_cut {m : Nat} {o : List Int} {w : List Int} (hw : IsW m w) (hl : w.length = o.length) {h : Nat} (hh : h < m) {s : Int} (hs : s = (startI w h : Int)) :
    cutL o (some s) (some (s + (w.count (h : Int) : Int))) = (o.drop (startI w h)).take (w.count (h : Int)) := by
  have := count_room hw hh
  subst hs
  rw [cut_mid (by omega) (by omega) (by omega)]
  congr 1
  omega
theorem heap_t {o : List Int} {ms : List Bool} {w : List Int} (hw : IsW ms.length w) (hl : w.length = o.length) {h : Nat} (hh : h < ms.length) {s : Int} (hs : s = (startI w h : Int)) (hm : ms.getD (Int.toNat (h : Int)) false = true) :
    (cutL o (some s) (some (s + (w.count (h : Int) : Int)))).reverse = heapI o ms w h := by
  rw [Int.toNat_natCast] at hm
  rw [heap_cut hw hl hh hs]; unfold heapI; rw [if_pos hm]
theorem heap_f {o : List Int} {ms : List Bool} {w : List Int} (hw : IsW ms.length w) (hl : w.length = o.length) {h : Nat} (hh : h < ms.length) {s : Int} (hs : s = (startI w h : Int)) (hm : ms.getD (Int.toNat (h : Int)) false = false) :
    cutL o (some s) (some (s + (w.count (h : Int) : Int))) = heapI o ms w h := by
  rw [Int.toNat_natCast] at hm
  rw [heap_cut hw hl hh hs]; unfold heapI; rw [if_neg (by rw [hm]; exact Bool.false_ne_true)]
end Rc
namespace Rc
theorem heap_cut2 {m : Nat} {o left : List Int} {w : List Int} (hw : IsW m w) (hl : w.length = o.length) {h : Nat} (hh : h < m) {s : Int} (hs : ((w.count (h : Int) : Nat) : Int) = s) (hleft : left = o.drop (startI w h)) :
    cutL left none (some s) = (o.drop (startI w h)).take (w.count (h : Int)) ∧ cutL left (some s) none = o.drop (startI w (h + 1)) := by
  have hr := count_room hw hh
  subst hleft
  subst hs
  rw [cut_lo (by omega) (by rw [List.length_drop]; omega), cut_hi (by omega) (by rw [List.length_drop]; omega), Int.toNat_natCast, List.drop_drop]
  exact ⟨rfl, by rfl⟩
theorem heap_t2 {o x : List Int} {ms : List Bool} {w : List Int} {h : Nat} (hx : x = (o.drop (startI w h)).take (w.count (h : Int))) (hm : ms.getD (Int.toNat (h : Int)) false = true) : x.reverse = heapI o ms w h := by
  unfold heapI
  rw [Int.toNat_natCast] at hm
  rw [if_pos hm, hx]
theorem heap_f2 {o x : List Int} {ms : List Bool} {w : List Int} {h : Nat} (hx : x = (o.drop (startI w h)).take (w.count (h : Int))) (hm : ms.getD (Int.toNat (h : Int)) false = false) : x = heapI o ms w h := by
  unfold heapI
  rw [Int.toNat_natCast] at hm
  rw [if_neg (by rw [hm]; simp), hx]
theorem erase_drop (x : List Int) : x.eraseIdx (Int.toNat 0) = x.drop 1 := by cases x <;> rfl
end Rc
namespace Rc
/-! one heap of two turned -/
def cutW (o : List Int) (cut : Int) : List Int := o.map fun c => if cut ≤ c then 1 else 0
def leadsB (a b : Bool) (o : List Int) (cut : Int) : Bool := decide (0 ≤ cut) && decide (cut ≤ (o.length : Int)) && decide (riffleI (upto o.length) [a, b] (cutW o cut) = o)
theorem cutW_isW (o : List Int) (cut : Int) : IsW 2 (cutW o cut) := fun x hx => by
  obtain ⟨c, _, rfl⟩ := List.mem_map.mp hx
  split <;> omega
@[simp] theorem cutW_length (o : List Int) (cut : Int) : (cutW o cut).length = o.length := by simp [cutW]
theorem cutW_next {o : List Int} {cut : Int} {i : Nat} {y : Int} (e : o[i]? = some y) : cutW (o.take i) cut ++ [if cut ≤ y then 1 else 0] = cutW (o.take (i + 1)) cut := by
  rw [take_nxt e, cutW, cutW, List.map_append]; rfl
theorem isW_take {m : Nat} {o : List Int} {cut : Int} (i : Nat) : IsW 2 (cutW (o.take i) cut) := cutW_isW _ _
def ones (o : List Int) (cut : Int) (j : Nat) : Nat := ((cutW o cut).take j).count 1
def zers (o : List Int) (cut : Int) (j : Nat) : Nat := ((cutW o cut).take j).count 0
theorem cutW_getD {o : List Int} {cut : Int} {j : Nat} (h : j < o.length) : (cutW o cut)[j]? = some (if cut ≤ o.getD j 0 then 1 else 0) := by
  rw [cutW, List.getElem?_map, getElem?_getD 0 h]; rfl
theorem ones_succ {o : List Int} {cut : Int} {j : Nat} (h : j < o.length) : ones o cut (j + 1) = ones o cut j + if cut ≤ o.getD j 0 then 1 else 0 := by
  unfold ones
  rw [take_nxt (cutW_getD h), List.count_append]
  split <;> rfl
theorem zers_succ {o : List Int} {cut : Int} {j : Nat} (h : j < o.length) : zers o cut (j + 1) = zers o cut j + if cut ≤ o.getD j 0 then 0 else 1 := by
  unfold zers
  rw [take_nxt (cutW_getD h), List.count_append]
  split <;> rfl
theorem ones_zers {o : List Int} {cut : Int} : ∀ {j : Nat}, j ≤ o.length → ones o cut j + zers o cut j = j
  | 0, _ => rfl
  | j + 1, h => by
    rw [ones_succ (by omega), zers_succ (by omega)]
    have := ones_zers (o := o) (cut := cut) (j := j) (by omega)
    split <;> omega
theorem ones_mono {o : List Int} {cut : Int} {i j : Nat} (h : i ≤ j) (hj : j ≤ o.length) : ones o cut i ≤ ones o cut j := by
  induction j with
  | zero => rw [show i = 0 by omega]; exact Nat.le_refl _
  | succ j ih =>
    by_cases e : i = j + 1
    · subst e; exact Nat.le_refl _
    · have := ih (by omega) (by omega)
      rw [ones_succ (by omega)]; omega
theorem zers_mono {o : List Int} {cut : Int} {i j : Nat} (h : i ≤ j) (hj : j ≤ o.length) : zers o cut i ≤ zers o cut j := by
  induction j with
  | zero => rw [show i = 0 by omega]; exact Nat.le_refl _
  | succ j ih =>
    by_cases e : i = j + 1
    · subst e; exact Nat.le_refl _
    · have := ih (by omega) (by omega)
      rw [zers_succ (by omega)]; omega
theorem riff_first {ms : List Bool} {w : List Int} {n : Nat} (hw : IsW ms.length w) (hl : w.length = n) : riffleI (upto n) ms w = numI ms w := by
  unfold riffleI laidI
  conv => rhs; rw [← List.map_id (numI ms w)]
  apply List.map_congr_left
  intro p hp
  have := (isOrd_numI ms hw).mem.mp hp
  rw [numI_length] at this
  have hlt : p.toNat < n := by omega
  rw [List.getD_eq_getElem?_getD, upto_getElem? hlt]
  simp; omega
def vals (a b : Bool) (o : List Int) (cut : Int) (j : Nat) : Int :=
  if cut ≤ o.getD j 0 then (if b = true then (o.length : Int) - 1 - ones o cut j else (zers o cut o.length : Int) + ones o cut j)
  else (if a = true then (zers o cut o.length : Int) - 1 - zers o cut j else zers o cut j)
theorem num_vals {a b : Bool} {o : List Int} {cut : Int} {j : Nat} (h : j < o.length) : numAt [a, b] (cutW o cut) j = vals a b o cut j := by
  unfold numAt cntI vals
  rw [getD_of (cutW_getD h)]
  have hall : ones o cut o.length + zers o cut o.length = o.length := ones_zers (Nat.le_refl _)
  have e1 : (cutW o cut).count 1 = ones o cut o.length := by unfold ones; rw [List.take_of_length_le (by simp)]
  have e0 : (cutW o cut).count 0 = zers o cut o.length := by unfold zers; rw [List.take_of_length_le (by simp)]
  split
  · unfold topI
    show (if ([a, b].getD 1 false) = true then ((startI (cutW o cut) 1 : Nat) : Int) + ((cutW o cut).count 1 : Nat) - 1 - (ones o cut j : Nat) else ((startI (cutW o cut) 1 : Nat) : Int) + (ones o cut j : Nat)) = _
    rw [show startI (cutW o cut) 1 = 0 + (cutW o cut).count 0 from rfl, e0, e1]
    cases b
    · rw [if_neg (by simp), if_neg (by simp)]; omega
    · rw [if_pos (show [a, true].getD 1 false = true from rfl), if_pos rfl]; omega
  · unfold topI
    show (if ([a, b].getD 0 false) = true then ((startI (cutW o cut) 0 : Nat) : Int) + ((cutW o cut).count 0 : Nat) - 1 - (zers o cut j : Nat) else ((startI (cutW o cut) 0 : Nat) : Int) + (zers o cut j : Nat)) = _
    rw [show startI (cutW o cut) 0 = 0 from rfl, e0]
    cases a
    · rw [if_neg (by simp), if_neg (by simp)]; omega
    · rw [if_pos (show [true, b].getD 0 false = true from rfl), if_pos rfl]; omega
theorem leads_iff {a b : Bool} {o : List Int} {cut : Int} : leadsB a b o cut = true ↔ 0 ≤ cut ∧ cut ≤ o.length ∧ ∀ j, j < o.length → o.getD j 0 = vals a b o cut j := by
  unfold leadsB
  rw [Bool.and_eq_true, Bool.and_eq_true, decide_eq_true_eq, decide_eq_true_eq, decide_eq_true_eq, riff_first (ms := [a, b]) (cutW_isW o cut) (by simp)]
  constructor
  · rintro ⟨⟨h0, h1⟩, h2⟩
    refine ⟨h0, h1, fun j hj => ?_⟩
    have := congrArg (fun l => l.getD j 0) h2
    simp only [numI, cutW_length] at this
    rw [← this, ← num_vals hj, List.getD_eq_getElem?_getD]
    simp [hj]
  · rintro ⟨h0, h1, h2⟩
    refine ⟨⟨h0, h1⟩, ?_⟩
    apply List.ext_getElem
    · simp
    · intro j g1 g2
      have := h2 j g2
      rw [List.getD_eq_getElem?_getD, List.getElem?_eq_getElem g2, Option.getD_some] at this
      simp only [numI, List.getElem_map, List.getElem_range]
      rw [num_vals g2, this]
theorem leads_false {a b : Bool} {o : List Int} {cut : Int} (h : ¬ (0 ≤ cut ∧ cut ≤ o.length ∧ ∀ j, j < o.length → o.getD j 0 = vals a b o cut j)) : leadsB a b o cut = false := by
  cases e : leadsB a b o cut
  · rfl
  · exact absurd (leads_iff.mp e) h
/-! the second heap turned: low and high -/
def lh (o : List Int) : Nat → Int × Int
  | 0 => (0, (o.length : Int) - 1)
  | j + 1 => if o.getD j 0 = (lh o j).1 then ((lh o j).1 + 1, (lh o j).2) else if o.getD j 0 = (lh o j).2 then ((lh o j).1, (lh o j).2 - 1) else lh o j
def okAt (o : List Int) (j : Nat) : Prop := o.getD j 0 = (lh o j).1 ∨ o.getD j 0 = (lh o j).2
def okTo (o : List Int) (j : Nat) : Prop := ∀ i, i < j → okAt o i
theorem lh_low {o : List Int} {i : Nat} {y l h : Int} (e : o[i]? = some y) (hl : lh o i = (l, h)) (hy : y = l) : lh o (i + 1) = (l + 1, h) := by
  rw [lh, getD_of e, hl, if_pos hy]
theorem lh_high {o : List Int} {i : Nat} {y l h : Int} (e : o[i]? = some y) (hl : lh o i = (l, h)) (hy : ¬ y = l) (hy2 : y = h) : lh o (i + 1) = (l, h - 1) := by
  rw [lh, getD_of e, hl, if_neg hy, if_pos hy2]
theorem okTo_zero (o : List Int) : okTo o 0 := fun _ h => by omega
theorem okTo_next {o : List Int} {i : Nat} (h : okTo o i) (hi : okAt o i) : okTo o (i + 1) := fun j hj => by
  by_cases e : j = i
  · subst e; exact hi
  · exact h j (by omega)
theorem okAt_of {o : List Int} {i : Nat} {y l h : Int} (e : o[i]? = some y) (hl : lh o i = (l, h)) (hy : y = l ∨ y = h) : okAt o i := by
  unfold okAt; rw [getD_of e, hl]; exact hy
theorem not_okAt {o : List Int} {i : Nat} {y l h : Int} (e : o[i]? = some y) (hl : lh o i = (l, h)) (h1 : ¬ y = l) (h2 : ¬ y = h) : ¬ okAt o i := by
  unfold okAt; rw [getD_of e, hl]; exact fun z => z.elim h1 h2
theorem lh_sum {o : List Int} : ∀ {j : Nat}, okTo o j → (lh o j).1 + ((o.length : Int) - 1 - (lh o j).2) = j ∧ 0 ≤ (lh o j).1 ∧ (lh o j).2 ≤ (o.length : Int) - 1
  | 0, _ => by simp only [lh]; omega
  | j + 1, h => by
    have ih := lh_sum (j := j) (fun i hi => h i (by omega))
    have := h j (by omega)
    unfold okAt at this
    rw [lh]
    split
    · simp only []; omega
    · rw [if_pos (by omega)]; simp only []; omega
theorem lh_mono {o : List Int} (i : Nat) : ∀ d, (lh o i).1 ≤ (lh o (i + d)).1 ∧ (lh o (i + d)).2 ≤ (lh o i).2
  | 0 => ⟨Int.le_refl _, Int.le_refl _⟩
  | d + 1 => by
    have ih := lh_mono (o := o) i d
    rw [show i + (d + 1) = (i + d) + 1 by omega, lh]
    split
    · simp only []; omega
    · split
      · simp only []; omega
      · exact ih
/-- what lies among the first j -/
theorem lh_taken {o : List Int} : ∀ {j : Nat}, okTo o j → j ≤ o.length → ∀ x, x ∈ o.take j ↔ (0 ≤ x ∧ x < (lh o j).1) ∨ ((lh o j).2 < x ∧ x ≤ (o.length : Int) - 1)
  | 0, _, _ => by intro x; simp only [lh, List.take_zero, List.not_mem_nil, false_iff]; omega
  | j + 1, h, hj => by
    intro x
    have hj' : okTo o j := fun i hi => h i (by omega)
    have ih := lh_taken hj' (by omega) x
    have hs := lh_sum hj'
    have := h j (by omega)
    unfold okAt at this
    rw [take_nxt (getElem?_getD 0 (show j < o.length by omega)), List.mem_append, List.mem_singleton, ih, lh]
    split
    · simp only []; omega
    · rw [if_pos (by omega)]; simp only []; omega
theorem mem_drop_iff {o : List Int} (hn : o.Nodup) (j : Nat) {x : Int} : x ∈ o.drop j ↔ x ∈ o ∧ x ∉ o.take j := by
  have e : o.take j ++ o.drop j = o := List.take_append_drop j o
  have hd : ∀ y ∈ o.take j, ∀ z ∈ o.drop j, y ≠ z := by
    have := hn; rw [← e] at this; exact (List.nodup_append.mp this).2.2
  constructor
  · intro h
    exact ⟨List.mem_of_mem_drop h, fun h2 => hd x h2 x h rfl⟩
  · rintro ⟨h1, h2⟩
    rw [← e] at h1
    exact (List.mem_append.mp h1).resolve_left h2
theorem lh_left {o : List Int} (ho : IsOrd o) {j : Nat} (h : okTo o j) (hj : j < o.length) (x : Int) : x ∈ o.drop j ↔ (lh o j).1 ≤ x ∧ x ≤ (lh o j).2 := by
  have hs := lh_sum h
  rw [mem_drop_iff ho.nodup, lh_taken h (by omega), ho.mem]
  omega
theorem lh_min {o : List Int} (ho : IsOrd o) {j : Nat} (h : okTo o j) (hj : j < o.length) {m : Int} (h1 : m ∈ o.drop j) (h2 : ∀ x ∈ o.drop j, m ≤ x) : m = (lh o j).1 := by
  have hs := lh_sum h
  have a := (lh_left ho h hj m).mp h1
  have b := h2 _ ((lh_left ho h hj _).mpr ⟨Int.le_refl _, by omega⟩)
  omega
theorem lh_max {o : List Int} (ho : IsOrd o) {j : Nat} (h : okTo o j) (hj : j < o.length) {m : Int} (h1 : m ∈ o.drop j) (h2 : ∀ x ∈ o.drop j, x ≤ m) : m = (lh o j).2 := by
  have hs := lh_sum h
  have a := (lh_left ho h hj m).mp h1
  have b := h2 _ ((lh_left ho h hj _).mpr ⟨by omega, Int.le_refl _⟩)
  omega
def By2 (o : List Int) (b : Bool) (k : Int) : Prop := (b = true ∧ okTo o o.length ∧ k = o.getLastD 0) ∨ (b = false ∧ ∃ j, j < o.length ∧ okTo o j ∧ ¬ okAt o j ∧ k = (j : Int) + 1)
theorem last_getD {o : List Int} : o.getLastD 0 = o.getD (o.length - 1) 0 := by
  rw [List.getLastD_eq_getLast?, List.getLast?_eq_getElem?, List.getD_eq_getElem?_getD]
/-- a heap that leads there goes as low and high go -/
theorem leads_lh {o : List Int} {cut : Int} (h : ∀ j, j < o.length → o.getD j 0 = vals false true o cut j) : ∀ {i : Nat}, i < o.length → lh o i = ((zers o cut i : Int), (o.length : Int) - 1 - ones o cut i)
  | 0, _ => by simp [lh, zers, ones]
  | i + 1, hi => by
    have ih := leads_lh h (i := i) (by omega)
    have hv := h i (by omega)
    have hs := ones_zers (o := o) (cut := cut) (j := i) (by omega)
    rw [lh, ih]
    rw [zers_succ (by omega), ones_succ (by omega)]
    unfold vals at hv
    by_cases hc : cut ≤ o.getD i 0
    · rw [if_pos hc, if_pos rfl] at hv
      rw [if_neg (by simp only []; omega), if_pos (by simp only []; omega), if_pos hc, if_pos hc]
      refine Prod.ext ?_ ?_ <;> simp only [] <;> omega
    · rw [if_neg hc, if_neg (by simp)] at hv
      rw [if_pos (by simp only []; omega), if_neg hc, if_neg hc]
      refine Prod.ext ?_ ?_ <;> simp only [] <;> omega
theorem two_none {o : List Int} {j : Nat} (hj : j < o.length) (h : ¬ okAt o j) (cut : Int) : leadsB false true o cut = false := by
  refine leads_false fun ⟨_, _, hv⟩ => h ?_
  have e := leads_lh hv hj
  have hv := hv j hj
  unfold okAt
  rw [e]
  unfold vals at hv
  by_cases hc : cut ≤ o.getD j 0
  · rw [if_pos hc, if_pos rfl] at hv; exact .inr hv
  · rw [if_neg hc, if_neg (by simp)] at hv; exact .inl hv
theorem two_leads {o : List Int} (ho : IsOrd o) (h1 : 1 ≤ o.length) (h : okTo o o.length) : leadsB false true o (o.getLastD 0) = true := by
  rw [last_getD]
  have hm : o.getD (o.length - 1) 0 ∈ o := by
    rw [List.getD_eq_getElem?_getD, List.getElem?_eq_getElem (show o.length - 1 < o.length by omega)]; exact List.getElem_mem _
  have hb := ho.mem.mp hm
  have hlast : (lh o (o.length - 1)).1 = o.getD (o.length - 1) 0 ∧ (lh o (o.length - 1)).2 = o.getD (o.length - 1) 0 := by
    have hs := lh_sum (o := o) (j := o.length - 1) (fun i hi => h i (by omega))
    have := h (o.length - 1) (by omega)
    unfold okAt at this
    omega
  have key : ∀ j, j < o.length → lh o j = ((zers o (o.getD (o.length - 1) 0) j : Int), (o.length : Int) - 1 - ones o (o.getD (o.length - 1) 0) j) := by
    intro j
    induction j with
    | zero => intro _; simp [lh, zers, ones]
    | succ j ih =>
      intro hj
      have ih := ih (by omega)
      have ok := h j (by omega)
      have mono := lh_mono (o := o) (j + 1) (o.length - 1 - (j + 1))
      rw [show j + 1 + (o.length - 1 - (j + 1)) = o.length - 1 by omega, hlast.1, hlast.2] at mono
      unfold okAt at ok
      rw [zers_succ (by omega), ones_succ (by omega)]
      rw [lh] at mono ⊢
      by_cases hc : o.getD j 0 = (lh o j).1
      · rw [if_pos hc] at mono ⊢
        simp only [] at mono
        rw [if_neg (by omega), if_neg (by omega), ih]
        refine Prod.ext ?_ ?_ <;> simp only [] <;> omega
      · rw [if_neg hc, if_pos (by omega)] at mono ⊢
        simp only [] at mono
        rw [if_pos (by omega), if_pos (by omega), ih]
        refine Prod.ext ?_ ?_ <;> simp only [] <;> omega
  refine leads_iff.mpr ⟨by omega, by omega, fun j hj => ?_⟩
  have e := key j hj
  have ok := h j hj
  unfold okAt at ok
  unfold vals
  by_cases hl : j = o.length - 1
  · subst hl
    rw [if_pos (Int.le_refl _), if_pos rfl]
    have : (lh o (o.length - 1)).2 = (o.length : Int) - 1 - ones o (o.getD (o.length - 1) 0) (o.length - 1) := by rw [e]
    omega
  · have mono := lh_mono (o := o) (j + 1) (o.length - 1 - (j + 1))
    rw [show j + 1 + (o.length - 1 - (j + 1)) = o.length - 1 by omega, hlast.1, hlast.2, lh] at mono
    by_cases hc : o.getD j 0 = (lh o j).1
    · rw [if_pos hc] at mono
      simp only [] at mono
      rw [if_neg (by omega), if_neg (by simp), hc, e]
    · rw [if_neg hc, if_pos (by omega)] at mono
      simp only [] at mono
      rw [if_pos (by omega), if_pos rfl]
      have : (lh o j).2 = (o.length : Int) - 1 - ones o (o.getD (o.length - 1) 0) j := by rw [e]
      omega
theorem two_not {o : List Int} (ho : IsOrd o) (h1 : 1 ≤ o.length) : leadsB false true o (o.getLastD 0 - 1) = false := by
  rw [last_getD]
  refine leads_false fun ⟨h0, _, hv⟩ => ?_
  have hm : o.getD (o.length - 1) 0 ∈ o := by
    rw [List.getD_eq_getElem?_getD, List.getElem?_eq_getElem (show o.length - 1 < o.length by omega)]; exact List.getElem_mem _
  have hb := ho.mem.mp hm
  have hc : o.getD (o.length - 1) 0 - 1 ∈ o := ho.mem.mpr ⟨h0, by omega⟩
  obtain ⟨i, hi, he⟩ := List.mem_iff_getElem.mp hc
  have hi2 : o.getD i 0 = o.getD (o.length - 1) 0 - 1 := by rw [List.getD_eq_getElem?_getD, List.getElem?_eq_getElem hi]; exact he
  have v1 := hv i hi
  have v2 := hv (o.length - 1) (by omega)
  unfold vals at v1 v2
  rw [if_pos (by omega), if_pos rfl] at v1
  rw [if_pos (by omega), if_pos rfl] at v2
  have := ones_mono (o := o) (cut := o.getD (o.length - 1) 0 - 1) (show i ≤ o.length - 1 by omega) (by omega)
  omega
end Rc
namespace Rc
theorem cut_drop {o : List Int} {i : Nat} (h : i ≤ o.length) : cutL o (some (i : Int)) none = o.drop i := by
  rw [cut_hi (by omega) (by omega), Int.toNat_natCast]
theorem min_ok {o : List Int} {i : Nat} {m : Int} (ho : IsOrd o) (hok : okTo o i) (hi : i < o.length) (he : o.getD (Int.toNat (i : Int)) 0 = m) (h1 : m ∈ cutL o (some (i : Int)) none) (h2 : ∀ x ∈ cutL o (some (i : Int)) none, m ≤ x) : okAt o i := by
  rw [cut_drop (by omega)] at h1 h2
  rw [Int.toNat_natCast] at he
  exact .inl (he.trans (lh_min ho hok hi h1 h2))
theorem max_ok {o : List Int} {i : Nat} {m : Int} (ho : IsOrd o) (hok : okTo o i) (hi : i < o.length) (he : o.getD (Int.toNat (i : Int)) 0 = m) (h1 : m ∈ cutL o (some (i : Int)) none) (h2 : ∀ x ∈ cutL o (some (i : Int)) none, x ≤ m) : okAt o i := by
  rw [cut_drop (by omega)] at h1 h2
  rw [Int.toNat_natCast] at he
  exact .inr (he.trans (lh_max ho hok hi h1 h2))
theorem not_ok2 {o : List Int} {i : Nat} {m m' : Int} (ho : IsOrd o) (hok : okTo o i) (hi : i < o.length) (h2 : ∀ x ∈ cutL o (some (i : Int)) none, m ≤ x) (h1 : m ∈ cutL o (some (i : Int)) none) (hn : ¬ o.getD (Int.toNat (i : Int)) 0 = m)
    (h2' : ∀ x ∈ cutL o (some (i : Int)) none, x ≤ m') (h1' : m' ∈ cutL o (some (i : Int)) none) (hn' : ¬ o.getD (Int.toNat (i : Int)) 0 = m') : ¬ okAt o i := by
  rw [cut_drop (by omega)] at h1 h2 h1' h2'
  rw [Int.toNat_natCast] at hn hn'
  rw [lh_min ho hok hi h1 h2] at hn
  rw [lh_max ho hok hi h1' h2'] at hn'
  exact fun z => z.elim hn hn'
theorem isOrd_swap {o : List Int} {a b : Int} (ho : IsOrd o) (ha : 0 ≤ a ∧ a < o.length) (hb : 0 ≤ b ∧ b < o.length) : IsOrd ((o.set a.toNat (o.getD b.toNat 0)).set b.toNat (o.getD a.toNat 0)) := by
  have la : a.toNat < o.length := by omega
  have lb : b.toNat < o.length := by omega
  unfold IsOrd
  rw [List.length_set, List.length_set, List.getD_eq_getElem?_getD, List.getD_eq_getElem?_getD, List.getElem?_eq_getElem la, List.getElem?_eq_getElem lb]
  exact (List.set_set_perm la lb).trans ho
end Rc
namespace Rc
theorem filter_none {n : Nat} {f : Nat → Bool} {g : Nat → Int} (h : ∀ i, f i = false) : (List.map g (List.filter f (List.range n))).length = 0 := by
  rw [List.length_map, List.length_eq_zero_iff, List.filter_eq_nil_iff]
  intro i _; rw [h i]; simp
end Rc
namespace Rc
open PySem PySem.Spec PyProof.Rows L2
theorem by2_yes {o : List Int} {b : Bool} {k : Int} {v : V} (hby : By2 o b k) (hbr : (v = V.non ∧ okTo o o.length) ∨ (∃ j, j < o.length ∧ okTo o j ∧ ¬ okAt o j ∧ v = V.int ((j : Int) + 1))) (hn : v = V.non) : b = true ∧ okTo o o.length ∧ k = o.getLastD 0 := by
  rcases hby with h | ⟨_, j, h1, _, h3, _⟩
  · exact h
  · rcases hbr with ⟨_, h⟩ | ⟨j', _, _, _, h⟩
    · exact absurd (h j h1) h3
    · rw [hn] at h; cases h
theorem by2_no {o : List Int} {b : Bool} {k : Int} {v : V} (hby : By2 o b k) (hbr : (v = V.non ∧ okTo o o.length) ∨ (∃ j, j < o.length ∧ okTo o j ∧ ¬ okAt o j ∧ v = V.int ((j : Int) + 1))) (hn : ¬ v = V.non) : ∃ j, j < o.length ∧ ¬ okAt o j ∧ b = false ∧ k = (j : Int) + 1 ∧ v = V.int ((j : Int) + 1) := by
  rcases hbr with ⟨h, _⟩ | ⟨j, h1, h2, h3, h4⟩
  · exact absurd h hn
  · rcases hby with ⟨_, h, _⟩ | ⟨hb, j', g1, g2, g3, g4⟩
    · exact absurd (h j h1) h3
    · have e : j' = j := by
        rcases Nat.lt_trichotomy j' j with h | h | h
        · exact absurd (h2 j' h) g3
        · exact h
        · exact absurd (g2 j h) h3
      subst e
      exact ⟨j', h1, h3, hb, g4, h4⟩
theorem by2_sca {o : List Int} {b : Bool} {k : Int} {v : V} (h : ∃ j, j < o.length ∧ ¬ okAt o j ∧ b = false ∧ k = (j : Int) + 1 ∧ v = V.int ((j : Int) + 1)) : sca v = true := by
  obtain ⟨j, _, _, _, _, h⟩ := h
  subst h; rfl
end Rc
namespace Rc
def turnedI (marks others : List Bool) (heap other : Int) : Int := if marks.getD heap.toNat false = true then (others.length : Int) - 1 - other else other
def joinedRow (ms os : List Bool) (h n : Nat) : List Bool := (List.range n).map fun g : Nat => ms.getD h false != os.getD (turnedI ms os h g).toNat false
def joinedTo (ms os : List Bool) (n : Nat) : List Bool := (List.range n).flatMap fun h => joinedRow ms os h os.length
def joinedM (ms os : List Bool) : List Bool := joinedTo ms os ms.length
theorem turnedI_bd (ms os : List Bool) (h g : Int) (h0 : 0 ≤ g) (h1 : g < os.length) : 0 ≤ turnedI ms os h g ∧ turnedI ms os h g < os.length := by
  unfold turnedI; split <;> omega
theorem joinedRow_next (ms os : List Bool) (l : List Bool) (h n : Nat) : (l ++ joinedRow ms os h n) ++ [ms.getD h false != os.getD (turnedI ms os h n).toNat false] = l ++ joinedRow ms os h (n + 1) := by
  unfold joinedRow; rw [List.range_succ, List.map_append, List.append_assoc]; rfl
theorem joinedTo_next (ms os : List Bool) (n : Nat) : joinedTo ms os n ++ joinedRow ms os n os.length = joinedTo ms os (n + 1) := by
  unfold joinedTo; rw [List.range_succ, List.flatMap_append]; simp
theorem joinedTo_length (ms os : List Bool) (n : Nat) : (joinedTo ms os n).length = n * os.length := by
  induction n with
  | zero => simp [joinedTo]
  | succ n ih => rw [← joinedTo_next, List.length_append, ih]; simp [joinedRow, Nat.succ_mul]
theorem joined_size {ms os : List Bool} {h n : Nat} (hh : h < ms.length) (hn : n < os.length) (hm : ms.length * os.length ≤ 400) : (joinedTo ms os h ++ joinedRow ms os h n).length < 100000 := by
  rw [List.length_append, joinedTo_length]
  have : (joinedRow ms os h n).length = n := by simp [joinedRow]
  have h2 : (h + 1) * os.length ≤ ms.length * os.length := Nat.mul_le_mul_right _ hh
  rw [Nat.succ_mul] at h2
  omega
def dueRow (m : Bool) (os : List Bool) : List Bool := if m = true then os.reverse else os
def dueTo (ms os : List Bool) (i : Nat) : List Bool := (ms.take i).flatMap fun m => (dueRow m os).map fun o => m != o
theorem take_nx {α : Type} {ns : List α} {i : Nat} {y : α} (h : ns[i]? = some y) : ns.take (i + 1) = ns.take i ++ [y] := by rw [List.take_add_one, h]; rfl
theorem dueTo_next {ms os row : List Bool} {i : Nat} {m : Bool} (hy : ms[i]? = some m) (hj : row = dueRow m os) : dueTo ms os i ++ (row.take row.length).map (fun o => m != o) = dueTo ms os (i + 1) := by
  unfold dueTo; rw [take_nx hy, List.flatMap_append, List.take_length, hj]; simp
theorem dueRow_length (m : Bool) (os : List Bool) : (dueRow m os).length = os.length := by unfold dueRow; split <;> simp
theorem dueTo_length (ms os : List Bool) (i : Nat) (hi : i ≤ ms.length) : (dueTo ms os i).length = i * os.length := by
  induction i with
  | zero => simp [dueTo]
  | succ i ih =>
    have hy : ms[i]? = some ms[i] := List.getElem?_eq_getElem (by omega)
    rw [← dueTo_next hy rfl, List.length_append, ih (by omega), List.length_map, List.take_length, dueRow_length, Nat.succ_mul]
theorem due_size {ms os row : List Bool} {h n : Nat} {m : Bool} (hh : h < ms.length) (hn : n < row.length) (hm : ms.length * os.length ≤ 400) (hj : row = dueRow m os) : (dueTo ms os h).length + (row.take n).length < 100000 := by
  rw [dueTo_length _ _ _ (by omega), List.length_take]
  rw [hj, dueRow_length] at hn ⊢
  have h2 : (h + 1) * os.length ≤ ms.length * os.length := Nat.mul_le_mul_right _ hh
  rw [Nat.succ_mul] at h2
  omega
theorem dueRow_eq (ms os : List Bool) (h : Nat) : joinedRow ms os h os.length = (dueRow (ms.getD h false) os).map fun o => ms.getD h false != o := by
  unfold dueRow joinedRow turnedI
  rw [Int.toNat_natCast]
  generalize ms.getD h false = m
  split
  · rename_i hm
    apply List.ext_getElem
    · simp
    · intro i h1 h2
      have hi : i < os.length := by simpa using h1
      simp only [List.getElem_map, List.getElem_range, List.getElem_reverse]
      have : ((os.length : Int) - 1 - (i : Int)).toNat = os.length - 1 - i := by omega
      rw [this, List.getD_eq_getElem?_getD, List.getElem?_eq_getElem (by omega)]; rfl
  · apply List.ext_getElem
    · simp
    · intro i h1 h2
      have hi : i < os.length := by simpa using h1
      simp only [List.getElem_map, List.getElem_range]
      rw [Int.toNat_natCast, List.getD_eq_getElem?_getD, List.getElem?_eq_getElem (by omega)]; rfl
theorem dueTo_to (ms os : List Bool) (i : Nat) (hi : i ≤ ms.length) : dueTo ms os i = joinedTo ms os i := by
  induction i with
  | zero => rfl
  | succ i ih =>
    have hy : ms[i]? = some ms[i] := List.getElem?_eq_getElem (by omega)
    rw [← dueTo_next hy rfl, ih (by omega), ← joinedTo_next, List.take_length, dueRow_eq]
    have : ms.getD i false = ms[i] := by rw [List.getD_eq_getElem?_getD, hy]; rfl
    rw [this]
theorem dueTo_all (ms os : List Bool) : dueTo ms os ms.length = joinedM ms os := dueTo_to _ _ _ (Nat.le_refl _)
theorem prod20 {a b : Nat} (ha : a ≤ 20) (hb : b ≤ 20) : a * b ≤ 400 := Nat.mul_le_mul ha hb
theorem joinedM_length (ms os : List Bool) : (joinedM ms os).length = ms.length * os.length := joinedTo_length _ _ _
end Rc
namespace Rc
/-! two riffles as one -/
def ltW (ms : List Bool) (w : List Int) (i j : Nat) : Prop := w.getD i 0 < w.getD j 0 ∨ (w.getD i 0 = w.getD j 0 ∧ if ms.getD (w.getD i 0).toNat false = true then j < i else i < j)
theorem cnt_mono {w : List Int} {i j : Nat} (hij : i < j) (hj : j < w.length) (he : w.getD i 0 = w.getD j 0) : cntI w i < cntI w j := by
  unfold cntI
  rw [he]
  have hi : i < w.length := by omega
  have e1 : w.take (i + 1) = w.take i ++ [w.getD j 0] := by rw [take_nxt (getElem?_getD 0 hi), he]
  have h2 : ((w.take (i + 1)).count (w.getD j 0)) ≤ (w.take j).count (w.getD j 0) := by
    have : (w.take (i + 1)).Sublist (w.take j) := (List.take_prefix_take_left (show i + 1 ≤ j by omega)).sublist
    exact this.count_le _
  have e2 : List.count (w.getD j 0) [w.getD j 0] = 1 := by simp
  rw [e1, List.count_append, e2] at h2
  omega
theorem num_lt_of {m : Nat} {ms : List Bool} {w : List Int} (hw : IsW m w) {i j : Nat} (hi : i < w.length) (hj : j < w.length) (h : ltW ms w i j) : numAt ms w i < numAt ms w j := by
  have ei := getElem?_getD (0 : Int) hi
  have ej := getElem?_getD (0 : Int) hj
  have bi := hw.at ei
  have bj := hw.at ej
  have ci := cnt_lt ei
  have cj := cnt_lt ej
  have ti : (((w.getD i 0).toNat : Nat) : Int) = w.getD i 0 := by omega
  have tj : (((w.getD j 0).toNat : Nat) : Int) = w.getD j 0 := by omega
  unfold numAt
  rcases h with h | ⟨he, h⟩
  · have s := startI_lt (w := w) (show (w.getD i 0).toNat < (w.getD j 0).toNat by omega)
    rw [ti] at s
    unfold topI cntI
    rw [ti, tj]
    split <;> split <;> omega
  · unfold topI
    rw [← he]
    split at h
    · rename_i hm
      rw [if_pos hm, if_pos hm]
      have := cnt_mono h hi he.symm
      omega
    · rename_i hm
      rw [if_neg hm, if_neg hm]
      have := cnt_mono h hj he
      omega
theorem ltW_tri (ms : List Bool) (w : List Int) {i j : Nat} (h : i ≠ j) : ltW ms w i j ∨ ltW ms w j i := by
  unfold ltW
  rcases Int.lt_trichotomy (w.getD i 0) (w.getD j 0) with h1 | h1 | h1
  · exact .inl (.inl h1)
  · rw [h1]
    by_cases hm : ms.getD (w.getD j 0).toNat false = true
    · rw [if_pos hm, if_pos hm]
      rcases Nat.lt_or_gt_of_ne h with h2 | h2
      · exact .inr (.inr ⟨rfl, h2⟩)
      · exact .inl (.inr ⟨rfl, h2⟩)
    · rw [if_neg hm, if_neg hm]
      rcases Nat.lt_or_gt_of_ne h with h2 | h2
      · exact .inl (.inr ⟨rfl, h2⟩)
      · exact .inr (.inr ⟨rfl, h2⟩)
  · exact .inr (.inl h1)
theorem num_lt {m : Nat} {ms : List Bool} {w : List Int} (hw : IsW m w) {i j : Nat} (hi : i < w.length) (hj : j < w.length) : numAt ms w i < numAt ms w j ↔ ltW ms w i j := by
  refine ⟨fun h => ?_, num_lt_of hw hi hj⟩
  by_cases e : i = j
  · subst e; omega
  · rcases ltW_tri ms w e with h1 | h1
    · exact h1
    · have := num_lt_of hw hj hi h1; omega
/-- an order is told by its comparisons -/
theorem ord_rank {p : List Int} (h : IsOrd p) {j : Nat} (hj : j < p.length) : p.getD j 0 = (((List.range p.length).filter fun k => decide (p.getD k 0 < p.getD j 0)).length : Int) := by
  have hb := h.bd (getElem?_getD 0 hj)
  have e0 : ∀ t : Int, ((List.range p.length).filter fun k => decide (p.getD k 0 < t)).length = (p.filter fun x => decide (x < t)).length := by
    intro t
    have e : p = (List.range p.length).map fun k => p.getD k 0 := by
      apply List.ext_getElem
      · simp
      · intro i h1 h2
        simp [List.getD_eq_getElem?_getD, List.getElem?_eq_getElem h1]
    have e2 : (p.filter fun x => decide (x < t)).length = (((List.range p.length).map fun k => p.getD k 0).filter fun x => decide (x < t)).length := congrArg (fun l => (l.filter fun x => decide (x < t)).length) e
    rw [e2, List.filter_map, List.length_map]; rfl
  have e1 := e0 (p.getD j 0)
  rw [e1, (h.filter _).length_eq]
  have key : ∀ (n : Nat) (t : Int), 0 ≤ t → t ≤ n → (((upto n).filter fun x => decide (x < t)).length : Int) = t := by
    intro n
    induction n with
    | zero => intro t h0 h1; show ((([] : List Int).length : Nat) : Int) = t; simp; omega
    | succ n ih =>
      intro t h0 h1
      rw [upto_succ, List.filter_append, List.length_append]
      by_cases ht : t ≤ n
      · have := ih t h0 ht
        have e0 : List.filter (fun x => decide (x < t)) [(n : Int)] = [] := by simp; omega
        rw [e0]; simpa using this
      · have := ih n (by omega) (by omega)
        have e0 : List.filter (fun x => decide (x < t)) [(n : Int)] = [(n : Int)] := by simp; omega
        have e2 : (upto n).filter (fun x => decide (x < t)) = (upto n).filter (fun x => decide (x < (n : Int))) := by
          apply List.filter_congr
          intro x hx
          have := mem_upto.mp hx
          rw [decide_eq_decide]; omega
        rw [e0, e2]
        simp only [List.length_cons, List.length_nil]
        omega
  exact (key p.length _ hb.1 (by omega)).symm
theorem ord_ext {p q : List Int} (hp : IsOrd p) (hq : IsOrd q) (hl : p.length = q.length) (h : ∀ i j, i < p.length → j < p.length → (p.getD i 0 < p.getD j 0 ↔ q.getD i 0 < q.getD j 0)) : p = q := by
  apply List.ext_getElem hl
  intro j h1 h2
  have e1 := ord_rank hp h1
  have e2 := ord_rank hq h2
  have e : ((List.range p.length).filter fun k => decide (p.getD k 0 < p.getD j 0)).length = ((List.range q.length).filter fun k => decide (q.getD k 0 < q.getD j 0)).length := by
    rw [← hl]
    congr 1
    apply List.filter_congr
    intro k hk
    rw [decide_eq_decide]
    exact h k j (List.mem_range.mp hk) h1
  have e3 : p.getD j 0 = q.getD j 0 := by rw [e1, e2, e]
  rwa [List.getD_eq_getElem?_getD, List.getD_eq_getElem?_getD, List.getElem?_eq_getElem h1, List.getElem?_eq_getElem h2] at e3
/-- the word of both -/
def bothAt (ms : List Bool) (w : List Int) (os : List Bool) (more : List Int) (j : Nat) : Int :=
  w.getD (numAt os more j).toNat 0 * (os.length : Int) + turnedI ms os (w.getD (numAt os more j).toNat 0) (more.getD j 0)
def bothTo (ms : List Bool) (w : List Int) (os : List Bool) (more : List Int) (n : Nat) : List Int := (List.range n).map (bothAt ms w os more)
def bothW (ms : List Bool) (w : List Int) (os : List Bool) (more : List Int) : List Int := bothTo ms w os more more.length
theorem bothTo_next (ms : List Bool) (w : List Int) (os : List Bool) (more : List Int) (n : Nat) : bothTo ms w os more n ++ [bothAt ms w os more n] = bothTo ms w os more (n + 1) := by
  unfold bothTo; rw [List.range_succ, List.map_append]; rfl
@[simp] theorem bothW_length (ms : List Bool) (w : List Int) (os : List Bool) (more : List Int) : (bothW ms w os more).length = more.length := by simp [bothW, bothTo]
theorem bothW_getD {ms : List Bool} {w : List Int} {os : List Bool} {more : List Int} {j : Nat} (h : j < more.length) : (bothW ms w os more).getD j 0 = bothAt ms w os more j := by
  rw [List.getD_eq_getElem?_getD]; simp [bothW, bothTo, h]
theorem joinedM_getD {ms os : List Bool} {h g : Nat} (hh : h < ms.length) (hg : g < os.length) : (joinedM ms os).getD (h * os.length + g) false = (ms.getD h false != os.getD (turnedI ms os h g).toNat false) := by
  have key : ∀ n, h < n → (joinedTo ms os n).getD (h * os.length + g) false = (ms.getD h false != os.getD (turnedI ms os h g).toNat false) := by
    intro n
    induction n with
    | zero => intro hn; omega
    | succ n ih =>
      intro hn
      rw [← joinedTo_next, List.getD_eq_getElem?_getD]
      by_cases e : h = n
      · subst e
        rw [List.getElem?_append_right (by rw [joinedTo_length]; omega), joinedTo_length, show h * os.length + g - h * os.length = g by omega]
        simp [joinedRow, hg]
      · have hlt : h * os.length + g < (joinedTo ms os n).length := by
          rw [joinedTo_length]
          have : (h + 1) * os.length ≤ n * os.length := Nat.mul_le_mul_right _ (by omega)
          rw [Nat.add_mul] at this; omega
        rw [List.getElem?_append_left hlt, ← List.getD_eq_getElem?_getD]
        exact ih (by omega)
  exact key ms.length hh
theorem turned_turned {ms os : List Bool} {h g : Int} (hg : 0 ≤ g ∧ g < os.length) : turnedI ms os h (turnedI ms os h g) = g := by
  unfold turnedI
  split <;> omega
theorem mul_lt_iff {h h' t t' G : Int} (ht : 0 ≤ t ∧ t < G) (ht' : 0 ≤ t' ∧ t' < G) : h * G + t < h' * G + t' ↔ h < h' ∨ (h = h' ∧ t < t') := by
  constructor
  · intro e
    rcases Int.lt_trichotomy h h' with h1 | h1 | h1
    · exact .inl h1
    · subst h1; exact .inr ⟨rfl, by omega⟩
    · exfalso
      have : (h' + 1) * G ≤ h * G := Int.mul_le_mul_of_nonneg_right (by omega) (by omega)
      rw [Int.add_mul] at this; omega
  · rintro (h1 | ⟨h1, h2⟩)
    · have : (h + 1) * G ≤ h' * G := Int.mul_le_mul_of_nonneg_right (by omega) (by omega)
      rw [Int.add_mul] at this; omega
    · subst h1; omega
theorem mul_eq_iff {h h' t t' G : Int} (ht : 0 ≤ t ∧ t < G) (ht' : 0 ≤ t' ∧ t' < G) : h * G + t = h' * G + t' ↔ h = h' ∧ t = t' := by
  constructor
  · intro e
    rcases Int.lt_trichotomy h h' with h1 | h1 | h1
    · have := (mul_lt_iff ht ht').mpr (.inl h1); omega
    · subst h1; exact ⟨rfl, by omega⟩
    · have := (mul_lt_iff ht' ht).mpr (.inl h1); omega
  · rintro ⟨h1, h2⟩; rw [h1, h2]
theorem toNat_mul_add {a c : Int} {G : Nat} (ha : 0 ≤ a) (hc : 0 ≤ c) : (a * (G : Int) + c).toNat = a.toNat * G + c.toNat := by
  obtain ⟨x, rfl⟩ := Int.eq_ofNat_of_zero_le ha
  obtain ⟨y, rfl⟩ := Int.eq_ofNat_of_zero_le hc
  have : (x : Int) * (G : Int) + (y : Int) = ((x * G + y : Nat) : Int) := by push_cast; rfl
  rw [this]; rfl
section
variable {ms os : List Bool} {w more : List Int}
theorem both_bd (hw : IsW ms.length w) (hm : IsW os.length more) (hl : w.length = more.length) {j : Nat} (hj : j < more.length) :
    (numAt os more j).toNat < w.length ∧ (((numAt os more j).toNat : Nat) : Int) = numAt os more j ∧ 0 ≤ w.getD (numAt os more j).toNat 0 ∧ w.getD (numAt os more j).toNat 0 < ms.length ∧ 0 ≤ more.getD j 0 ∧ more.getD j 0 < os.length := by
  have b := numAt_bd (ms := os) hm hj
  have h1 : (numAt os more j).toNat < w.length := by omega
  have b1 := hw.at (getElem?_getD (0 : Int) h1)
  have b2 := hm.at (getElem?_getD (0 : Int) hj)
  exact ⟨h1, by omega, b1.1, b1.2, b2.1, b2.2⟩
theorem bothW_isW (hw : IsW ms.length w) (hm : IsW os.length more) (hl : w.length = more.length) : IsW (joinedM ms os).length (bothW ms w os more) := fun x hx => by
  obtain ⟨j, hj, rfl⟩ := List.mem_map.mp hx
  have b := both_bd hw hm hl (List.mem_range.mp hj)
  have t := turnedI_bd ms os (w.getD (numAt os more j).toNat 0) (more.getD j 0) b.2.2.2.2.1 b.2.2.2.2.2
  rw [joinedM_length]
  unfold bothAt
  have h1 : 0 ≤ w.getD (numAt os more j).toNat 0 * (os.length : Int) := Int.mul_nonneg b.2.2.1 (by omega)
  have h2 : (w.getD (numAt os more j).toNat 0 + 1) * (os.length : Int) ≤ (ms.length : Int) * os.length := Int.mul_le_mul_of_nonneg_right (by omega) (by omega)
  rw [Int.add_mul] at h2
  push_cast
  omega
theorem both_mark (hw : IsW ms.length w) (hm : IsW os.length more) (hl : w.length = more.length) {j : Nat} (hj : j < more.length) :
    (joinedM ms os).getD ((bothW ms w os more).getD j 0).toNat false = (ms.getD (w.getD (numAt os more j).toNat 0).toNat false != os.getD (more.getD j 0).toNat false) := by
  have b := both_bd hw hm hl hj
  have t := turnedI_bd ms os (w.getD (numAt os more j).toNat 0) (more.getD j 0) b.2.2.2.2.1 b.2.2.2.2.2
  rw [bothW_getD hj]
  unfold bothAt
  rw [toNat_mul_add b.2.2.1 t.1, joinedM_getD (by omega) (by omega)]
  congr 2
  rw [show (((w.getD (numAt os more j).toNat 0).toNat : Nat) : Int) = w.getD (numAt os more j).toNat 0 by omega, show (((turnedI ms os (w.getD (numAt os more j).toNat 0) (more.getD j 0)).toNat : Nat) : Int) = turnedI ms os (w.getD (numAt os more j).toNat 0) (more.getD j 0) by omega, turned_turned ⟨b.2.2.2.2.1, b.2.2.2.2.2⟩]
theorem both_lt (hw : IsW ms.length w) (hm : IsW os.length more) (hl : w.length = more.length) {i j : Nat} (hi : i < more.length) (hj : j < more.length) :
    ltW (joinedM ms os) (bothW ms w os more) i j ↔ ltW ms w (numAt os more i).toNat (numAt os more j).toNat := by
  have bi := both_bd hw hm hl hi
  have bj := both_bd hw hm hl hj
  have ti := turnedI_bd ms os (w.getD (numAt os more i).toNat 0) (more.getD i 0) bi.2.2.2.2.1 bi.2.2.2.2.2
  have tj := turnedI_bd ms os (w.getD (numAt os more j).toNat 0) (more.getD j 0) bj.2.2.2.2.1 bj.2.2.2.2.2
  have mk := both_mark hw hm hl hi
  have nlt := num_lt (ms := os) hm hi hj
  have ngt := num_lt (ms := os) hm hj hi
  unfold ltW at *
  rw [mk, bothW_getD hi, bothW_getD hj]
  unfold bothAt
  rw [mul_lt_iff ti tj, mul_eq_iff ti tj]
  generalize hA : w.getD (numAt os more i).toNat 0 = A at *
  generalize hB : w.getD (numAt os more j).toNat 0 = B at *
  by_cases hAB : A = B
  · subst hAB
    have e1 : (numAt os more i).toNat < (numAt os more j).toNat ↔ numAt os more i < numAt os more j := by omega
    have e2 : (numAt os more j).toNat < (numAt os more i).toNat ↔ numAt os more j < numAt os more i := by omega
    rw [e1, e2, nlt, ngt]
    unfold turnedI
    by_cases hms : ms.getD A.toNat false = true
    · rw [hms]
      simp only [if_true, if_pos]
      by_cases ht : more.getD i 0 = more.getD j 0
      · rw [ht]
        cases hos : os.getD (more.getD j 0).toNat false <;> simp <;> omega
      · have ht2 : ¬ more.getD j 0 = more.getD i 0 := fun z => ht z.symm
        constructor
        · rintro ((h | ⟨_, h⟩) | ⟨⟨_, h⟩, _⟩)
          · omega
          · exact .inr ⟨trivial, .inl (by omega)⟩
          · omega
        · rintro (h | ⟨_, h | ⟨h, _⟩⟩)
          · omega
          · exact .inl (.inr ⟨trivial, by omega⟩)
          · omega
    · have hms : ms.getD A.toNat false = false := by simpa using hms
      rw [hms]
      by_cases ht : more.getD i 0 = more.getD j 0
      · rw [ht]
        cases hos : os.getD (more.getD j 0).toNat false <;> simp <;> omega
      · have ht2 : ¬ more.getD j 0 = more.getD i 0 := fun z => ht z.symm
        simp [ht]
  · simp [hAB]
theorem riffle_joined {o : List Int} (hw : IsW ms.length w) (hm : IsW os.length more) (hl : w.length = more.length) (hlo : w.length = o.length) :
    riffleI o (joinedM ms os) (bothW ms w os more) = riffleI (riffleI o ms w) os more := by
  have hbw := bothW_isW hw hm hl
  unfold riffleI
  rw [laidI_assoc (ord_bd (isOrd_numI os hm) (by simp [hl]))]
  congr 1
  have hlen : (numI os more).length = (numI ms w).length := by simp [hl]
  refine ord_ext (isOrd_numI _ hbw) (isOrd_laidI (isOrd_numI ms hw) (isOrd_numI os hm) hlen.symm) (by simp [laidI]) fun i j hi hj => ?_
  have hi' : i < more.length := by simpa using hi
  have hj' : j < more.length := by simpa using hj
  have g1 : ∀ k, k < more.length → (numI (joinedM ms os) (bothW ms w os more)).getD k 0 = numAt (joinedM ms os) (bothW ms w os more) k := by
    intro k hk
    rw [List.getD_eq_getElem?_getD]; simp [numI, hk]
  have g2 : ∀ k, k < more.length → (laidI (numI ms w) (numI os more)).getD k 0 = numAt ms w (numAt os more k).toNat := by
    intro k hk
    have b := both_bd hw hm hl hk
    rw [List.getD_eq_getElem?_getD]
    simp [laidI, numI, hk, b.1, List.getD_eq_getElem?_getD]
  rw [g1 i hi', g1 j hj', g2 i hi', g2 j hj', num_lt hbw (by simpa using hi') (by simpa using hj'), both_lt hw hm hl hi' hj', num_lt hw (both_bd hw hm hl hi').1 (both_bd hw hm hl hj').1]
end
end Rc
namespace Rc
def cellI (s : List Int) (k : Int) : Int := if k < (s.length : Int) then s.getD (Int.toNat k) 0 else 0
theorem pick2 (a b c : Int) : ([a, b] : List Int).getD (Int.toNat (min 1 (c % 8))) 0 = a ∨ ([a, b] : List Int).getD (Int.toNat (min 1 (c % 8))) 0 = b := by
  have h0 := Int.emod_nonneg c (show (8 : Int) ≠ 0 by decide)
  rcases (show min 1 (c % 8) = 0 ∨ min 1 (c % 8) = 1 by omega) with h | h
  · rw [h]; exact .inl rfl
  · rw [h]; exact .inr rfl
theorem ahead_eq {os : List Bool} {more : List Int} {n : Nat} {i : Nat} {y : Int} (hm : IsW os.length more) (hl : more.length = n) (e : (riffleI (upto n) os more)[i]? = some y) : y = numAt os more i ∧ i < more.length := by
  rw [riff_first hm hl] at e
  have hi : i < more.length := by
    have := (List.getElem?_eq_some_iff.mp e).1
    simpa using this
  rw [numI, List.getElem?_map, List.getElem?_range hi] at e
  exact ⟨(Option.some.inj e).symm, hi⟩
theorem bothTo_step {ms os : List Bool} {w more : List Int} {i : Nat} {y z : Int} (h1 : y = numAt os more i) (h2 : more[i]? = some z) :
    bothTo ms w os more i ++ [w.getD (Int.toNat y) 0 * (os.length : Int) + turnedI ms os (w.getD (Int.toNat y) 0) z] = bothTo ms w os more (i + 1) := by
  rw [← bothTo_next]
  unfold bothAt
  rw [h1, getD_of h2]
end Rc
namespace Rc
open PySem PySem.Spec PyProof.Rows L2
theorem am_true {n : Nat} (h : 1 ≤ n ∧ n ≤ 400) : (decide (1 ≤ n) && decide (n ≤ 400)) = true := by rw [decide_eq_true h.1, decide_eq_true h.2]; rfl
theorem pk_pl (k : PK) : k.past.length = k.es.length := by unfold PK.past; rw [List.length_map]
theorem pk_app {dx a b at_ am aw : Addr} {es : List PE} {o : List Int} {marks : List Bool} {word : List Int} {C : List PC} (h : es.map peC = C) : (⟨dx, a, b, es ++ [⟨at_, am, aw, marks, word⟩], o⟩ : PK).past = C ++ [(marks, word)] := pc_app h
theorem pk_pop {dx a b : Addr} {es : List PE} {o : List Int} {C : List PC} (h : es.map peC = C) : (⟨dx, a, b, es.dropLast, o⟩ : PK).past = C.dropLast := pc_pop h
section
variable {m : List Bool} {w o : List Int} {L : PC}
theorem pk_lw (h : (m, w) = L) (hw : IsW L.1.length L.2) : IsW m.length w := by subst h; exact hw
theorem pk_ll (h : (m, w) = L) : m.length = L.1.length ∧ w.length = L.2.length := by subst h; exact ⟨rfl, rfl⟩
theorem pk_lu (h : (m, w) = L) : undoneI o m w = undoneI o L.1 L.2 := by subst h; rfl
end
end Rc
namespace Rc
open PySem PySem.Spec PyProof.Rows L2
/-! orders to which riffles lead -/
def ordTo (n : Nat) (P : List PC) : List Int := P.foldl (fun o e => riffleI o e.1 e.2) (upto n)
def PkOk (n : Nat) (P : List PC) : Prop := ∀ e ∈ P, 1 ≤ e.1.length ∧ e.1.length ≤ 400 ∧ e.2.length = n ∧ IsW e.1.length e.2
def ordsTo (n : Nat) (P : List PC) : List (List Int) := (List.range (P.length + 1)).map fun i => ordTo n (P.take i)
section
variable {n : Nat} {P : List PC} {e : PC} {m : List Bool} {w : List Int}
theorem ordTo_app : ordTo n (P ++ [e]) = riffleI (ordTo n P) e.1 e.2 := by unfold ordTo; rw [List.foldl_append]; rfl
theorem PkOk.nil : PkOk n [] := fun _ h => nomatch h
theorem PkOk.app (h : PkOk n P) (h1 : 1 ≤ m.length ∧ m.length ≤ 400) (h2 : w.length = n) (h3 : IsW m.length w) : PkOk n (P ++ [(m, w)]) := fun z hz => by
  rcases List.mem_append.mp hz with hz | hz
  · exact h z hz
  · cases List.mem_singleton.mp hz; exact ⟨h1.1, h1.2, h2, h3⟩
theorem PkOk.sub {Q : List PC} (h : PkOk n P) (hs : ∀ z ∈ Q, z ∈ P) : PkOk n Q := fun z hz => h z (hs z hz)
theorem PkOk.pop (h : PkOk n P) : PkOk n P.dropLast := h.sub fun _ hz => List.dropLast_subset _ hz
theorem PkOk.last (h : PkOk n P) (hn : 0 < P.length) : 1 ≤ (P.getLastD ([], [])).1.length ∧ (P.getLastD ([], [])).1.length ≤ 400 ∧ (P.getLastD ([], [])).2.length = n ∧ IsW (P.getLastD ([], [])).1.length (P.getLastD ([], [])).2 := by
  have hne : P ≠ [] := fun z => by subst z; exact absurd hn (by decide)
  rw [List.getLastD_eq_getLast?, List.getLast?_eq_some_getLast hne]
  exact h _ (List.getLast_mem hne)
theorem concat_last (hn : 0 < P.length) : P = P.dropLast ++ [P.getLastD ([], [])] := by
  have hne : P ≠ [] := fun z => by subst z; exact absurd hn (by decide)
  rw [List.getLastD_eq_getLast?, List.getLast?_eq_some_getLast hne]
  exact (List.dropLast_concat_getLast hne).symm
theorem ordTo_len (h : PkOk n P) : (ordTo n P).length = n := by
  by_cases hn : 0 < P.length
  · rw [concat_last hn, ordTo_app, riffleI_length]
    exact (h.last hn).2.2.1
  · have : P = [] := List.eq_nil_of_length_eq_zero (by omega)
    subst this
    exact upto_length n
theorem ordsTo_app : ordsTo n (P ++ [e]) = ordsTo n P ++ [ordTo n (P ++ [e])] := by
  unfold ordsTo
  rw [List.length_append, List.length_singleton, List.range_succ, List.map_append]
  congr 1
  · refine List.map_congr_left fun i hi => ?_
    rw [List.take_append_of_le_length (by have := List.mem_range.mp hi; omega)]
  · rw [List.map_singleton, List.take_of_length_le (by rw [List.length_append]; simp)]
theorem ordsTo_length : (ordsTo n P).length = P.length + 1 := by unfold ordsTo; simp
theorem ordsTo_nil : ordsTo n [] = [upto n] := rfl
theorem ordsTo_last : (ordsTo n P).getD ((ordsTo n P).length - 1) [] = ordTo n P := by
  rw [ordsTo_length, Nat.add_sub_cancel]
  unfold ordsTo
  rw [List.getD_eq_getElem?_getD, List.getElem?_map, List.getElem?_range (by omega)]
  show ordTo n (P.take P.length) = _
  rw [List.take_length]
theorem ordsTo_pop (hn : 0 < P.length) : (ordsTo n P).dropLast = ordsTo n P.dropLast := by
  have e : ordsTo n P = ordsTo n P.dropLast ++ [ordTo n P] := by
    have := ordsTo_app (n := n) (P := P.dropLast) (e := P.getLastD ([], []))
    rwa [← concat_last hn] at this
  rw [e, List.dropLast_concat]
theorem ordTo_undo (h : PkOk n P) (hn : 0 < P.length) : undoneI (ordTo n P) (P.getLastD ([], [])).1 (P.getLastD ([], [])).2 = ordTo n P.dropLast := by
  have hl := h.last hn
  conv => lhs; rw [concat_last hn]
  rw [← concat_last hn]
  have e : ordTo n P = riffleI (ordTo n P.dropLast) (P.getLastD ([], [])).1 (P.getLastD ([], [])).2 := by
    conv => lhs; rw [concat_last hn]
    exact ordTo_app
  rw [e]
  exact undone_riffle hl.2.2.2 (by rw [ordTo_len h.pop, hl.2.2.1])
end
/-! the pack, the orders, the riffles: they agree -/
structure Pk3 (n : Nat) (k : PK) (O : List (List Int)) (P : List PC) : Prop where
  past : k.past = P
  ords : O = ordsTo n P
  order : k.order = ordTo n P
  ok : PkOk n P
  nb : 1 ≤ n ∧ n ≤ 60
section
variable {n : Nat} {k k' : PK} {O : List (List Int)} {P : List PC} {m : List Bool} {w : List Int}
theorem Pk3.len (h : Pk3 n k O P) : k.order.length = n ∧ O.length = P.length + 1 ∧ k.past.length = P.length := by
  refine ⟨by rw [h.order, ordTo_len h.ok], by rw [h.ords, ordsTo_length], by rw [h.past]⟩
theorem Pk3.last (h : Pk3 n k O P) : O.getD (O.length - 1) [] = k.order := by rw [h.ords, ordsTo_last, h.order]
theorem Pk3.start {k : PK} {N : Int} (h0 : 1 ≤ N ∧ N ≤ 60) (h1 : k.order = upto (Int.toNat N)) (h2 : k.past = []) : Pk3 (Int.toNat N) k [upto (Int.toNat N)] [] :=
  ⟨h2, rfl, h1, PkOk.nil, by omega⟩
theorem Pk3.riffle (h : Pk3 n k O P) (hm : 1 ≤ m.length ∧ m.length ≤ 400) (hl : w.length = n) (hw : IsW m.length w) (h1 : k'.order = riffleI k.order m w) (h2 : k'.past = k.past ++ [(m, w)]) :
    Pk3 n k' (O ++ [riffleI (O.getD (O.length - 1) []) m w]) (P ++ [(m, w)]) := by
  refine ⟨by rw [h2, h.past], ?_, ?_, h.ok.app hm hl hw, h.nb⟩
  · rw [h.last, h.order, h.ords, ordsTo_app, ordTo_app]
  · rw [h1, h.order, ordTo_app]
theorem Pk3.undo (h : Pk3 n k O P) (hn : 0 < P.length) (h1 : k'.order = undoneI k.order (k.past.getLastD ([], [])).1 (k.past.getLastD ([], [])).2) (h2 : k'.past = k.past.dropLast) : Pk3 n k' O.dropLast P.dropLast := by
  refine ⟨by rw [h2, h.past], by rw [h.ords, ordsTo_pop hn], ?_, h.ok.pop, h.nb⟩
  rw [h1, h.past, h.order, ordTo_undo h.ok hn]
end
end Rc
namespace Rc
theorem pickP (a b x : Int) : ([a, b] : List Int).getD (Int.toNat (min 1 x)) 0 = a ∨ ([a, b] : List Int).getD (Int.toNat (min 1 x)) 0 = b := by
  by_cases h : 1 ≤ x
  · rw [Int.min_eq_left h]; exact .inr rfl
  · rw [show Int.toNat (min 1 x) = 0 by omega]; exact .inl rfl
end Rc
namespace Rc
open PySem PySem.Spec PyProof.Rows L2
/-- range(1, m, 3) -/
theorem rgc1_3 {m : Int} (h0 : 0 ≤ m) (h1 : m < 2 ^ 40) : RgC 1 m 3 (Int.toNat ((m + 1) / 3)) := by
  have hn : ((Int.toNat ((m + 1) / 3) : Nat) : Int) = if 1 < m then (m - 1 - 1) / 3 + 1 else 0 := by
    split <;> omega
  have hs : Builtin.Range.rangeSize 1 m 3 = Int.toNat ((m + 1) / 3) := by
    unfold Builtin.Range.rangeSize
    rw [if_pos (by decide), hn]
  refine ⟨by decide, by decide, ?_, hs⟩
  unfold Builtin.Range.small
  rw [hs, hn]
  simp only [Builtin.Range.rangeFitsLong, Bool.and_eq_true, Bool.or_eq_true, decide_eq_true_eq, beq_iff_eq]
  split
  · refine ⟨by omega, .inr ?_⟩
    rw [if_pos (by decide), Bool.and_eq_true, decide_eq_true_eq, decide_eq_true_eq]
    omega
  · exact ⟨by omega, .inl rfl⟩
end Rc
namespace Rc
open PySem PySem.Spec PyProof.Rows L2
/-! the one riffle -/
def whStep (z : PC) (e : PC) : PC := (joinedM z.1 e.1, bothW z.1 z.2 e.1 e.2)
def wholeP (n : Nat) (P : List PC) : PC := P.foldl whStep ([false], List.replicate n 0)
def heapsP (P : List PC) : Nat := P.foldl (fun a e => a * e.1.length) 1
section
variable {n i : Nat} {P : List PC} {e : PC}
theorem wholeP_app : wholeP n (P ++ [e]) = whStep (wholeP n P) e := by unfold wholeP; rw [List.foldl_append]; rfl
theorem heapsP_app : heapsP (P ++ [e]) = heapsP P * e.1.length := by unfold heapsP; rw [List.foldl_append]; rfl
theorem snoc_ind {p : List PC → Prop} (h0 : p []) (hs : ∀ P e, p P → p (P ++ [e])) : ∀ P, p P := fun P => by
  have key : ∀ Q : List PC, p Q.reverse := by
    intro Q
    induction Q with
    | nil => exact h0
    | cons e Q ih => rw [List.reverse_cons]; exact hs _ _ ih
  have := key P.reverse
  rwa [List.reverse_reverse] at this
theorem wholeP_heaps (P : List PC) : (wholeP n P).1.length = heapsP P := by
  induction P using snoc_ind with
  | h0 => rfl
  | hs P e ih => rw [wholeP_app, heapsP_app, ← ih]; exact joinedM_length _ _
theorem PkOk.init (h : PkOk n (P ++ [e])) : PkOk n P := h.sub fun _ hz => List.mem_append_left _ hz
theorem PkOk.end (h : PkOk n (P ++ [e])) : 1 ≤ e.1.length ∧ e.1.length ≤ 400 ∧ e.2.length = n ∧ IsW e.1.length e.2 := h e (List.mem_append_right _ List.mem_cons_self)
theorem PkOk.take (h : PkOk n P) : PkOk n (P.take i) := h.sub fun _ hz => List.mem_of_mem_take hz
theorem wholeP_ok (h : PkOk n P) : (wholeP n P).2.length = n ∧ IsW (wholeP n P).1.length (wholeP n P).2 := by
  revert h
  induction P using snoc_ind with
  | h0 =>
    intro _
    refine ⟨List.length_replicate, fun x hx => ?_⟩
    have : x = 0 := List.eq_of_mem_replicate hx
    subst this
    exact ⟨Int.le_refl _, (by decide : (0 : Int) < ((1 : Nat) : Int))⟩
  | hs P e ih =>
    intro h
    have ih := ih h.init
    have he := h.end
    rw [wholeP_app]
    refine ⟨?_, ?_⟩
    · show (bothW _ _ _ _).length = n
      rw [bothW_length]; exact he.2.2.1
    · exact bothW_isW ih.2 he.2.2.2 (by rw [ih.1, he.2.2.1])
theorem riffle_one (n : Nat) : riffleI (upto n) [false] (List.replicate n 0) = upto n := by
  have hw : IsW ([false] : List Bool).length (List.replicate n (0 : Int)) := fun x hx => by
    have : x = 0 := List.eq_of_mem_replicate hx
    subst this
    exact ⟨Int.le_refl _, by decide⟩
  rw [riff_first hw List.length_replicate]
  refine ord_ext (isOrd_numI _ hw) (isOrd_upto n) (by rw [numI_length, List.length_replicate, upto_length]) fun i j hi hj => ?_
  rw [numI_length, List.length_replicate] at hi hj
  have hi' : i < (List.replicate n (0 : Int)).length := by rw [List.length_replicate]; exact hi
  have hj' : j < (List.replicate n (0 : Int)).length := by rw [List.length_replicate]; exact hj
  have e1 : ∀ k, k < n → (numI [false] (List.replicate n (0 : Int))).getD k 0 = numAt [false] (List.replicate n (0 : Int)) k := fun k hk => by
    rw [List.getD_eq_getElem?_getD, numI, List.getElem?_map, List.getElem?_range (by rw [List.length_replicate]; exact hk)]; rfl
  have e2 : ∀ k, k < n → (upto n).getD k 0 = (k : Int) := fun k hk => by
    rw [List.getD_eq_getElem?_getD, upto, List.getElem?_map, List.getElem?_range hk]; rfl
  have e3 : ∀ k, k < n → (List.replicate n (0 : Int)).getD k 0 = 0 := fun k hk => by
    rw [List.getD_eq_getElem?_getD, List.getElem?_replicate, if_pos hk]; rfl
  rw [e1 i hi, e1 j hj, e2 i hi, e2 j hj, num_lt hw hi' hj']
  unfold ltW
  rw [e3 i hi, e3 j hj]
  constructor
  · rintro (h | ⟨_, h⟩)
    · omega
    · rw [if_neg (by decide)] at h; omega
  · intro h
    exact .inr ⟨rfl, by rw [if_neg (by decide)]; omega⟩
/-- it leads where all riffles lead -/
theorem wholeP_leads (h : PkOk n P) : riffleI (upto n) (wholeP n P).1 (wholeP n P).2 = ordTo n P := by
  revert h
  induction P using snoc_ind with
  | h0 => intro _; exact riffle_one n
  | hs P e ih =>
    intro h
    have w := wholeP_ok h.init
    have he := h.end
    rw [wholeP_app, ordTo_app, ← ih h.init]
    exact riffle_joined w.2 he.2.2.2 (by rw [w.1, he.2.2.1]) (by rw [w.1, upto_length])
theorem heapsP_pos (h : PkOk n P) : 1 ≤ heapsP P := by
  revert h
  induction P using snoc_ind with
  | h0 => intro _; exact Nat.le_refl _
  | hs P e ih =>
    intro h
    rw [heapsP_app]
    exact Nat.mul_pos (ih h.init) (by have := h.end; omega)
theorem heapsP_take (h : PkOk n P) (i : Nat) : heapsP (P.take i) ≤ heapsP P := by
  revert h
  induction P using snoc_ind with
  | h0 => intro _; rw [List.take_nil]; exact Nat.le_refl _
  | hs P e ih =>
    intro h
    by_cases hi : i ≤ P.length
    · rw [List.take_append_of_le_length hi, heapsP_app]
      exact Nat.le_trans (ih h.init) (Nat.le_mul_of_pos_right _ (by have := h.end; omega))
    · rw [List.take_of_length_le (by rw [List.length_append]; simp; omega)]
      exact Nat.le_refl _
/-- one turn -/
theorem wh_next {y : PC} (hy : P[i]? = some y) : wholeP n (P.take (i + 1)) = whStep (wholeP n (P.take i)) y := by rw [take_next hy, wholeP_app]
theorem hp_next {y : PC} (hy : P[i]? = some y) : heapsP (P.take (i + 1)) = heapsP (P.take i) * y.1.length := by rw [take_next hy, heapsP_app]
theorem wh_turn {m : List Bool} {w : List Int} (h : PkOk n P) (hy : P[i]? = some (m, w)) (h4 : heapsP (P.take i) * m.length ≤ 400) :
    (wholeP n (P.take i)).1.length = heapsP (P.take i) ∧ (wholeP n (P.take i)).1.length ≤ 400 ∧ (wholeP n (P.take i)).2.length = n ∧ IsW (wholeP n (P.take i)).1.length (wholeP n (P.take i)).2 ∧ IsW m.length w ∧ w.length = n ∧ 1 ≤ m.length ∧ m.length ≤ 400 ∧ (wholeP n (P.take i)).1.length * m.length ≤ 400 := by
  have hm := h _ (List.mem_of_getElem? hy)
  have w1 := wholeP_ok (h.take (i := i))
  have e := wholeP_heaps (n := n) (P.take i)
  have hle : heapsP (P.take i) ≤ 400 := Nat.le_trans (Nat.le_mul_of_pos_right _ (Nat.lt_of_lt_of_le Nat.zero_lt_one hm.1)) h4
  exact ⟨e, by omega, w1.1, w1.2, hm.2.2.2, hm.2.2.1, hm.1, hm.2.1, by rw [e]; exact h4⟩
theorem hp_turn {m : List Bool} {w : List Int} (h : PkOk n P) (hy : P[i]? = some (m, w)) : heapsP (P.take i) * m.length ≤ heapsP P ∧ m.length ≤ 400 ∧ (wholeP n (P.take i)).1.length = heapsP (P.take i) := by
  have e := hp_next hy
  have := heapsP_take h (i + 1)
  exact ⟨by rw [e] at this; exact this, (h _ (List.mem_of_getElem? hy)).2.1, wholeP_heaps _⟩
end
theorem prod_iff {a b : Nat} : (400 : Int) < (a : Int) * (b : Int) ↔ 400 < a * b := by
  rw [← Int.natCast_mul]; omega
end Rc
namespace Rc
open PySem PySem.Spec PyProof.Rows L2
theorem eqv_same {d e : PyData} (h : d = e) (hc : d.canLay0 = true) : PyData.eqv d e = true := by subst h; exact PySem.SeqAt.eqv_refl _ hc
/-! the marks and the word of two riffles, in the law's way -/
theorem bothTo_law {ms os : List Bool} {w more : List Int} {n i : Nat} {H : Int} (hm : IsW os.length more) (hl : more.length = n) (hi : i < n) (hH : H = w.getD (Int.toNat ((riffleI (upto n) os more).getD i 0)) 0) :
    bothTo ms w os more i ++ [H * (os.length : Int) + turnedI ms os H (more.getD i 0)] = bothTo ms w os more (i + 1) := by
  subst hH
  have hir : i < (riffleI (upto n) os more).length := by rw [riffleI_length, hl]; exact hi
  have e := getElem?_getD (0 : Int) hir
  have hy := ahead_eq hm hl e
  exact bothTo_step hy.1 (getElem?_getD (0 : Int) (by omega))
theorem mem4 {x : Int} {i : Nat} (h : ([20, 20, 1, 2] : List Int)[i]? = some x) : 1 ≤ x ∧ x ≤ 20 := by
  have := List.mem_of_getElem? h
  simp only [List.mem_cons, List.not_mem_nil, or_false] at this
  omega
end Rc
namespace Rc
open PySem PySem.Spec PyProof.Rows L2
section
variable {ms os : List Bool} {w more : List Int} {n i : Nat} {H : Int}
theorem bothTo_law_t (hm : IsW os.length more) (hl : more.length = n) (hi : i < n) (hH : H = w.getD (Int.toNat ((riffleI (upto n) os more).getD i 0)) 0) (hT : ms.getD (Int.toNat H) false = true) :
    bothTo ms w os more i ++ [H * (os.length : Int) + ((os.length : Int) - 1 - more.getD i 0)] = bothTo ms w os more (i + 1) := by
  rw [← bothTo_law hm hl hi hH]; unfold turnedI; rw [if_pos hT]
theorem bothTo_law_f (hm : IsW os.length more) (hl : more.length = n) (hi : i < n) (hH : H = w.getD (Int.toNat ((riffleI (upto n) os more).getD i 0)) 0) (hF : ms.getD (Int.toNat H) false = false) :
    bothTo ms w os more i ++ [H * (os.length : Int) + more.getD i 0] = bothTo ms w os more (i + 1) := by
  rw [← bothTo_law hm hl hi hH]; unfold turnedI; rw [if_neg (by rw [hF]; exact Bool.false_ne_true)]
end
end Rc
namespace Rc
/-- the number of ways to choose -/
def bin : Nat → Nat → Nat
  | _, 0 => 1
  | 0, _ + 1 => 0
  | n + 1, k + 1 => bin n k + bin n (k + 1)
@[simp] theorem bin_zero (n : Nat) : bin n 0 = 1 := by cases n <;> rfl
@[simp] theorem bin_zero_succ (k : Nat) : bin 0 (k + 1) = 0 := rfl
theorem bin_succ (n k : Nat) : bin (n + 1) (k + 1) = bin n k + bin n (k + 1) := rfl
theorem bin_gt : ∀ {n k : Nat}, n < k → bin n k = 0
  | _, 0, h => by omega
  | 0, _ + 1, _ => rfl
  | n + 1, k + 1, h => by rw [bin_succ, bin_gt (show n < k by omega), bin_gt (show n < k + 1 by omega)]
@[simp] theorem bin_self : ∀ n : Nat, bin n n = 1
  | 0 => rfl
  | n + 1 => by rw [bin_succ, bin_self n, bin_gt (Nat.lt_succ_self n)]
theorem bin_one : ∀ n : Nat, bin n 1 = n
  | 0 => rfl
  | n + 1 => by rw [bin_succ, bin_zero, bin_one n]; omega
theorem bin_smul : ∀ n k : Nat, (k + 1) * bin (n + 1) (k + 1) = (n + 1) * bin n k
  | 0, 0 => rfl
  | 0, k + 1 => by rw [bin_succ]; simp
  | n + 1, 0 => by rw [bin_one]; simp
  | n + 1, k + 1 => by
    have h1 := bin_smul n k
    have h2 := bin_smul n (k + 1)
    have e : bin (n + 1) (k + 1) = bin n k + bin n (k + 1) := bin_succ n k
    rw [bin_succ (n + 1) (k + 1)]
    grind
theorem bin_mul (n k : Nat) : (k + 1) * bin n (k + 1) + k * bin n k = n * bin n k := by
  have h := bin_smul n k
  rw [bin_succ] at h
  grind
theorem bin_mulZ (n k : Nat) : (bin n (k + 1) : Int) * (k + 1) = bin n k * ((n : Int) - k) := by
  have h := bin_mul n k
  have h' : ((k : Int) + 1) * bin n (k + 1) + k * bin n k = n * bin n k := by exact_mod_cast h
  grind
theorem bin_add_symm : ∀ a b : Nat, bin (a + b) a = bin (a + b) b
  | 0, b => by simp
  | a + 1, 0 => by simp
  | a + 1, b + 1 => by
    have h1 := bin_add_symm a (b + 1)
    have h2 := bin_add_symm (a + 1) b
    have e1 : a + 1 + (b + 1) = (a + (b + 1)) + 1 := by omega
    have e2 : a + 1 + b = a + (b + 1) := by omega
    rw [e2] at h2
    rw [e1, bin_succ, bin_succ]
    omega
theorem bin_symm {n k : Nat} (h : k ≤ n) : bin n k = bin n (n - k) := by
  have := bin_add_symm k (n - k)
  rwa [show k + (n - k) = n by omega] at this
/-- choose, of whole numbers -/
def chooseZ (n k : Int) : Int := if k < 0 ∨ n < k then 0 else (bin n.toNat k.toNat : Nat)
theorem chooseZ_out {n k : Int} (h : k < 0 ∨ n < k) : chooseZ n k = 0 := if_pos h
theorem chooseZ_in {n k : Int} (h0 : 0 ≤ k) (h1 : k ≤ n) : chooseZ n k = bin n.toNat k.toNat := if_neg (by omega)
theorem chooseZ_min {n k : Int} (h0 : 0 ≤ k) (h1 : k ≤ n) : chooseZ n k = bin n.toNat (min k (n - k)).toNat := by
  rw [chooseZ_in h0 h1]
  by_cases h : k ≤ n - k
  · rw [show min k (n - k) = k by omega]
  · rw [show min k (n - k) = n - k by omega, bin_symm (show k.toNat ≤ n.toNat by omega)]
    congr 2; omega
theorem choose_step {n : Int} {t : Nat} {found : Int} (hf : found = (bin n.toNat t : Nat)) (hn : 0 ≤ n) (ht : (t : Int) < n) : found * (n - t) / (t + 1) = (bin n.toNat (t + 1) : Nat) := by
  have h := bin_mulZ n.toNat t
  rw [Int.toNat_of_nonneg hn] at h
  rw [hf, ← h]
  exact Int.mul_ediv_cancel _ (by omega)
/-- n (n - 1) .. k factors -/
def falling (n : Int) : Nat → Int
  | 0 => 1
  | k + 1 => falling n k * (n - k)
theorem bin_falling (n : Nat) : ∀ k, (bin n k : Int) * falling k k = falling n k := by
  have key : ∀ k j : Nat, falling ((k + 1 : Nat) : Int) (j + 1) = ((k : Int) + 1) * falling k j := by
    intro k j
    induction j with
    | zero => simp [falling]
    | succ j ih => rw [falling, ih, falling]; grind
  intro k
  induction k with
  | zero => simp [falling]
  | succ k ih =>
    rw [key, falling, ← ih]
    have := bin_mulZ n k
    grind
theorem choose_falls {n k : Int} (h0 : 0 ≤ k) (h1 : k ≤ n) : (bin n.toNat k.toNat : Int) * falling k k.toNat = falling n k.toNat := by
  obtain ⟨a, rfl⟩ := Int.eq_ofNat_of_zero_le h0
  obtain ⟨b, rfl⟩ := Int.eq_ofNat_of_zero_le (show 0 ≤ n by omega)
  exact bin_falling b a
theorem chooseZ_pascal {n k : Int} (hn : 0 < n) : chooseZ (n - 1) k + chooseZ (n - 1) (k - 1) = chooseZ n k := by
  by_cases h0 : k < 0
  · rw [chooseZ_out (.inl h0), chooseZ_out (by omega), chooseZ_out (.inl h0)]; rfl
  by_cases h1 : n < k
  · rw [chooseZ_out (by omega), chooseZ_out (by omega), chooseZ_out (.inr h1)]; rfl
  obtain ⟨m, hm⟩ : ∃ m : Nat, n = m + 1 := ⟨(n - 1).toNat, by omega⟩
  subst hm
  have em : ((m : Int) + 1 - 1) = m := by omega
  rw [em, chooseZ_in (n := (m : Int) + 1) (by omega) (by omega)]
  have e1 : ((m : Int) + 1).toNat = m + 1 := by omega
  rw [e1]
  by_cases hk : k = 0
  · subst hk
    rw [chooseZ_in (by omega) (by omega), chooseZ_out (by omega)]; simp
  · obtain ⟨j, hj⟩ : ∃ j : Nat, k = j + 1 := ⟨(k - 1).toNat, by omega⟩
    subst hj
    have e2 : ((j : Int) + 1).toNat = j + 1 := by omega
    have e3 : ((j : Int) + 1 - 1) = j := by omega
    rw [e2, e3, bin_succ]
    rw [chooseZ_in (n := (m : Int)) (k := (j : Int)) (by omega) (by omega), Int.toNat_natCast, Int.toNat_natCast]
    by_cases hl : (j : Int) + 1 ≤ m
    · rw [chooseZ_in (by omega) hl, e2, Int.toNat_natCast]; omega
    · rw [chooseZ_out (by omega), bin_gt (show m < j + 1 by omega)]; simp
theorem chooseZ_sub {n k : Int} (h0 : 0 ≤ k) (h1 : k ≤ n) : chooseZ n (n - k) = chooseZ n k := by
  rw [chooseZ_in (by omega) (by omega), chooseZ_in h0 h1, bin_symm (show k.toNat ≤ n.toNat by omega)]
  congr 2; omega
/-- bounds -/
structure Bd (k : Nat) (i : Int) : Prop where
  lt : i.natAbs < 2 ^ k
theorem Bd.mono {a b : Nat} {i : Int} (h : Bd a i) (hab : a ≤ b) : Bd b i := ⟨Nat.lt_of_lt_of_le h.lt (Nat.pow_le_pow_right (by decide) hab)⟩
theorem Bd.mul {a b : Nat} {i j : Int} (h : Bd a i) (h' : Bd b j) : Bd (a + b) (i * j) := ⟨by
  rw [Int.natAbs_mul, Nat.pow_add]
  exact Nat.mul_lt_mul'' h.lt h'.lt⟩
theorem Bd.one (k : Nat) : Bd (k + 1) 1 := ⟨by
  have := Nat.pow_le_pow_right (n := 2) (by decide) (show 1 ≤ k + 1 by omega)
  have : (1 : Int).natAbs = 1 := rfl
  omega⟩
theorem bin_le_pow (n : Nat) : ∀ k, bin n k ≤ n ^ k := by
  induction n with
  | zero => intro k; cases k <;> simp
  | succ n ih =>
    intro k
    cases k with
    | zero => simp
    | succ k =>
      rw [bin_succ, Nat.pow_succ]
      have h1 := ih k
      have h2 := ih (k + 1)
      have h3 : n ^ k ≤ (n + 1) ^ k := Nat.pow_le_pow_left (by omega) k
      rw [Nat.pow_succ] at h2
      have h4 : n ^ k * n ≤ (n + 1) ^ k * n := Nat.mul_le_mul_right _ h3
      have : (n + 1) ^ k * (n + 1) = (n + 1) ^ k * n + (n + 1) ^ k := by rw [Nat.mul_add, Nat.mul_one]
      omega
theorem Bd.bin {n t B : Nat} (hn : n < 2 ^ B) : Bd (B * t + 1) (Rc.bin n t : Nat) := ⟨by
  rw [Int.natAbs_natCast]
  have h1 := bin_le_pow n t
  have h2 : n ^ t ≤ (2 ^ B) ^ t := Nat.pow_le_pow_left (Nat.le_of_lt hn) t
  rw [← Nat.pow_mul] at h2
  have h3 : 2 ^ (B * t) < 2 ^ (B * t + 1) := Nat.pow_lt_pow_right (by decide) (by omega)
  omega⟩
theorem Bd.falling {n : Int} {B : Nat} (hB : Bd B n) (h0 : 0 ≤ n) : ∀ {t : Nat}, (t : Int) ≤ n → Bd (B * t + 1) (Rc.falling n t)
  | 0, _ => Bd.one _
  | t + 1, h => by
    have h1 : Bd B (n - t) := ⟨by have := hB.lt; omega⟩
    have := (Bd.falling hB h0 (t := t) (by omega)).mul h1
    exact this.mono (by rw [Nat.mul_succ]; omega)
end Rc
namespace Rc
def isFall (p : List Int) (i : Nat) : Bool := decide (p.getD (i + 1) 0 < p.getD i 0)
/-- the falls among the first c cards -/
def fc (p : List Int) (c : Nat) : Nat := ((List.range (c - 1)).filter (isFall p)).length
def fallsI (o : List Int) : Nat := fc o o.length
theorem fallsI_eq (o : List Int) : ((List.range (Int.toNat ((o.length : Int) - 1))).filter (fun i : Nat => decide (o.getD (Int.toNat ((i : Int) + 1)) 0 < o.getD (Int.toNat (i : Int)) 0))).length = fallsI o := by
  unfold fallsI fc
  have : Int.toNat ((o.length : Int) - 1) = o.length - 1 := by omega
  rw [this]; rfl
theorem fc_succ (p : List Int) (c : Nat) (hc : 1 ≤ c) : fc p (c + 1) = fc p c + if isFall p (c - 1) = true then 1 else 0 := by
  unfold fc
  obtain ⟨d, rfl⟩ : ∃ d, c = d + 1 := ⟨c - 1, by omega⟩
  show ((List.range (d + 1)).filter _).length = ((List.range d).filter _).length + _
  rw [List.range_succ, List.filter_append, List.length_append]
  congr 1
  show _ = if isFall p d = true then 1 else 0
  by_cases h : isFall p d = true
  · rw [if_pos h, List.filter_cons_of_pos h]; rfl
  · rw [if_neg h, List.filter_cons_of_neg h]; rfl
theorem fc_yes {o : List Int} {i : Nat} (h : o.getD (Int.toNat ((i : Int) + 1)) 0 < o.getD (Int.toNat (i : Int)) 0) : (fc o (i + 1) : Int) + 1 = (fc o (i + 1 + 1) : Nat) := by
  rw [fc_succ _ (i + 1) (by omega), if_pos (show isFall o (i + 1 - 1) = true from decide_eq_true h)]; omega
theorem fc_no {o : List Int} {i : Nat} (h : ¬ o.getD (Int.toNat ((i : Int) + 1)) 0 < o.getD (Int.toNat (i : Int)) 0) : (fc o (i + 1) : Int) = (fc o (i + 1 + 1) : Nat) := by
  rw [fc_succ _ (i + 1) (by omega), if_neg (by rw [show isFall o (i + 1 - 1) = false from decide_eq_false h]; exact Bool.false_ne_true)]; omega
theorem fc_run (p : List Int) {c d : Nat} (hcd : c ≤ d) (h : ∀ e, c ≤ e → e < d → 1 ≤ e → isFall p (e - 1) = false) (h1 : 1 ≤ d) : fc p d = if c = 0 then 0 else fc p c := by
  induction d with
  | zero => omega
  | succ d ih =>
    by_cases hd : d = 0
    · subst hd
      by_cases hc : c = 0
      · subst hc; rfl
      · have : c = 1 := by omega
        subst this; rfl
    · by_cases hc : c = d + 1
      · subst hc; rw [if_neg (by omega)]
      · rw [fc_succ p d (by omega), h d (by omega) (by omega) (by omega), ih (by omega) (fun e h1 h2 h3 => h e h1 (by omega) h3) (by omega)]; simp
/-- rounds behind so many cards -/
def roundsAt (p : List Int) (c : Nat) : Int := if c = 0 then 0 else 1 + (fc p c : Int)
/-- one pass from card c on: behind i places cur is looked for -/
structure Pass (o : List Int) (c i cur : Int) : Prop where
  le : 0 ≤ c ∧ c ≤ cur ∧ cur ≤ o.length
  seen : ∀ d : Int, c ≤ d → d < cur → (o.idxOf d : Int) < i
  up : ∀ d : Int, c < d → d < cur → o.idxOf (d - 1) < o.idxOf d
  nx : cur < o.length → (i ≤ o.idxOf cur ∨ (c < cur ∧ o.idxOf cur < o.idxOf (cur - 1)))
theorem Pass.start {o : List Int} {c : Int} (h0 : 0 ≤ c) (h1 : c < o.length) : Pass o c 0 c :=
  ⟨⟨h0, Int.le_refl _, by omega⟩, fun d _ _ => by omega, fun d _ _ => by omega, fun _ => .inl (by omega)⟩
theorem Pass.hit {o : List Int} {c cur : Int} {i : Nat} (ho : IsOrd o) (p : Pass o c i cur) (e : o[i]? = some cur) : Pass o c ((i : Int) + 1) (cur + 1) := by
  have hi := idxOf_at ho.nodup e
  have hb := ho.bd e
  have hl := p.le
  refine ⟨by omega, fun d h1 h2 => ?_, fun d h1 h2 => ?_, fun h => ?_⟩
  · by_cases hd : d = cur
    · subst hd; omega
    · have := p.seen d h1 (by omega); omega
  · by_cases hd : d = cur
    · subst hd
      have := p.seen (d - 1) (by omega) (by omega)
      omega
    · exact p.up d h1 (by omega)
  · by_cases hq : (i : Int) + 1 ≤ o.idxOf (cur + 1)
    · exact .inl hq
    · refine .inr ⟨by omega, ?_⟩
      rw [show cur + 1 - 1 = cur by omega, hi]
      have hne : o.idxOf (cur + 1) ≠ i := fun z => by
        have h3 := at_idxOf (ho.mem.mpr ⟨show (0 : Int) ≤ cur + 1 by omega, h⟩)
        rw [z, List.getD_eq_getElem?_getD, e] at h3
        simp at h3
        omega
      omega
theorem Pass.miss {o : List Int} {c cur x : Int} {i : Nat} (ho : IsOrd o) (p : Pass o c i cur) (e : o[i]? = some x) (hne : ¬ x = cur) : Pass o c ((i : Int) + 1) cur := by
  have hl := p.le
  refine ⟨hl, fun d h1 h2 => by have := p.seen d h1 h2; omega, p.up, fun h => ?_⟩
  rcases p.nx h with q | q
  · left
    have : o.idxOf cur ≠ i := fun z => by
      have h3 := at_idxOf (ho.mem.mpr ⟨show (0 : Int) ≤ cur by omega, h⟩)
      rw [z, List.getD_eq_getElem?_getD, e] at h3
      simp at h3
      omega
    omega
  · exact .inr q
theorem Pass.more {o : List Int} {c cur : Int} (ho : IsOrd o) (hc : c < o.length) (p : Pass o c o.length cur) : c < cur := by
  have hl := p.le
  by_cases h : c = cur
  · subst h
    rcases p.nx hc with q | q
    · have := List.idxOf_lt_length_of_mem (ho.mem.mpr ⟨hl.1, hc⟩); omega
    · omega
  · omega
theorem placesI_at {o : List Int} {d : Nat} (h : d < o.length) : (placesI o).getD d 0 = (o.idxOf (d : Int) : Int) := placesI_getD h
theorem Pass.rounds {o : List Int} {c cur r : Int} (ho : IsOrd o) (hc : c < o.length) (p : Pass o c o.length cur) (hr : r = roundsAt (placesI o) c.toNat)
    (hs : c = 0 ∨ c = o.length ∨ isFall (placesI o) (c.toNat - 1) = true) : r + 1 = roundsAt (placesI o) cur.toNat := by
  have hl := p.le
  have hm := p.more ho hc
  obtain ⟨a, rfl⟩ := Int.eq_ofNat_of_zero_le hl.1
  obtain ⟨b, rfl⟩ := Int.eq_ofNat_of_zero_le (show 0 ≤ cur by omega)
  rw [Int.toNat_natCast] at *
  have key := fc_run (placesI o) (c := a + 1) (d := b) (by omega) (fun e h1 h2 h3 => by
    have hu := p.up (e : Int) (by omega) (by omega)
    unfold isFall
    rw [placesI_at (by omega), placesI_at (by omega)]
    have e1 : ((e - 1 + 1 : Nat) : Int) = e := by omega
    have e2 : ((e - 1 : Nat) : Int) = (e : Int) - 1 := by omega
    rw [e1, e2]
    exact decide_eq_false (by omega)) (by omega)
  rw [if_neg (by omega)] at key
  unfold roundsAt at *
  rw [if_neg (show ¬ b = 0 by omega), key, hr]
  by_cases h0 : a = 0
  · subst h0; rfl
  · rw [if_neg h0, fc_succ _ _ (by omega)]
    rcases hs with q | q | q
    · omega
    · omega
    · rw [if_pos q]; omega
theorem Pass.fall {o : List Int} {c cur : Int} (ho : IsOrd o) (hc : c < o.length) (p : Pass o c o.length cur) : cur = 0 ∨ cur = o.length ∨ isFall (placesI o) (cur.toNat - 1) = true := by
  have hl := p.le
  have hm := p.more ho hc
  by_cases h : cur < o.length
  · right; right
    rcases p.nx h with q | q
    · have := List.idxOf_lt_length_of_mem (ho.mem.mpr ⟨show 0 ≤ cur by omega, h⟩); omega
    · obtain ⟨b, rfl⟩ := Int.eq_ofNat_of_zero_le (show 0 ≤ cur by omega)
      rw [Int.toNat_natCast]
      unfold isFall
      rw [placesI_at (by omega), placesI_at (by omega)]
      have e1 : ((b - 1 + 1 : Nat) : Int) = b := by omega
      have e2 : ((b - 1 : Nat) : Int) = (b : Int) - 1 := by omega
      rw [e1, e2]
      exact decide_eq_true (by omega)
  · omega
/-- runs -/
def runsI (o : List Int) : Nat := 1 + fallsI (placesI o)
theorem taken_runs {o : List Int} {c r : Int} (h1 : 1 ≤ o.length) (hc : c = o.length) (hr : r = roundsAt (placesI o) c.toNat) : r = runsI o := by
  subst hc
  rw [hr, Int.toNat_natCast]
  unfold roundsAt runsI fallsI
  rw [if_neg (by omega), placesI_length]; omega
theorem range_rev (m : Nat) : (List.range m).map (fun i => m - 1 - i) = (List.range m).reverse := by
  apply List.ext_getElem
  · simp
  · intro i h1 h2
    simp at h1 ⊢
theorem count_rev (m : Nat) (p : Nat → Bool) : ((List.range m).filter fun i => p (m - 1 - i)).length = ((List.range m).filter p).length := by
  have h1 : ((List.range m).filter fun i => p (m - 1 - i)).length = (((List.range m).map fun i => m - 1 - i).filter p).length := by
    rw [List.filter_map, List.length_map]; rfl
  rw [h1, range_rev, List.filter_reverse, List.length_reverse]
theorem count_not (l : List Nat) (p : Nat → Bool) : (l.filter p).length + (l.filter fun i => !p i).length = l.length := by
  induction l with
  | nil => rfl
  | cons x l ih =>
    cases h : p x <;> simp [List.filter_cons, h] <;> omega
theorem falls_reverse {o : List Int} (hn : o.Nodup) (h1 : 1 ≤ o.length) : (fallsI o.reverse : Int) = (o.length : Int) - 1 - fallsI o := by
  unfold fallsI fc
  rw [List.length_reverse]
  have hc := count_not (List.range (o.length - 1)) (isFall o)
  have hr := count_rev (o.length - 1) (fun i => !isFall o i)
  have he : ((List.range (o.length - 1)).filter (isFall o.reverse)).length = ((List.range (o.length - 1)).filter fun i => !isFall o (o.length - 1 - 1 - i)).length := by
    congr 1
    apply List.filter_congr
    intro i hi
    have hi' := List.mem_range.mp hi
    have e1 : o.reverse.getD (i + 1) 0 = o.getD (o.length - 1 - 1 - i) 0 := by
      rw [List.getD_eq_getElem?_getD, List.getElem?_reverse (by omega), List.getD_eq_getElem?_getD]
      congr 2; omega
    have e2 : o.reverse.getD i 0 = o.getD (o.length - 1 - 1 - i + 1) 0 := by
      rw [List.getD_eq_getElem?_getD, List.getElem?_reverse (by omega), List.getD_eq_getElem?_getD]
      congr 2; omega
    unfold isFall
    rw [e1, e2]
    generalize hj : o.length - 1 - 1 - i = j
    have hj1 : j + 1 < o.length := by omega
    have hne : o.getD j 0 ≠ o.getD (j + 1) 0 := by
      intro z
      have q1 : o[j]? = some (o.getD j 0) := by rw [List.getD_eq_getElem?_getD, List.getElem?_eq_getElem (by omega)]; rfl
      have q2 : o[j + 1]? = some (o.getD (j + 1) 0) := by rw [List.getD_eq_getElem?_getD, List.getElem?_eq_getElem hj1]; rfl
      have := idxOf_at hn q1
      have := idxOf_at hn q2
      rw [z] at *
      omega
    by_cases hlt : o.getD j 0 < o.getD (j + 1) 0
    · rw [decide_eq_true hlt, decide_eq_false (by omega)]; rfl
    · rw [decide_eq_false hlt, decide_eq_true (by omega)]; rfl
  rw [he, hr]
  rw [List.length_range] at hc
  omega
theorem runs_places {o : List Int} (h : IsOrd o) : runsI (placesI o) = fallsI o + 1 := by
  unfold runsI; rw [placesI_placesI h]; omega
end Rc
namespace Rc
/-- orders by their falls -/
def eul : Nat → Nat → Nat
  | 0, 0 => 1
  | 0, _ + 1 => 0
  | m + 1, 0 => eul m 0
  | m + 1, k + 1 => (k + 2) * eul m (k + 1) + (m - k) * eul m k
def eulRow (n : Nat) : List Int := (List.range n).map fun k => (eul n k : Int)
@[simp] theorem eulRow_length (n : Nat) : (eulRow n).length = n := by simp [eulRow]
theorem eul_s0 (m : Nat) : eul (m + 1) 0 = eul m 0 := by cases m <;> rfl
theorem eul_ss (m k : Nat) : eul (m + 1) (k + 1) = (k + 2) * eul m (k + 1) + (m - k) * eul m k := by cases m <;> rfl
theorem eul_gt : ∀ {m k : Nat}, m < k → eul m k = 0
  | _, 0, h => by omega
  | 0, _ + 1, _ => rfl
  | m + 1, k + 1, h => by rw [eul_ss, eul_gt (show m < k + 1 by omega), eul_gt (show m < k by omega)]; simp
theorem eul_self (m : Nat) : eul (m + 1) (m + 1) = 0 := by
  rw [eul_ss, eul_gt (Nat.lt_succ_self m)]; simp
theorem eul_zero : ∀ m : Nat, eul m 0 = 1
  | 0 => rfl
  | m + 1 => by rw [eul_s0, eul_zero m]
theorem eul_le : ∀ {m : Nat} (k : Nat), m ≤ 60 → eul m k ≤ 64 ^ m
  | 0, 0, _ => by decide
  | 0, _ + 1, _ => by simp [eul]
  | m + 1, 0, h => by rw [eul_zero]; exact Nat.one_le_pow _ _ (by decide)
  | m + 1, k + 1, h => by
    by_cases hk : k ≤ m
    · have h1 := eul_le (m := m) (k + 1) (by omega)
      have h2 := eul_le (m := m) k (by omega)
      rw [eul_ss, Nat.pow_succ]
      have a := Nat.mul_le_mul_left (k + 2) h1
      have b := Nat.mul_le_mul_left (m - k) h2
      have c : (k + 2) * 64 ^ m + (m - k) * 64 ^ m = (m + 2) * 64 ^ m := by rw [← Nat.add_mul]; congr 1; omega
      have d : (m + 2) * 64 ^ m ≤ 64 * 64 ^ m := Nat.mul_le_mul_right _ (by omega)
      omega
    · rw [eul_gt (by omega)]; exact Nat.zero_le _
theorem Bd.eul {m : Nat} (k : Nat) (h : m ≤ 60) : Bd 361 (Rc.eul m k : Nat) := ⟨by
  rw [Int.natAbs_natCast]
  have h1 := eul_le k h
  have h2 : (64 : Nat) ^ m ≤ 64 ^ 60 := Nat.pow_le_pow_right (by decide) h
  have h3 : (64 : Nat) ^ 60 < 2 ^ 361 := by decide
  omega⟩
theorem eul_symm : ∀ (m k : Nat), k ≤ m → eul (m + 1) k = eul (m + 1) (m - k)
  | 0, k, h => by rw [show k = 0 by omega]
  | m + 1, 0, _ => by
    rw [show m + 1 - 0 = m + 1 by omega, eul_ss (m + 1) m, eul_self, eul_zero]
    have := eul_symm m 0 (by omega)
    rw [eul_zero] at this
    rw [show m - 0 = m by omega] at this
    rw [← this]; simp
  | m + 1, k + 1, h => by
    by_cases hk : k = m
    · subst hk
      rw [show k + 1 - (k + 1) = 0 by omega, eul_zero, eul_ss, eul_self]
      have := eul_symm k 0 (by omega)
      rw [eul_zero, show k - 0 = k by omega] at this
      rw [← this]; simp
    · obtain ⟨j, hj⟩ : ∃ j, m = k + 1 + j := ⟨m - k - 1, by omega⟩
      have e1 := eul_symm m (k + 1) (by omega)
      have e2 := eul_symm m k (by omega)
      rw [show m + 1 - (k + 1) = j + 1 by omega]
      rw [eul_ss (m + 1) k, eul_ss (m + 1) j, e1, e2, show m - (k + 1) = j by omega, show m - k = j + 1 by omega,
        show m + 1 - k = j + 2 by omega, show m + 1 - j = k + 2 by omega]
      omega
theorem eulRow_reverse {n : Nat} (h : 1 ≤ n) : (eulRow n).reverse = eulRow n := by
  obtain ⟨m, rfl⟩ : ∃ m, n = m + 1 := ⟨n - 1, by omega⟩
  apply List.ext_getElem?
  intro i
  by_cases hi : i < m + 1
  · rw [List.getElem?_reverse (by simpa using hi)]
    simp only [eulRow, List.length_map, List.length_range]
    rw [List.getElem?_map, List.getElem?_map, List.getElem?_range (by omega), List.getElem?_range hi]
    simp only [Option.map_some]
    rw [show m + 1 - 1 - i = m - i by omega, ← eul_symm m i (by omega)]
  · rw [List.getElem?_eq_none (by simpa using by omega), List.getElem?_eq_none (by simpa using by omega)]
/-- a row's number, and nought beside it -/
theorem wider_getD (m k : Nat) : (([0] ++ eulRow m) ++ [0]).getD (k + 1) 0 = if k < m then (eul m k : Int) else 0 := by
  simp only [List.getD_eq_getElem?_getD]
  by_cases h : k < m
  · rw [if_pos h, List.getElem?_append_left (by simp; omega), List.getElem?_append_right (by simp)]
    simp [eulRow, h]
  · rw [if_neg h]
    by_cases h2 : k = m
    · rw [List.getElem?_append_right (by simp; omega)]
      simp [h2]
    · rw [List.getElem?_eq_none (by simp; omega)]; rfl
theorem wider_zero (m : Nat) : (([0] ++ eulRow m) ++ [0]).getD 0 0 = 0 := by simp
theorem wider_bd {m : Nat} (h : m ≤ 60) (k : Nat) : Bd 361 ((([0] ++ eulRow m) ++ [0]).getD k 0) := by
  cases k with
  | zero => rw [wider_zero]; exact ⟨by decide⟩
  | succ k =>
    rw [wider_getD]
    split
    · exact Bd.eul _ h
    · exact ⟨by decide⟩
theorem eul_next {m : Nat} : (List.range (m + 2)).map (fun i : Nat => ((i : Int) + 1) * (([0] ++ eulRow (m + 1)) ++ [0]).getD (i + 1) 0 + (2 + (m : Int) - i) * (([0] ++ eulRow (m + 1)) ++ [0]).getD i 0) = eulRow (m + 2) := by
  rw [show eulRow (m + 2) = (List.range (m + 2)).map fun k => (eul (m + 2) k : Int) from rfl]
  apply List.map_congr_left
  intro i hi
  have hi := List.mem_range.mp hi
  rw [wider_getD]
  cases i with
  | zero =>
    rw [wider_zero, if_pos (by omega), eul_zero, eul_zero]; simp
  | succ k =>
    rw [wider_getD, if_pos (show k < m + 1 by omega), eul_ss (m + 1) k]
    by_cases hk : k + 1 < m + 1
    · rw [if_pos hk]
      obtain ⟨j, rfl⟩ : ∃ j, m = k + 1 + j := ⟨m - k - 1, by omega⟩
      rw [show k + 1 + j + 1 - k = j + 2 by omega]
      push_cast
      grind
    · have : k = m := by omega
      subst this
      rw [if_neg hk, eul_self, show k + 1 - k = 1 by omega]
      push_cast
      grind
/-- Worpitzky's law -/
theorem worp_id (x K n : Nat) (h : K ≤ n) : (K + 1) * bin (x + K) (n + 1) + (n - K) * bin (x + K + 1) (n + 1) = x * bin (x + K) n := by
  have h1 := bin_mul (x + K) n
  rw [bin_succ]
  obtain ⟨j, rfl⟩ : ∃ j, n = K + j := ⟨n - K, by omega⟩
  rw [show K + j - K = j by omega]
  have h2 : ((K + j) + 1) * bin (x + K) (K + j + 1) + (K + j) * bin (x + K) (K + j) = (x + K) * bin (x + K) (K + j) := h1
  grind
def worpS (x n : Nat) : Nat → Nat
  | 0 => 0
  | K + 1 => worpS x n K + eul n K * bin (x + K) n
theorem worp_step (x n : Nat) : ∀ K, K ≤ n → worpS x (n + 1) (K + 1) + (n - K) * (eul n K * bin (x + K + 1) (n + 1)) = x * worpS x n (K + 1)
  | 0, _ => by
    have := worp_id x 0 n (by omega)
    simp only [worpS, eul_zero, Nat.add_zero, Nat.zero_add, Nat.one_mul, Nat.sub_zero] at this ⊢
    exact this
  | K + 1, h => by
    have ih := worp_step x n K (by omega)
    have id := worp_id x (K + 1) n h
    rw [show worpS x n (K + 1 + 1) = worpS x n (K + 1) + eul n (K + 1) * bin (x + (K + 1)) n from rfl, show worpS x (n + 1) (K + 1 + 1) = worpS x (n + 1) (K + 1) + eul (n + 1) (K + 1) * bin (x + (K + 1)) (n + 1) from rfl, Nat.mul_add, ← ih, eul_ss]
    have e : x * (eul n (K + 1) * bin (x + (K + 1)) n) = eul n (K + 1) * (x * bin (x + (K + 1)) n) := by
      rw [← Nat.mul_assoc, Nat.mul_comm x, Nat.mul_assoc]
    rw [e, ← id, show x + K + 1 = x + (K + 1) by omega]
    grind
theorem worp : ∀ (n x : Nat), worpS x n (n + 1) = x ^ n
  | 0, x => by simp [worpS, eul]
  | n + 1, x => by
    have h := worp_step x n n (Nat.le_refl _)
    have ih := worp n x
    rw [worpS, eul_self, Nat.pow_succ, ← ih]
    simp only [Nat.sub_self, Nat.zero_mul, Nat.add_zero] at h ⊢
    rw [h, Nat.mul_comm]
theorem worp_all {n : Nat} (x : Nat) (h : 1 ≤ n) : worpS x n n = x ^ n := by
  obtain ⟨m, rfl⟩ : ∃ m, n = m + 1 := ⟨n - 1, by omega⟩
  have := worp (m + 1) x
  rwa [worpS, eul_self, Nat.zero_mul, Nat.add_zero] at this
theorem worp_sum (x n : Nat) (f : Nat → Int) (hf : ∀ k, k < n → f k = (eul n k : Int) * (bin (x + k) n : Int)) : ∀ K, K ≤ n → ((List.range K).map f).sum = (worpS x n K : Int)
  | 0, _ => rfl
  | K + 1, h => by
    rw [List.range_succ, List.map_append, List.sum_append, worp_sum x n f hf K (by omega), worpS]
    simp [hf K (by omega)]
theorem worpitzky {n : Nat} {x : Int} (h0 : 0 ≤ x) (h : 1 ≤ n) (f : Nat → Int) (hf : ∀ k, k < n → f k = (eulRow n).getD k 0 * chooseZ (x + k) n) : ((List.range n).map f).sum = x ^ n := by
  obtain ⟨y, rfl⟩ := Int.eq_ofNat_of_zero_le h0
  rw [worp_sum y n f ?_ n (Nat.le_refl _), worp_all y h]
  · simp
  · intro k hk
    rw [hf k hk]
    congr 1
    · simp [eulRow, hk, List.getD_eq_getElem?_getD]
    · unfold chooseZ
      split
      · rename_i hc
        rw [bin_gt (by omega)]; rfl
      · congr 2
theorem Bd.pow {B : Nat} {x : Int} (h : Bd B x) : ∀ i : Nat, Bd (B * i + 1) (x ^ i)
  | 0 => by simpa using Bd.one 0
  | i + 1 => by
    rw [Int.pow_succ, show B * (i + 1) + 1 = (B * i + 1) + B by rw [Nat.mul_succ]; omega]
    exact (Bd.pow h i).mul h
theorem eulRow_bd {n : Nat} (h : n ≤ 60) (k : Nat) : Bd 361 ((eulRow n).getD k 0) := by
  by_cases hk : k < n
  · rw [show (eulRow n).getD k 0 = (eul n k : Int) by simp [eulRow, hk, List.getD_eq_getElem?_getD]]
    exact Bd.eul _ h
  · rw [show (eulRow n).getD k 0 = 0 by rw [List.getD_eq_getElem?_getD, List.getElem?_eq_none (by simpa using by omega)]; rfl]
    exact ⟨by decide⟩
theorem Bd.choose {n k : Int} {B : Nat} (hn : n < 2 ^ B) (hk : 0 ≤ k) (hk2 : k ≤ 60) : Bd (B * 60 + 1) (chooseZ n k) := by
  unfold chooseZ
  split
  · exact ⟨by have := Nat.pow_le_pow_right (n := 2) (by decide) (show 1 ≤ B * 60 + 1 by omega); show 0 < _; omega⟩
  · have e : n.toNat < 2 ^ B := by
      have : ((2 ^ B : Nat) : Int) = 2 ^ B := by push_cast; rfl
      omega
    exact (Bd.bin e).mono (by have := Nat.mul_le_mul_left B (show k.toNat ≤ 60 by omega); omega)
/-- the orders that a number draws -/
def drawTo (x : Int) (n : Nat) : Nat → List Int × List Int × Int
  | 0 => ([], upto n, x)
  | k + 1 =>
    let s := drawTo x n k
    (s.1 ++ [s.2.1.getD (Int.toNat (s.2.2 % (s.2.1.length : Int))) 0], s.2.1.eraseIdx (Int.toNat (s.2.2 % (s.2.1.length : Int))), s.2.2 / ((n : Int) - k))
def drawI (x : Int) (n : Nat) : List Int := (drawTo x n n).1
def factI : Nat → Int
  | 0 => 1
  | k + 1 => factI k * (k + 1)
theorem factI_6 : ∀ {n : Nat}, n ≤ 6 → 1 ≤ factI n ∧ factI n ≤ 720
  | 0, _ | 1, _ | 2, _ | 3, _ | 4, _ | 5, _ | 6, _ => by decide
def listTo (n : Nat) : Nat → List Int
  | 0 => List.replicate n 0
  | j + 1 => (listTo n j).set (fallsI (drawI j n)) ((listTo n j).getD (fallsI (drawI j n)) 0 + 1)
@[simp] theorem listTo_length (n : Nat) : ∀ j, (listTo n j).length = n
  | 0 => by simp [listTo]
  | j + 1 => by rw [listTo, List.length_set, listTo_length n j]
def listedI (n : Nat) : List Int := listTo n (factI n).toNat
set_option maxRecDepth 100000 in
theorem listed_fin : ∀ n : Fin 6, eulRow (n.1 + 1) = listedI (n.1 + 1) := by decide +kernel
theorem listed_eul {n : Nat} (h1 : 1 ≤ n) (h2 : n ≤ 6) : eulRow n = listedI n := by
  have := listed_fin ⟨n - 1, by omega⟩
  rwa [show n - 1 + 1 = n by omega] at this
theorem drawTo_len (x : Int) (n : Nat) : ∀ k, (drawTo x n k).1.length = k
  | 0 => rfl
  | k + 1 => by rw [drawTo]; simp [drawTo_len x n k]
theorem drawI_length (x : Int) (n : Nat) : (drawI x n).length = n := drawTo_len x n n
theorem falls_count {o : List Int} {n : Int} (h : o.length = Int.toNat n) (h1 : 1 ≤ n) : (List.map (fun i : Nat => (i : Int)) (List.filter (fun i : Nat => decide (o.getD (Int.toNat ((i : Int) + 1)) 0 < o.getD (Int.toNat (i : Int)) 0)) (List.range (Int.toNat (n - 1))))).length = fallsI o := by
  rw [List.length_map, ← fallsI_eq, show n - 1 = (o.length : Int) - 1 by omega]
theorem fallsI_lt {o : List Int} {n : Int} (h : o.length = Int.toNat n) (h1 : 1 ≤ n) : (fallsI o : Int) < n := by
  rw [← falls_count h h1, List.length_map]
  have := List.length_filter_le (fun i : Nat => decide (o.getD (Int.toNat ((i : Int) + 1)) 0 < o.getD (Int.toNat (i : Int)) 0)) (List.range (Int.toNat (n - 1)))
  rw [List.length_range] at this
  omega
end Rc
namespace Rc
theorem gcd_step {a b : Int} : Int.gcd b (a % b) = Int.gcd a b := by
  have h := Int.gcd_add_mul_left_right b (a % b) (a / b)
  rw [Int.emod_add_mul_ediv] at h
  rw [← h, Int.gcd_comm]
theorem gcd_zero' {a : Int} (h : 0 ≤ a) : ((Int.gcd a 0 : Nat) : Int) = a := by
  rw [Int.gcd_zero_right]; omega
theorem gcd_pos' {a b : Int} (h : 1 ≤ b) : 1 ≤ ((Int.gcd a b : Nat) : Int) := by
  have := Int.gcd_pos_of_ne_zero_right a (show b ≠ 0 by omega)
  omega
theorem gcd_le' {a b : Int} (h : 1 ≤ b) : ((Int.gcd a b : Nat) : Int) ≤ b := by
  have : (Int.gcd a b : Int) ∣ b := Int.gcd_dvd_right ..
  exact Int.le_of_dvd (by omega) this
theorem Bd.gcd {a b : Int} {B : Nat} (h : 1 ≤ b) (hb : Bd B b) : Bd B ((Int.gcd a b : Nat) : Int) := ⟨by
  have h1 := hb.lt
  have := gcd_le' (a := a) h
  omega⟩
theorem frac_eq (a b : Int) : a / (Int.gcd a b : Int) * b = a * (b / (Int.gcd a b : Int)) := by
  obtain ⟨x, hx⟩ : (Int.gcd a b : Int) ∣ a := Int.gcd_dvd_left ..
  obtain ⟨y, hy⟩ : (Int.gcd a b : Int) ∣ b := Int.gcd_dvd_right ..
  by_cases h : (Int.gcd a b : Int) = 0
  · rw [h] at hx hy
    have hx0 : a = 0 := by simpa using hx
    have hy0 : b = 0 := by simpa using hy
    simp [hx0, hy0]
  · generalize hg : (Int.gcd a b : Int) = g at *
    rw [hx, hy, Int.mul_ediv_cancel_left _ h, Int.mul_ediv_cancel_left _ h]
    grind
theorem frac_cop {a b : Int} (h : 1 ≤ b) : Int.gcd (a / (Int.gcd a b : Int)) (b / (Int.gcd a b : Int)) = 1 :=
  Int.gcd_ediv_gcd_ediv_gcd (by have := gcd_pos' (a := a) h; omega)
theorem frac_pos {a b : Int} (h : 1 ≤ b) : 1 ≤ b / (Int.gcd a b : Int) := by
  have h1 := gcd_pos' (a := a) h
  exact (Int.le_ediv_iff_mul_le (by omega)).mpr (by have := gcd_le' (a := a) h; omega)
theorem frac_zero {a b : Int} (h0 : 0 ≤ a) (h : 1 ≤ b) : a / (Int.gcd a b : Int) = 0 ↔ a = 0 := by
  constructor
  · intro e
    have := frac_eq a b
    rw [e] at this
    have hp := frac_pos (a := a) h
    have h0' : a * (b / (Int.gcd a b : Int)) = 0 := by simpa using this.symm
    rcases Int.mul_eq_zero.mp h0' with h | h
    · exact h
    · omega
  · intro e; subst e; simp
theorem Bd.div {a b : Int} {B : Nat} (h : Bd B a) (h0 : 0 ≤ a) (hb : 1 ≤ b) : Bd B (a / b) := ⟨by
  have h1 := Int.ediv_le_self b h0
  have h2 := Int.ediv_nonneg h0 (show 0 ≤ b by omega)
  have := h.lt
  omega⟩
theorem Bd.add {a : Nat} {i j : Int} (h : Bd a i) (h' : Bd a j) : Bd (a + 1) (i + j) := ⟨by
  have h1 := h.lt
  have h2 := h'.lt
  have : 2 ^ (a + 1) = 2 * 2 ^ a := by rw [Nat.pow_succ, Nat.mul_comm]
  omega⟩
/-- chances -/
theorem falling_fact (k : Nat) : falling ((k + 1 : Nat) : Int) (k + 1) = ((k : Int) + 1) * falling k k := by
  have key : ∀ k j : Nat, falling ((k + 1 : Nat) : Int) (j + 1) = ((k : Int) + 1) * falling k j := by
    intro k j
    induction j with
    | zero => simp [falling]
    | succ j ih => rw [falling, ih, falling]; grind
  exact key k k
def factN (k : Nat) : Int := falling k k
theorem factN_succ (k : Nat) : factN k * ((k : Int) + 1) = factN (k + 1) := by
  unfold factN; rw [falling_fact, Int.mul_comm]
theorem factN_pos : ∀ k : Nat, 0 < factN k
  | 0 => by decide
  | k + 1 => by rw [← factN_succ]; exact Int.mul_pos (factN_pos k) (by omega)
theorem choose_div {n : Int} {k : Nat} (h0 : 0 ≤ n) (h1 : (k : Int) ≤ n) : falling n k / factN k = chooseZ n k := by
  rw [chooseZ_in (by omega) h1]
  have := choose_falls (n := n) (k := k) (by omega) h1
  rw [Int.toNat_natCast] at this ⊢
  unfold factN
  rw [← this]
  exact Int.mul_ediv_cancel _ (by have := factN_pos k; unfold factN at this; omega)
theorem Bd.factN {k : Nat} (h : k ≤ 30) : Bd 200 (Rc.factN k) := by
  have := Bd.falling (n := k) (B := 5) ⟨by omega⟩ (by omega) (t := k) (by omega)
  exact this.mono (by omega)
theorem chooseZ_nonneg (n k : Int) : 0 ≤ chooseZ n k := by unfold chooseZ; split <;> omega
theorem bin_mono {a b : Nat} (h : a ≤ b) : ∀ k, bin a k ≤ bin b k := by
  induction h with
  | refl => intro k; exact Nat.le_refl _
  | step _ ih =>
    intro k
    cases k with
    | zero => simp
    | succ k => rw [bin_succ]; have := ih (k + 1); omega
theorem chooseZ_mono {a b k : Int} (h : a ≤ b) : chooseZ a k ≤ chooseZ b k := by
  by_cases hk : 0 ≤ k ∧ k ≤ a
  · rw [chooseZ_in hk.1 hk.2, chooseZ_in hk.1 (by omega)]
    exact_mod_cast bin_mono (show a.toNat ≤ b.toNat by omega) k.toNat
  · rw [chooseZ_out (n := a) (by omega)]; exact chooseZ_nonneg _ _
theorem chooseZ_zero_iff {n h r : Int} (hn : 1 ≤ n) (hr : r ≤ n) (hh : 1 ≤ h) : chooseZ (h + n - r) n = 0 ↔ h < r := by
  constructor
  · intro e
    by_cases hc : h < r
    · exact hc
    · exfalso
      rw [chooseZ_in (by omega) (by omega)] at e
      have : 0 < bin (h + n - r).toNat n.toNat := by
        have h1 := bin_mono (show n.toNat ≤ (h + n - r).toNat by omega) n.toNat
        rw [bin_self] at h1; omega
      omega
  · intro hc; exact chooseZ_out (by omega)
/-- the sum by runs -/
def totI (n : Nat) (h : Int) (i : Nat) : Int := ((List.range i).map fun k : Nat => (eulRow n).getD k 0 * chooseZ (h + n - (1 + k)) n).sum
theorem totI_succ (n : Nat) (h : Int) (i : Nat) : totI n h (i + 1) = totI n h i + (eulRow n).getD i 0 * chooseZ (h + n - (1 + i)) n := by
  unfold totI; rw [List.range_succ, List.map_append, List.sum_append]; simp
theorem eulRow_getD {n k : Nat} (h : k < n) : (eulRow n).getD k 0 = (eul n k : Int) := by simp [eulRow, h, List.getD_eq_getElem?_getD]
theorem eulRow_symm {n k : Nat} (h : k < n) : (eulRow n).getD (n - 1 - k) 0 = (eulRow n).getD k 0 := by
  rw [eulRow_getD h, eulRow_getD (by omega)]
  obtain ⟨m, rfl⟩ : ∃ m, n = m + 1 := ⟨n - 1, by omega⟩
  rw [show m + 1 - 1 - k = m - k by omega, ← eul_symm m k (by omega)]
theorem totI_all {n : Nat} {h : Int} (h0 : 0 ≤ h) (h1 : 1 ≤ n) : totI n h n = h ^ n := by
  rw [← worpitzky h0 h1 (fun k => (eulRow n).getD k 0 * chooseZ (h + k) n) (fun _ _ => rfl)]
  unfold totI
  have e : (List.range n).map (fun k : Nat => (eulRow n).getD k 0 * chooseZ (h + n - (1 + k)) n) = ((List.range n).map fun i => n - 1 - i).map (fun k : Nat => (eulRow n).getD k 0 * chooseZ (h + k) n) := by
    rw [List.map_map]
    apply List.map_congr_left
    intro k hk
    have hk := List.mem_range.mp hk
    simp only [Function.comp_apply]
    rw [eulRow_symm hk, show h + n - (1 + (k : Int)) = h + ((n - 1 - k : Nat) : Int) by omega]
  rw [e, range_rev, List.map_reverse, List.sum_reverse]
theorem first_le {n : Nat} {h : Int} (h0 : 0 ≤ h) (h1 : 1 ≤ n) : chooseZ (h + n - 1) n ≤ h ^ n := by
  rw [← totI_all h0 h1]
  have key : ∀ i, chooseZ (h + n - 1) n ≤ totI n h (i + 1) := by
    intro i
    induction i with
    | zero =>
      rw [totI_succ, eulRow_getD (by omega), eul_zero]
      simp [totI]
    | succ i ih =>
      rw [totI_succ]
      have a : 0 ≤ (eulRow n).getD (i + 1) 0 := by
        by_cases hi : i + 1 < n
        · rw [eulRow_getD hi]; omega
        · rw [List.getD_eq_getElem?_getD, List.getElem?_eq_none (by simpa using by omega)]; simp
      have := Int.mul_nonneg a (chooseZ_nonneg (h + n - (1 + ((i + 1 : Nat) : Int))) n)
      omega
  have := key (n - 1)
  rwa [show n - 1 + 1 = n by omega] at this
/-- the row, a number at a time -/
def eulTo (n k : Nat) : List Int := (List.range k).map fun k => (eul n k : Int)
theorem eulTo_next {n k : Nat} {c : Int} (h : c = (eul n k : Int)) : eulTo n k ++ [c] = eulTo n (k + 1) := by
  unfold eulTo; rw [h, List.range_succ, List.map_append]; rfl
theorem eul_mid {m k : Nat} (h : k < m + 1) (h0 : 0 < k) (hk : k ≤ m) : (0 : Int) + ((k : Int) + 1) * (eulRow m).getD k 0 + ((m : Int) + 1 - k) * (eulRow m).getD (k - 1) 0 = (eul (m + 1) k : Int) := by
  obtain ⟨j, rfl⟩ : ∃ j, k = j + 1 := ⟨k - 1, by omega⟩
  rw [eul_ss, Nat.add_sub_cancel, eulRow_getD (show j < m by omega)]
  have e : (eulRow m).getD (j + 1) 0 = (eul m (j + 1) : Int) := by
    by_cases hj : j + 1 < m
    · exact eulRow_getD hj
    · rw [List.getD_eq_getElem?_getD, List.getElem?_eq_none (by simpa using by omega)]
      have : j + 1 = m := by omega
      rw [← this, eul_self]; rfl
  rw [e]
  obtain ⟨d, rfl⟩ : ∃ d, m = j + d := ⟨m - j, by omega⟩
  rw [show j + d - j = d by omega]
  push_cast
  grind
end Rc
namespace Rc
theorem eulRow_out {m k : Nat} (h : m ≤ k) : (eulRow m).getD k 0 = 0 := by
  rw [List.getD_eq_getElem?_getD, List.getElem?_eq_none (by simpa using h)]; rfl
theorem eul_c2 {m k : Nat} (h : ¬ (k : Int) < 2 + (m : Int) - 1) (hk : k < m + 2) (h0 : 0 < (k : Int)) : (0 : Int) + (2 + (m : Int) - k) * (eulRow (m + 1)).getD (Int.toNat ((k : Int) - 1)) 0 = (eul (m + 1 + 1) k : Int) := by
  have e : k = m + 1 := by omega
  subst e
  rw [eul_ss, eul_self, show Int.toNat (((m + 1 : Nat) : Int) - 1) = m by omega, eulRow_getD (by omega), show m + 1 - m = 1 by omega]
  push_cast
  grind
theorem eul_c3 {m k : Nat} (h0 : ¬ 0 < (k : Int)) : (0 : Int) + ((k : Int) + 1) * (eulRow (m + 1)).getD (Int.toNat (k : Int)) 0 = (eul (m + 1 + 1) k : Int) := by
  have e : k = 0 := by omega
  subst e
  rw [show Int.toNat ((0 : Nat) : Int) = 0 by rfl, eulRow_getD (by omega), eul_zero, eul_zero]; rfl
theorem eul_c1 {m k : Nat} (h : (k : Int) < 2 + (m : Int) - 1) (h0 : 0 < (k : Int)) : (0 : Int) + ((k : Int) + 1) * (eulRow (m + 1)).getD (Int.toNat (k : Int)) 0 + (2 + (m : Int) - k) * (eulRow (m + 1)).getD (Int.toNat ((k : Int) - 1)) 0 = (eul (m + 1 + 1) k : Int) := by
  have := eul_mid (m := m + 1) (k := k) (by omega) (by omega) (by omega)
  rw [← this, Int.toNat_natCast, show Int.toNat ((k : Int) - 1) = k - 1 by omega]
  push_cast
  grind
end Rc
namespace Rc
theorem bne_of {p q : Prop} {_ : Decidable p} {_ : Decidable q} (h : p ↔ q) : (decide p != decide q) = false := by
  by_cases hq : q
  · simp [h.mpr hq, hq]
  · have hp : ¬ p := fun e => hq (h.mp e)
    simp [hp, hq]
end Rc
namespace Rc
open PySem PySem.Spec PyProof.Rows L2
theorem log2_lt' {n k : Nat} (h : n < 2 ^ k) : n.log2 ≤ k := by
  by_cases h0 : n = 0
  · subst h0; exact Nat.zero_le _
  · exact Nat.le_of_lt ((Nat.log2_lt h0).mpr h)
theorem cmw {a b : Nat} {i j : Int} (h : Bd a i) (h' : Bd b j) (hs : a + b ≤ 900000) : CMulW i j := by
  have h1 := log2_lt' h.lt
  have h2 := log2_lt' h'.lt
  show i.natAbs.log2 + j.natAbs.log2 < 1000000
  omega
theorem cdw {b : Nat} {i j : Int} (h0 : 0 < j) (h : Bd b j) (hs : b ≤ 8000) : CDivW i j := by
  have h1 := log2_lt' h.lt
  exact ⟨h0, by omega⟩
end Rc
namespace Rc
/-- tables multiplied -/
def dotTo (row : List Int) (T : List (List Int)) (j n : Nat) : Int := ((List.range n).map fun i => row.getD i 0 * (T.getD i []).getD j 0).sum
def mulI (row : List Int) (T : List (List Int)) : List Int := (List.range row.length).map fun j => dotTo row T j row.length
def mulTo (row : List Int) (T : List (List Int)) (n : Nat) : List Int := (List.range n).map fun j => dotTo row T j row.length
def mulT (A T : List (List Int)) : List (List Int) := A.map fun r => mulI r T
def oneT (m : Nat) : List (List Int) := (List.range m).map fun i => (List.range m).map fun j => if i = j then 1 else 0
/-- as many lists of as many -/
def Sq (n : Nat) (T : List (List Int)) : Prop := T.length = n ∧ ∀ r ∈ T, r.length = n
def BdR (B : Nat) (r : List Int) : Prop := ∀ x ∈ r, Bd B x
def BdT (B : Nat) (T : List (List Int)) : Prop := ∀ r ∈ T, BdR B r
theorem getDm {α : Type} {xs : List α} {i : Nat} {d : α} (h : i < xs.length) : xs.getD i d ∈ xs := by simp [List.getD, h]
theorem Sq.row {n : Nat} {T : List (List Int)} (h : Sq n T) {i : Nat} (hi : i < n) : (T.getD i []).length = n := h.2 _ (getDm (by rw [h.1]; exact hi))
theorem Sq.mem {n : Nat} {T : List (List Int)} (h : Sq n T) {i : Nat} {r : List Int} (e : T[i]? = some r) : r.length = n := h.2 _ (List.mem_of_getElem? e)
theorem BdR.at {B : Nat} {r : List Int} (h : BdR B r) {i : Nat} (hi : i < r.length) : Bd B (r.getD i 0) := h _ (getDm hi)
theorem BdT.row {B : Nat} {T : List (List Int)} (h : BdT B T) {i : Nat} (hi : i < T.length) : BdR B (T.getD i []) := h _ (getDm hi)
theorem BdT.mem {B : Nat} {T : List (List Int)} (h : BdT B T) {i : Nat} {r : List Int} (e : T[i]? = some r) : BdR B r := h _ (List.mem_of_getElem? e)
theorem BdR.mono {a b : Nat} {r : List Int} (h : BdR a r) (hab : a ≤ b) : BdR b r := fun x hx => (h x hx).mono hab
theorem BdT.mono {a b : Nat} {T : List (List Int)} (h : BdT a T) (hab : a ≤ b) : BdT b T := fun x hx => BdR.mono (h x hx) hab
@[simp] theorem mulI_length (r : List Int) (T : List (List Int)) : (mulI r T).length = r.length := by simp [mulI]
@[simp] theorem mulT_length (A T : List (List Int)) : (mulT A T).length = A.length := by simp [mulT]
@[simp] theorem oneT_length (m : Nat) : (oneT m).length = m := by simp [oneT]
theorem dotTo_succ (row : List Int) (T : List (List Int)) (j n : Nat) : dotTo row T j (n + 1) = dotTo row T j n + row.getD n 0 * (T.getD n []).getD j 0 := by
  unfold dotTo; rw [List.range_succ, List.map_append, List.sum_append]; simp
theorem mulTo_succ (row : List Int) (T : List (List Int)) (n : Nat) : mulTo row T (n + 1) = mulTo row T n ++ [dotTo row T n row.length] := by
  unfold mulTo; rw [List.range_succ, List.map_append]; rfl
theorem mulI_getD {row : List Int} {T : List (List Int)} {j : Nat} (h : j < row.length) : (mulI row T).getD j 0 = dotTo row T j row.length := by
  unfold mulI; rw [List.getD_eq_getElem?_getD]; simp [h]
theorem oneT_sq (m : Nat) : Sq m (oneT m) := ⟨by simp, fun r hr => by
  obtain ⟨i, _, rfl⟩ := List.mem_map.mp hr
  simp⟩
theorem oneT_bd (m : Nat) : BdT 1 (oneT m) := fun r hr x hx => by
  obtain ⟨i, _, rfl⟩ := List.mem_map.mp hr
  obtain ⟨j, _, rfl⟩ := List.mem_map.mp hx
  refine ⟨?_⟩
  split <;> decide
theorem mulT_sq {n : Nat} {A T : List (List Int)} (h : Sq n A) : Sq n (mulT A T) := ⟨by rw [mulT_length]; exact h.1, fun r hr => by
  obtain ⟨a, ha, rfl⟩ := List.mem_map.mp hr
  rw [mulI_length]; exact h.2 a ha⟩
theorem oneT_getD {m i j : Nat} (hi : i < m) (hj : j < m) : ((oneT m).getD i []).getD j 0 = if i = j then 1 else 0 := by
  unfold oneT
  rw [List.getD_eq_getElem?_getD (l := List.map _ _), List.getElem?_map, List.getElem?_range hi]
  show (List.map (fun j => if i = j then (1 : Int) else 0) (List.range m)).getD j 0 = _
  rw [List.getD_eq_getElem?_getD, List.getElem?_map, List.getElem?_range hj]; rfl
theorem sum_map_zero {l : List Nat} {f : Nat → Int} (h : ∀ i ∈ l, f i = 0) : (l.map f).sum = 0 := by
  induction l with
  | nil => rfl
  | cons a l ih => rw [List.map_cons, List.sum_cons, h a List.mem_cons_self, ih fun i hi => h i (List.mem_cons_of_mem _ hi)]; rfl
theorem sum_one : ∀ {n k : Nat} {f : Nat → Int}, k < n → (∀ i, i < n → i ≠ k → f i = 0) → ((List.range n).map f).sum = f k
  | 0, _, _, h, _ => by omega
  | n + 1, k, f, h, hz => by
    rw [List.range_succ, List.map_append, List.sum_append]
    by_cases e : k = n
    · subst e
      rw [sum_map_zero fun i hi => hz i (by have := List.mem_range.mp hi; omega) (by have := List.mem_range.mp hi; omega)]; simp
    · rw [sum_one (show k < n by omega) fun i hi hne => hz i (by omega) hne]
      simp [hz n (by omega) (by omega)]
theorem listI_ext {a b : List Int} (hl : a.length = b.length) (h : ∀ i, i < a.length → a.getD i 0 = b.getD i 0) : a = b := by
  apply List.ext_getElem hl
  intro i h1 h2
  have := h i h1
  rw [List.getD_eq_getElem?_getD, List.getD_eq_getElem?_getD, List.getElem?_eq_getElem h1, List.getElem?_eq_getElem h2] at this
  exact this
theorem mulI_one {row : List Int} {m : Nat} (h : row.length = m) : mulI row (oneT m) = row := by
  refine listI_ext (by simp) fun j hj => ?_
  rw [mulI_length] at hj
  rw [mulI_getD hj]
  unfold dotTo
  rw [sum_one hj fun i hi hne => by rw [oneT_getD (by omega) (by omega), if_neg hne, Int.mul_zero]]
  rw [oneT_getD (by omega) (by omega), if_pos rfl, Int.mul_one]
theorem mulT_one {A : List (List Int)} {m : Nat} (h : Sq m A) : mulT A (oneT m) = A := by
  unfold mulT
  exact (List.map_congr_left fun r hr => mulI_one (h.2 r hr)).trans (List.map_id _)
theorem one_mulT {A : List (List Int)} {m : Nat} (h : Sq m A) : mulT (oneT m) A = A := by
  apply List.ext_getElem (by simp [h.1])
  intro i h1 h2
  have hi : i < m := by rw [h.1] at h2; exact h2
  have e : (mulT (oneT m) A)[i] = mulI ((oneT m).getD i []) A := by
    have hl : i < (oneT m).length := by simpa using hi
    have e1 : (mulT (oneT m) A)[i]? = some (mulI ((oneT m).getD i []) A) := by
      unfold mulT
      rw [List.getElem?_map, List.getD_eq_getElem?_getD, List.getElem?_eq_getElem hl]; rfl
    rw [List.getElem?_eq_getElem h1] at e1
    exact Option.some.inj e1
  rw [e]
  have er : ((oneT m).getD i []).length = m := (oneT_sq m).row hi
  have eA : A[i] = A.getD i [] := by simp [List.getD, h2]
  rw [eA]
  have eAl := h.row hi
  refine listI_ext (by rw [mulI_length, er, eAl]) fun j hj => ?_
  rw [mulI_length, er] at hj
  rw [mulI_getD (by rw [er]; exact hj), er]
  unfold dotTo
  rw [sum_one hi fun k hk hne => by rw [oneT_getD hi hk, if_neg (fun z => hne z.symm), Int.zero_mul]]
  rw [oneT_getD hi hi, if_pos rfl, Int.one_mul]
theorem bdR_nil (B : Nat) : BdR B [] := fun _ h => nomatch h
theorem bdR_app {B : Nat} {r : List Int} {x : Int} (h : BdR B r) (hx : Bd B x) : BdR B (r ++ [x]) := fun y hy => by
  rcases List.mem_append.mp hy with hy | hy
  · exact h y hy
  · rw [List.mem_singleton.mp hy]; exact hx
theorem mul_mono_sq {m : Int} {i : Nat} (h0 : 1 ≤ m) (hi : i < m.toNat) : m * (i : Int) + m ≤ m * m := by
  have : m * ((i : Int) + 1) ≤ m * m := Int.mul_le_mul_of_nonneg_left (by omega) (by omega)
  rw [Int.mul_add, Int.mul_one] at this
  exact this
theorem sq36 {m : Int} (h0 : 1 ≤ m) (h1 : m ≤ 6) : 1 ≤ m * m ∧ m * m ≤ 36 := by
  have a : 1 * 1 ≤ m * m := Int.mul_le_mul h0 h0 (by decide) (by omega)
  have b : m * m ≤ 6 * 6 := Int.mul_le_mul h1 h1 (by omega) (by decide)
  omega
theorem one_eq (m : Int) : (List.map (fun i : Nat => List.map (fun i1 : Nat => (if decide ((i : Int) = (i1 : Int)) then (1 : Int) else 0)) (List.range m.toNat)) (List.range m.toNat)) = oneT m.toNat := by
  unfold oneT
  refine List.map_congr_left fun i _ => List.map_congr_left fun j _ => ?_
  by_cases h : i = j
  · subst h; simp
  · rw [if_neg h, if_neg (by simp; omega)]
end Rc
namespace Rc
/-- sums over the first numbers -/
def sumR (n : Nat) (f : Nat → Int) : Int := ((List.range n).map f).sum
@[simp] theorem sumR_zero (f : Nat → Int) : sumR 0 f = 0 := rfl
theorem sumR_succ (n : Nat) (f : Nat → Int) : sumR (n + 1) f = sumR n f + f n := by unfold sumR; rw [List.range_succ, List.map_append, List.sum_append]; simp
theorem sumR_congr {n : Nat} {f g : Nat → Int} (h : ∀ i, i < n → f i = g i) : sumR n f = sumR n g := by
  unfold sumR; congr 1; exact List.map_congr_left fun i hi => h i (List.mem_range.mp hi)
theorem sumR_add (n : Nat) (f g : Nat → Int) : sumR n (fun i => f i + g i) = sumR n f + sumR n g := by
  induction n with
  | zero => rfl
  | succ n ih => rw [sumR_succ, sumR_succ, sumR_succ, ih]; omega
theorem sumR_sub (n : Nat) (f g : Nat → Int) : sumR n (fun i => f i - g i) = sumR n f - sumR n g := by
  induction n with
  | zero => rfl
  | succ n ih => rw [sumR_succ, sumR_succ, sumR_succ, ih]; omega
theorem sumR_mul (n : Nat) (c : Int) (f : Nat → Int) : sumR n (fun i => c * f i) = c * sumR n f := by
  induction n with
  | zero => simp
  | succ n ih => rw [sumR_succ, sumR_succ, ih, Int.mul_add]
theorem sumR_mulr (n : Nat) (c : Int) (f : Nat → Int) : sumR n (fun i => f i * c) = sumR n f * c := by
  induction n with
  | zero => simp
  | succ n ih => rw [sumR_succ, sumR_succ, ih, Int.add_mul]
theorem sumR_front (n : Nat) (f : Nat → Int) : sumR (n + 1) f = f 0 + sumR n fun i => f (i + 1) := by
  induction n with
  | zero => rw [sumR_succ]; simp
  | succ n ih => rw [sumR_succ, ih, sumR_succ]; omega
theorem sumR_zeros {n : Nat} {f : Nat → Int} (h : ∀ i, i < n → f i = 0) : sumR n f = 0 := by
  induction n with
  | zero => rfl
  | succ n ih => rw [sumR_succ, ih fun i hi => h i (by omega), h n (by omega)]; rfl
theorem sumR_const (n : Nat) (c : Int) : sumR n (fun _ => c) = n * c := by
  induction n with
  | zero => simp
  | succ n ih => rw [sumR_succ, ih]; push_cast; rw [Int.add_mul, Int.one_mul]
theorem sumR_comm (n m : Nat) (f : Nat → Nat → Int) : sumR n (fun i => sumR m (f i)) = sumR m fun j => sumR n fun i => f i j := by
  induction n with
  | zero => exact (sumR_zeros fun _ _ => rfl).symm
  | succ n ih => rw [sumR_succ, ih, ← sumR_add]; exact sumR_congr fun j _ => (sumR_succ n _).symm
theorem sumR_ext {n m : Nat} {f : Nat → Int} (hnm : n ≤ m) (h : ∀ i, n ≤ i → i < m → f i = 0) : sumR m f = sumR n f := by
  induction m with
  | zero => rw [show n = 0 by omega]
  | succ m ih =>
    by_cases e : n = m + 1
    · rw [e]
    · rw [sumR_succ, h m (by omega) (by omega), ih (by omega) fun i h1 h2 => h i h1 (by omega)]; omega
theorem sumR_le {n : Nat} {f g : Nat → Int} (h : ∀ i, i < n → f i ≤ g i) : sumR n f ≤ sumR n g := by
  induction n with
  | zero => exact Int.le_refl _
  | succ n ih => rw [sumR_succ, sumR_succ]; have := ih fun i hi => h i (by omega); have := h n (by omega); omega
theorem sumR_rev (n : Nat) (f : Nat → Int) : sumR n (fun i => f (n - 1 - i)) = sumR n f := by
  induction n with
  | zero => rfl
  | succ n ih =>
    rw [sumR_front, sumR_succ, ← ih]
    rw [show n + 1 - 1 - 0 = n by omega, Int.add_comm]
    congr 1
    exact sumR_congr fun i hi => by congr 1; omega
theorem sumR_tele (n : Nat) (f : Int → Int) (y : Int) : sumR n (fun d => f (y - d) - f (y - d - 1)) = f y - f (y - n) := by
  induction n with
  | zero => simp
  | succ n ih => rw [sumR_succ, ih]; rw [show y - ((n + 1 : Nat) : Int) = y - n - 1 by omega]; omega
/-- how often d comes as a sum of m + 1 numbers -/
def fM (m : Nat) (d : Int) : Int := chooseZ (d + m) m
theorem fM_neg {m : Nat} {d : Int} (h : d < 0) : fM m d = 0 := chooseZ_out (.inr (by omega))
theorem fM_zero (m : Nat) : fM m 0 = 1 := by
  unfold fM; rw [Int.zero_add, chooseZ_in (by omega) (by omega), bin_self]; rfl
theorem fM_0 {d : Int} (h : 0 ≤ d) : fM 0 d = 1 := by
  unfold fM; rw [chooseZ_in (by omega) (by omega)]; simp
theorem fM_diff (m : Nat) (d : Int) : fM (m + 1) d - fM (m + 1) (d - 1) = fM m d := by
  by_cases h : d < 0
  · rw [fM_neg h, fM_neg (show d - 1 < 0 by omega), fM_neg h]; rfl
  · unfold fM
    have := chooseZ_pascal (n := d + ((m + 1 : Nat) : Int)) (k := ((m + 1 : Nat) : Int)) (by omega)
    rw [show d - 1 + ((m + 1 : Nat) : Int) = d + ((m + 1 : Nat) : Int) - 1 by omega, ← this]
    rw [show ((m + 1 : Nat) : Int) - 1 = (m : Int) by omega, show d + ((m + 1 : Nat) : Int) - 1 = d + m by omega]
    omega
/-- differences -/
def dif : Nat → (Int → Int) → Int → Int
  | 0, g, n => g n
  | M + 1, g, n => dif M g n - dif M g (n - 1)
theorem dif_congr {M : Nat} {g h : Int → Int} {n : Int} (e : ∀ y, y ≤ n → g y = h y) : dif M g n = dif M h n := by
  induction M generalizing n with
  | zero => exact e n (Int.le_refl _)
  | succ M ih => rw [dif, dif, ih e, ih fun y hy => e y (by omega)]
theorem dif_sub (M : Nat) (g h : Int → Int) (n : Int) : dif M (fun y => g y - h y) n = dif M g n - dif M h n := by
  induction M generalizing n with
  | zero => rfl
  | succ M ih => rw [dif, dif, dif, ih, ih]; omega
theorem dif_shift (M : Nat) (g : Int → Int) (c n : Int) : dif M (fun y => g (y + c)) n = dif M g (n + c) := by
  induction M generalizing n with
  | zero => rfl
  | succ M ih => rw [dif, dif, ih, ih, show n - 1 + c = n + c - 1 by omega]
theorem dif_comm (M : Nat) (g : Int → Int) (n : Int) : dif (M + 1) g n = dif M (fun y => g y - g (y - 1)) n := by
  rw [dif_sub, dif]
  congr 1
  exact (dif_shift M g (-1) n).symm
theorem dif_zero {M : Nat} {g : Int → Int} {n : Int} (h : ∀ y, y ≤ n → g y = 0) : dif M g n = 0 := by
  induction M generalizing n with
  | zero => exact h n (Int.le_refl _)
  | succ M ih => rw [dif, ih h, ih fun y hy => h y (by omega)]; rfl
theorem dif_sum (M k : Nat) (g : Nat → Int → Int) (n : Int) : dif M (fun y => sumR k fun d => g d y) n = sumR k fun d => dif M (g d) n := by
  induction M generalizing n with
  | zero => rfl
  | succ M ih => rw [dif, ih, ih, ← sumR_sub]; rfl
/-- .. by choices -/
def sg (t : Nat) : Int := if t % 2 = 0 then 1 else -1
theorem sg_succ (t : Nat) : sg (t + 1) = - sg t := by
  unfold sg
  by_cases h : t % 2 = 0
  · rw [if_pos h, if_neg (by omega)]
  · rw [if_neg h, if_pos (by omega)]; rfl
def altTo (M : Nat) (g : Int → Int) (n : Int) (K : Nat) : Int := sumR K fun t => sg t * chooseZ M t * g (n - t)
theorem altTo_succ (M : Nat) (g : Int → Int) (n : Int) (K : Nat) : altTo M g n (K + 1) = altTo M g n K + sg K * chooseZ M K * g (n - K) := sumR_succ _ _
theorem alt_dif : ∀ (M : Nat) (g : Int → Int) (n : Int), altTo M g n (M + 1) = dif M g n
  | 0, g, n => by
    unfold altTo
    rw [sumR_succ, sumR_zero, dif]
    rw [chooseZ_in (by omega) (by omega)]
    simp [sg]
  | M + 1, g, n => by
    rw [dif, ← alt_dif M g n, ← alt_dif M g (n - 1)]
    unfold altTo
    have e : ∀ t : Nat, t < M + 1 + 1 → sg t * chooseZ ((M + 1 : Nat) : Int) t * g (n - t) = sg t * chooseZ (M : Int) t * g (n - t) + sg t * chooseZ (M : Int) ((t : Int) - 1) * g (n - t) := fun t _ => by
      have := chooseZ_pascal (n := ((M + 1 : Nat) : Int)) (k := (t : Int)) (by omega)
      rw [show ((M + 1 : Nat) : Int) - 1 = (M : Int) by omega] at this
      rw [← this, Int.mul_add, Int.add_mul]
    rw [sumR_congr e, sumR_add]
    rw [sumR_succ (M + 1) fun t => sg t * chooseZ (M : Int) t * g (n - t), chooseZ_out (n := (M : Int)) (k := ((M + 1 : Nat) : Int)) (by omega), Int.mul_zero, Int.zero_mul, Int.add_zero]
    rw [sumR_front (M + 1) fun t => sg t * chooseZ (M : Int) ((t : Int) - 1) * g (n - t)]
    rw [chooseZ_out (n := (M : Int)) (k := ((0 : Nat) : Int) - 1) (by omega), Int.mul_zero, Int.zero_mul, Int.zero_add, Int.sub_eq_add_neg]
    congr 1
    have : ∀ t : Nat, t < M + 1 → sg (t + 1) * chooseZ (M : Int) (((t + 1 : Nat) : Int) - 1) * g (n - ((t + 1 : Nat) : Int)) = -1 * (sg t * chooseZ (M : Int) t * g (n - 1 - t)) := fun t _ => by
      rw [sg_succ, show ((t + 1 : Nat) : Int) - 1 = (t : Int) by omega, show n - ((t + 1 : Nat) : Int) = n - 1 - t by omega, Int.neg_mul, Int.neg_mul, Int.neg_one_mul]
    rw [sumR_congr this, sumR_mul, Int.neg_one_mul]
theorem altTo_cut {M K : Nat} {g : Int → Int} {n : Int} (hK : K ≤ M + 1) (h : ∀ y, y ≤ n - K → g y = 0) : altTo M g n K = dif M g n := by
  rw [← alt_dif]
  unfold altTo
  exact (sumR_ext hK fun i h1 _ => by rw [h _ (by omega), Int.mul_zero]).symm
/-- undone again -/
theorem conv : ∀ (M : Nat) (g : Int → Int), (∀ y, y ≤ 0 → g y = 0) → ∀ x : Nat, sumR x (fun k => dif (M + 1) g ((k : Int) + 1) * fM M ((x : Int) - 1 - k)) = g x
  | 0, g, hg, x => by
    rw [sumR_congr (g := fun k : Nat => dif 1 g ((k : Int) + 1)) fun k hk => by rw [fM_0 (by omega), Int.mul_one]]
    induction x with
    | zero => rw [sumR_zero, hg _ (by omega)]
    | succ x ih =>
      rw [sumR_succ, ih, dif, dif, dif, show (x : Int) + 1 - 1 = x by omega, show ((x + 1 : Nat) : Int) = (x : Int) + 1 by omega]; omega
  | M + 1, g, hg, x => by
    rw [← conv M g hg x]
    have hz : ∀ y, y ≤ 0 → dif (M + 1) g y = 0 := fun y hy => dif_zero fun z hz => hg z (by omega)
    have e1 : ∀ k : Nat, k < x → dif (M + 1 + 1) g ((k : Int) + 1) * fM (M + 1) ((x : Int) - 1 - k) = dif (M + 1) g ((k : Int) + 1) * fM (M + 1) ((x : Int) - 1 - k) - dif (M + 1) g k * fM (M + 1) ((x : Int) - 1 - k) := fun k _ => by
      rw [dif, show (k : Int) + 1 - 1 = k by omega, Int.sub_mul]
    rw [sumR_congr e1, sumR_sub]
    have e2 : sumR x (fun k => dif (M + 1) g k * fM (M + 1) ((x : Int) - 1 - k)) = sumR x fun k => dif (M + 1) g ((k : Int) + 1) * fM (M + 1) ((x : Int) - 1 - k - 1) := by
      cases x with
      | zero => rfl
      | succ x =>
        rw [sumR_front, sumR_succ]
        rw [hz _ (by omega : ((0 : Nat) : Int) ≤ 0), Int.zero_mul, Int.zero_add, fM_neg (m := M + 1) (d := ((x + 1 : Nat) : Int) - 1 - x - 1) (by omega), Int.mul_zero, Int.add_zero]
        exact sumR_congr fun k _ => by rw [show ((k + 1 : Nat) : Int) = (k : Int) + 1 by omega, show ((x + 1 : Nat) : Int) - 1 - ((k : Int) + 1) = ((x + 1 : Nat) : Int) - 1 - k - 1 by omega]
    rw [e2, ← sumR_sub]
    exact sumR_congr fun k _ => by rw [← Int.mul_sub, fM_diff]
/-- rows of m figures below b that come to at most T -/
def nR (b : Nat) : Nat → Int → Int
  | 0, T => if 0 ≤ T then 1 else 0
  | m + 1, T => sumR b fun d => nR b m (T - d)
theorem nR_eq (b : Nat) : ∀ (m : Nat) (T : Int), dif m (fun n => fM m (T + n * b)) 0 = nR b m T
  | 0, T => by
    rw [dif, nR, Int.zero_mul, Int.add_zero]
    by_cases h : 0 ≤ T
    · rw [if_pos h, fM_0 h]
    · rw [if_neg h, fM_neg (by omega)]
  | m + 1, T => by
    rw [dif_comm, nR]
    have e : ∀ y : Int, y ≤ 0 → fM (m + 1) (T + y * b) - fM (m + 1) (T + (y - 1) * b) = sumR b fun d => fM m (T - d + y * b) := fun y _ => by
      have t := sumR_tele b (fM (m + 1)) (T + y * b)
      rw [show T + (y - 1) * b = T + y * b - b by rw [Int.sub_mul]; omega, ← t]
      exact sumR_congr fun d _ => by rw [fM_diff]; congr 1; omega
    rw [dif_congr e, dif_sum]
    exact sumR_congr fun d _ => nR_eq b m (T - d)
theorem nR_mono (b : Nat) : ∀ (m : Nat) {S T : Int}, S ≤ T → nR b m S ≤ nR b m T
  | 0, S, T, h => by
    rw [nR, nR]; split <;> split <;> omega
  | m + 1, S, T, h => by
    rw [nR, nR]; exact sumR_le fun i _ => nR_mono b m (by omega)
theorem nR_neg (b : Nat) : ∀ (m : Nat) {T : Int}, T < 0 → nR b m T = 0
  | 0, T, h => if_neg (by omega)
  | m + 1, T, h => by rw [nR]; exact sumR_zeros fun i _ => nR_neg b m (by omega)
theorem pow_succ' (b : Int) (m : Nat) : b ^ (m + 1) = b * b ^ m := by rw [Int.pow_succ, Int.mul_comm]
theorem nR_compl (b : Nat) : ∀ (m : Nat) (T : Int), nR b m T + nR b m ((m : Int) * ((b : Int) - 1) - 1 - T) = (b : Int) ^ m
  | 0, T => by
    rw [nR, nR]
    by_cases h : 0 ≤ T
    · rw [if_pos h, if_neg (by omega)]; rfl
    · rw [if_neg h, if_pos (by omega)]; rfl
  | m + 1, T => by
    rw [nR, nR]
    have e : ∀ d : Nat, d < b → nR b m (((m + 1 : Nat) : Int) * ((b : Int) - 1) - 1 - T - d) = (b : Int) ^ m - nR b m (T - ((b - 1 - d : Nat) : Int)) := fun d hd => by
      have := nR_compl b m (T - ((b - 1 - d : Nat) : Int))
      rw [show ((m + 1 : Nat) : Int) * ((b : Int) - 1) - 1 - T - d = (m : Int) * ((b : Int) - 1) - 1 - (T - ((b - 1 - d : Nat) : Int)) by
        rw [show ((m + 1 : Nat) : Int) = (m : Int) + 1 by omega, Int.add_mul]; omega]
      omega
    rw [sumR_congr e, sumR_sub, sumR_const, sumR_rev b fun d => nR b m (T - d), pow_succ']
    omega
theorem nR_top {b m : Nat} {T : Int} (h : (m : Int) * ((b : Int) - 1) ≤ T) : nR b m T = (b : Int) ^ m := by
  have := nR_compl b m T
  rw [nR_neg b m (T := (m : Int) * ((b : Int) - 1) - 1 - T) (by omega)] at this
  omega
/-- the table of carries -/
def cC (m b i j : Nat) : Int := dif (m + 1) (fun n => fM m (n * b - 1 - i)) ((j : Int) + 1)
theorem cC_zero {m b i : Nat} : ∀ y : Int, y ≤ 0 → fM m (y * b - 1 - i) = 0 := fun y hy => fM_neg (by
  have : y * (b : Int) ≤ 0 := Int.mul_nonpos_of_nonpos_of_nonneg hy (by omega)
  omega)
theorem dif_nR (m b i : Nat) (j : Int) : dif m (fun n => fM m (n * b - 1 - i)) j = nR b m (j * b - 1 - i) := by
  have h := dif_shift m (fun n => fM m (n * b - 1 - i)) j 0
  rw [Int.zero_add] at h
  rw [← h, ← nR_eq]
  exact dif_congr fun y _ => by
    show fM m ((y + j) * b - 1 - i) = _
    rw [Int.add_mul]; congr 1; omega
theorem cC_nR (m b i j : Nat) : cC m b i j = nR b m (((j : Int) + 1) * b - 1 - i) - nR b m ((j : Int) * b - 1 - i) := by
  unfold cC
  rw [dif, dif_nR, dif_nR, show (j : Int) + 1 - 1 = j by omega]
theorem cC_nonneg (m b i j : Nat) : 0 ≤ cC m b i j := by
  rw [cC_nR]
  have := nR_mono b m (S := (j : Int) * b - 1 - i) (T := ((j : Int) + 1) * b - 1 - i) (by rw [Int.add_mul]; omega)
  omega
theorem mul_le_b {m j b : Nat} (h : m ≤ j) : (m : Int) * b ≤ (j : Int) * b := Int.mul_le_mul_of_nonneg_right (by omega) (by omega)
theorem cC_out {m b i j : Nat} (hi : i < m) (hj : m ≤ j) : cC m b i j = 0 := by
  rw [cC_nR]
  have h1 := mul_le_b (b := b) hj
  have h2 : (m : Int) * ((b : Int) - 1) = (m : Int) * b - m := by rw [Int.mul_sub, Int.mul_one]
  rw [nR_top (by rw [Int.add_mul]; omega), nR_top (by omega)]; omega
theorem cC_sum {m b i : Nat} (hi : i < m) : sumR m (cC m b i) = (b : Int) ^ m := by
  have key : ∀ k : Nat, sumR k (cC m b i) = nR b m ((k : Int) * b - 1 - i) := fun k => by
    induction k with
    | zero => rw [sumR_zero, nR_neg b m (by omega)]
    | succ k ih => rw [sumR_succ, ih, cC_nR, show ((k + 1 : Nat) : Int) = (k : Int) + 1 by omega]; omega
  rw [key, nR_top]
  rw [Int.mul_sub, Int.mul_one]; omega
theorem cC_symm {m b i j : Nat} (hi : i < m) (hj : j < m) : cC m b (m - 1 - i) (m - 1 - j) = cC m b i j := by
  rw [cC_nR, cC_nR]
  have c1 := nR_compl b m ((j : Int) * b - 1 - i)
  have c2 := nR_compl b m (((j : Int) + 1) * b - 1 - i)
  rw [show (m : Int) * ((b : Int) - 1) - 1 - ((j : Int) * b - 1 - i) = (((m - 1 - j : Nat) : Int) + 1) * b - 1 - ((m - 1 - i : Nat) : Int) by
    rw [show ((m - 1 - j : Nat) : Int) + 1 = (m : Int) - j by omega, Int.mul_sub, Int.sub_mul]; omega] at c1
  rw [show (m : Int) * ((b : Int) - 1) - 1 - (((j : Int) + 1) * b - 1 - i) = ((m - 1 - j : Nat) : Int) * b - 1 - ((m - 1 - i : Nat) : Int) by
    rw [show ((m - 1 - j : Nat) : Int) = (m : Int) - (j + 1) by omega, Int.mul_sub, Int.sub_mul]; omega] at c2
  omega
theorem cC_conv {m b i : Nat} (hi : i < m) (x : Nat) : sumR m (fun j => cC m b i j * fM m ((x : Int) - 1 - j)) = fM m ((x : Int) * b - 1 - i) := by
  have h := conv m (fun n => fM m (n * b - 1 - i)) cC_zero x
  rw [← h]
  by_cases hx : x ≤ m
  · exact sumR_ext hx fun k h1 _ => by rw [fM_neg (m := m) (d := (x : Int) - 1 - k) (by omega), Int.mul_zero]
  · exact (sumR_ext (show m ≤ x by omega) fun k h1 _ => by
      show cC m b i k * _ = 0
      rw [cC_out hi h1, Int.zero_mul]).symm
theorem uniq {m : Nat} {d : Nat → Int} (h : ∀ x : Nat, sumR m (fun j => d j * fM m ((x : Int) - 1 - j)) = 0) : ∀ j, j < m → d j = 0 := by
  intro j
  induction j using Nat.strongRecOn with
  | _ j ih =>
    intro hj
    have := h (j + 1)
    rw [sumR_ext (n := j + 1) (by omega) fun k h1 _ => by rw [fM_neg (m := m) (d := ((j + 1 : Nat) : Int) - 1 - k) (by omega), Int.mul_zero]] at this
    rw [sumR_succ, sumR_zeros fun k hk => by rw [ih k hk (by omega), Int.zero_mul]] at this
    rw [show ((j + 1 : Nat) : Int) - 1 - (j : Int) = 0 by omega, fM_zero] at this
    omega
/-- the table of a product -/
theorem cC_prod {m a b i j : Nat} (hi : i < m) (hj : j < m) : sumR m (fun k => cC m a i k * cC m b k j) = cC m (a * b) i j := by
  have := uniq (m := m) (d := fun j => sumR m (fun k => cC m a i k * cC m b k j) - cC m (a * b) i j) (fun x => by
    have e1 : ∀ j, j < m → (sumR m (fun k => cC m a i k * cC m b k j) - cC m (a * b) i j) * fM m ((x : Int) - 1 - j) = sumR m (fun k => cC m a i k * (cC m b k j * fM m ((x : Int) - 1 - j))) - cC m (a * b) i j * fM m ((x : Int) - 1 - j) := fun j _ => by
      rw [Int.sub_mul, ← sumR_mulr]
      congr 1
      exact sumR_congr fun k _ => Int.mul_assoc _ _ _
    rw [sumR_congr e1, sumR_sub, sumR_comm, cC_conv hi]
    have e2 : ∀ k, k < m → sumR m (fun j => cC m a i k * (cC m b k j * fM m ((x : Int) - 1 - j))) = cC m a i k * fM m (((x * b : Nat) : Int) - 1 - k) := fun k hk => by
      rw [sumR_mul, cC_conv hk]; push_cast; rfl
    rw [sumR_congr e2, cC_conv hi (x * b)]
    have : ((x * b : Nat) : Int) * (a : Int) = (x : Int) * ((a * b : Nat) : Int) := by push_cast; rw [Int.mul_assoc, Int.mul_comm (b : Int)]
    rw [this]; omega) j hj
  omega
/-- the row that is kept -/
theorem cC_kept {m b j : Nat} (h1 : 1 ≤ m) (hj : j < m) : sumR m (fun i => (eulRow m).getD i 0 * cC m b i j) = (b : Int) ^ m * (eulRow m).getD j 0 := by
  have := uniq (m := m) (d := fun j => sumR m (fun i => (eulRow m).getD i 0 * cC m b i j) - (b : Int) ^ m * (eulRow m).getD j 0) (fun x => by
    have w : ∀ y : Nat, sumR m (fun i => (eulRow m).getD i 0 * fM m ((y : Int) - 1 - i)) = (y : Int) ^ m := fun y => by
      have t := totI_all (n := m) (h := (y : Int)) (by omega) h1
      rw [← t]; unfold totI sumR
      congr 1
      exact List.map_congr_left fun i _ => by unfold fM; congr 2; omega
    have e1 : ∀ j, j < m → (sumR m (fun i => (eulRow m).getD i 0 * cC m b i j) - (b : Int) ^ m * (eulRow m).getD j 0) * fM m ((x : Int) - 1 - j) = sumR m (fun i => (eulRow m).getD i 0 * (cC m b i j * fM m ((x : Int) - 1 - j))) - (b : Int) ^ m * ((eulRow m).getD j 0 * fM m ((x : Int) - 1 - j)) := fun j _ => by
      rw [Int.sub_mul, ← sumR_mulr, Int.mul_assoc]
      congr 1
      exact sumR_congr fun k _ => Int.mul_assoc _ _ _
    rw [sumR_congr e1, sumR_sub, sumR_comm, sumR_mul, w]
    have e2 : ∀ k, k < m → sumR m (fun j => (eulRow m).getD k 0 * (cC m b k j * fM m ((x : Int) - 1 - j))) = (eulRow m).getD k 0 * fM m (((x * b : Nat) : Int) - 1 - k) := fun k hk => by
      rw [sumR_mul, cC_conv hk]; push_cast; rfl
    rw [sumR_congr e2, w]
    push_cast
    rw [Int.mul_pow, Int.mul_comm]; omega) j hj
  omega
end Rc
namespace Rc
def carryRow (m b i : Nat) : List Int := (List.range m).map fun j => cC m b i j
def carryTo (m b n : Nat) : List (List Int) := (List.range n).map (carryRow m b)
def carryT (m b : Nat) : List (List Int) := carryTo m b m
theorem carryTo_next (m b n : Nat) : carryTo m b n ++ [carryRow m b n] = carryTo m b (n + 1) := by unfold carryTo; rw [List.range_succ, List.map_append]; rfl
@[simp] theorem carryTo_length (m b n : Nat) : (carryTo m b n).length = n := by simp [carryTo]
@[simp] theorem carryT_length (m b : Nat) : (carryT m b).length = m := by simp [carryT]
@[simp] theorem carryRow_length (m b i : Nat) : (carryRow m b i).length = m := by simp [carryRow]
theorem carryT_sq (m b : Nat) : Sq m (carryT m b) := ⟨by simp, fun r hr => by
  obtain ⟨i, _, rfl⟩ := List.mem_map.mp hr
  simp⟩
theorem map_range_getD {β : Type} {m i : Nat} {f : Nat → β} {d : β} (h : i < m) : ((List.range m).map f).getD i d = f i := by
  rw [List.getD_eq_getElem?_getD, List.getElem?_map, List.getElem?_range h]; rfl
theorem carryT_row {m b i : Nat} (h : i < m) : (carryT m b).getD i [] = carryRow m b i := map_range_getD h
theorem carryT_at {m b i j : Nat} (h : i < m) (hj : j < m) : ((carryT m b).getD i []).getD j 0 = cC m b i j := by rw [carryT_row h]; exact map_range_getD hj
theorem cC_le {m b i j : Nat} (hi : i < m) : cC m b i j ≤ (b : Int) ^ m := by
  by_cases hj : j < m
  · rw [← cC_sum hi]
    have : ∀ n, j < n → cC m b i j ≤ sumR n (cC m b i) := fun n => by
      induction n with
      | zero => intro h; omega
      | succ n ih =>
        intro h
        rw [sumR_succ]
        have h0 := cC_nonneg m b i n
        by_cases e : j = n
        · subst e
          have : 0 ≤ sumR j (cC m b i) := by
            have := sumR_le (n := j) (f := fun _ => 0) (g := cC m b i) fun k _ => cC_nonneg m b i k
            rw [sumR_const] at this; omega
          omega
        · have := ih (by omega); omega
    exact this m hj
  · rw [cC_out hi (by omega)]; exact Int.pow_nonneg (by omega)
theorem carryT_bd {m b B : Nat} (hb : b < 2 ^ B) : BdT (B * m + 1) (carryT m b) := fun r hr x hx => by
  obtain ⟨i, hi, rfl⟩ := List.mem_map.mp hr
  obtain ⟨j, _, rfl⟩ := List.mem_map.mp hx
  have hi := List.mem_range.mp hi
  have h0 := cC_nonneg m b i j
  have h1 := cC_le (b := b) (j := j) hi
  refine ⟨?_⟩
  have h2 : ((b : Int) ^ m) = ((b ^ m : Nat) : Int) := by push_cast; rfl
  have h3 : b ^ m ≤ (2 ^ B) ^ m := Nat.pow_le_pow_left (Nat.le_of_lt hb) m
  rw [← Nat.pow_mul] at h3
  have h4 : 2 ^ (B * m) < 2 ^ (B * m + 1) := Nat.pow_lt_pow_right (by decide) (by omega)
  omega
/-- one turn of carry_count -/
theorem sg_bd (t : Nat) : Bd 1 (sg t) := ⟨by unfold sg; split <;> decide⟩
abbrev gC (m b i : Nat) : Int → Int := fun n => fM m (n * b - 1 - i)
theorem carry_next {m b i j t : Nat} : altTo (m + 1) (gC m b i) ((j : Int) + 1) t + sg t * chooseZ ((m : Int) + 1) t * chooseZ ((m : Int) - 1 - i + ((j : Int) + 1 - t) * b) m = altTo (m + 1) (gC m b i) ((j : Int) + 1) (t + 1) := by
  rw [altTo_succ]
  show _ = _ + sg t * chooseZ ((m + 1 : Nat) : Int) t * fM m (((j : Int) + 1 - t) * b - 1 - i)
  unfold fM
  rw [show ((j : Int) + 1 - t) * b - 1 - i + m = (m : Int) - 1 - i + ((j : Int) + 1 - t) * b by omega]
  rfl
theorem carry_all {m b i j : Nat} (hj : j < m) : altTo (m + 1) (gC m b i) ((j : Int) + 1) (j + 2) = cC m b i j := altTo_cut (by omega) fun y hy => cC_zero y (by omega)
theorem carry_bd {j t b : Nat} {m i : Int} (h : t < j + 2) (hj : j < 12) (hb : (b : Int) ≤ 1000000000000) (hm : m ≤ 12) (hi : 0 ≤ i) (him : i < m) :
    0 ≤ m - 1 - i + ((j : Int) + 1 - t) * b ∧ m - 1 - i + ((j : Int) + 1 - t) * b < 2 ^ 60 := by
  have h0 : 0 ≤ ((j : Int) + 1 - t) * b := Int.mul_nonneg (by omega) (by omega)
  have h1 : ((j : Int) + 1 - t) * b ≤ 12 * 1000000000000 := Int.mul_le_mul (by omega) hb (by omega) (by decide)
  omega
/-- at most -/
abbrev gT (m b : Nat) (T : Int) : Int → Int := fun n => fM m (T + n * b)
theorem most_next {m b t : Nat} {T : Int} : altTo m (gT m b T) 0 t + sg t * chooseZ (m : Int) t * chooseZ (T - (t : Int) * b + m) m = altTo m (gT m b T) 0 (t + 1) := by
  rw [altTo_succ]
  show _ = _ + sg t * chooseZ (m : Int) t * fM m (T + (0 - (t : Int)) * b)
  unfold fM
  rw [show T + (0 - (t : Int)) * b + m = T - (t : Int) * b + m by rw [Int.zero_sub, Int.neg_mul]; omega]
theorem most_skip {m b t : Nat} {T : Int} (h : ¬ (t : Int) * b ≤ T) : altTo m (gT m b T) 0 t = altTo m (gT m b T) 0 (t + 1) := by
  rw [← most_next, chooseZ_out (n := T - (t : Int) * b + m) (k := (m : Int)) (by omega), Int.mul_zero, Int.add_zero]
theorem most_all {m b : Nat} {T : Int} : altTo m (gT m b T) 0 (m + 1) = nR b m T := (alt_dif _ _ _).trans (nR_eq b m T)
theorem nR_nonneg (b m : Nat) (T : Int) : 0 ≤ nR b m T := by
  have := nR_mono b m (S := min T (-1)) (T := T) (by omega)
  rw [nR_neg b m (by omega)] at this
  exact this
theorem nR_le (b m : Nat) (T : Int) : nR b m T ≤ (b : Int) ^ m := by
  have := nR_compl b m T
  have := nR_nonneg b m ((m : Int) * ((b : Int) - 1) - 1 - T)
  omega
/-- a row by its ends -/
theorem ends_row {m b i : Nat} {ends : List Int} (h : ends = (List.range (m + 1)).map fun j : Nat => nR b m ((j : Int) * b - 1 - i)) :
    (List.range m).map (fun j : Nat => ends.getD (Int.toNat ((j : Int) + 1)) 0 - ends.getD (Int.toNat (j : Int)) 0) = carryRow m b i := by
  unfold carryRow
  refine List.map_congr_left fun j hj => ?_
  have hj := List.mem_range.mp hj
  rw [h, show Int.toNat ((j : Int) + 1) = j + 1 by omega, Int.toNat_natCast, map_range_getD (by omega), map_range_getD (by omega), cC_nR]
  rw [show ((j + 1 : Nat) : Int) = (j : Int) + 1 by omega]
/-- all sums of figures -/
def sumsI (b : Nat) : Nat → List Int
  | 0 => [0]
  | k + 1 => (sumsI b k).flatMap fun s => (List.range b).map fun d : Nat => s + (d : Int)
def sumsTo (b k n : Nat) : List Int := ((sumsI b k).take n).flatMap fun s => (List.range b).map fun d : Nat => s + (d : Int)
theorem sumsTo_next {b k n : Nat} {s : Int} (h : (sumsI b k)[n]? = some s) : sumsTo b k n ++ (List.range b).map (fun d : Nat => s + (d : Int)) = sumsTo b k (n + 1) := by
  unfold sumsTo
  rw [List.take_add_one, h, List.flatMap_append]; simp
theorem sumsTo_all (b k : Nat) : sumsTo b k (sumsI b k).length = sumsI b (k + 1) := by unfold sumsTo; rw [List.take_length]; rfl
theorem flat_len {b : Nat} : ∀ (l : List Int), (l.flatMap fun s => (List.range b).map fun d : Nat => s + (d : Int)).length = l.length * b
  | [] => by simp
  | a :: l => by rw [List.flatMap_cons, List.length_append, flat_len l, List.length_map, List.length_range, List.length_cons, Nat.succ_mul, Nat.add_comm]
theorem sumsI_length (b : Nat) : ∀ k, (sumsI b k).length = b ^ k
  | 0 => rfl
  | k + 1 => by rw [sumsI, flat_len, sumsI_length b k, Nat.pow_succ]
theorem sumsTo_length {b k n : Nat} (h : n ≤ (sumsI b k).length) : (sumsTo b k n).length = n * b := by unfold sumsTo; rw [flat_len, List.length_take, Nat.min_eq_left h]
theorem sums_bd (b : Nat) : ∀ (k : Nat) {s : Int}, s ∈ sumsI b k → 0 ≤ s ∧ s ≤ (k : Int) * ((b : Int) - 1)
  | 0, s, h => by rw [List.mem_singleton.mp h]; simp
  | k + 1, s, h => by
    obtain ⟨t, ht, hs⟩ := List.mem_flatMap.mp h
    obtain ⟨d, hd, rfl⟩ := List.mem_map.mp hs
    have hd := List.mem_range.mp hd
    have := sums_bd b k ht
    rw [show ((k + 1 : Nat) : Int) = (k : Int) + 1 by omega, Int.add_mul]
    omega
theorem sums_q {b m i : Nat} {s : Int} (hs : s ∈ sumsI b m) (hi : i < m) (hb : 1 ≤ b) : 0 ≤ (s + i) / (b : Int) ∧ (s + i) / (b : Int) < m := by
  have h := sums_bd b m hs
  refine ⟨Int.ediv_nonneg (by omega) (by omega), Int.ediv_lt_of_lt_mul (by omega) ?_⟩
  rw [Int.mul_sub, Int.mul_one] at h
  omega
theorem countP_add {α : Type} (p : α → Bool) (l : List α) (a : α) : ((l ++ [a]).countP p : Int) = (l.countP p : Int) + if p a = true then 1 else 0 := by
  rw [List.countP_append, List.countP_cons, List.countP_nil]
  split <;> push_cast <;> omega
/-- how many of some numbers are at most T -/
def leN (l : List Int) (T : Int) : Int := (l.countP fun s => decide (s ≤ T) : Nat)
theorem leN_cons (a : Int) (l : List Int) (T : Int) : leN (a :: l) T = leN l T + if a ≤ T then 1 else 0 := by
  unfold leN
  rw [List.countP_cons]
  by_cases h : a ≤ T
  · rw [if_pos h, if_pos (decide_eq_true h)]; push_cast; rfl
  · rw [if_neg h, if_neg (by simpa using h)]; push_cast; rfl
theorem leN_app (l r : List Int) (T : Int) : leN (l ++ r) T = leN l T + leN r T := by unfold leN; rw [List.countP_append]; push_cast; rfl
theorem leN_row (b : Nat) (s T : Int) : leN ((List.range b).map fun d : Nat => s + (d : Int)) T = sumR b fun d => if s ≤ T - d then 1 else 0 := by
  induction b with
  | zero => rfl
  | succ b ih =>
    rw [List.range_succ, List.map_append, leN_app, ih, sumR_succ]
    congr 1
    rw [List.map_singleton, leN_cons]
    unfold leN
    rw [List.countP_nil]
    by_cases h : s + (b : Int) ≤ T
    · rw [if_pos h, if_pos (by omega)]; rfl
    · rw [if_neg h, if_neg (by omega)]; rfl
theorem leN_flat (b : Nat) (T : Int) : ∀ l : List Int, leN (l.flatMap fun s => (List.range b).map fun d : Nat => s + (d : Int)) T = sumR b fun d => leN l (T - d)
  | [] => by
    rw [List.flatMap_nil]
    exact (sumR_zeros fun _ _ => rfl).symm
  | a :: l => by
    rw [List.flatMap_cons, leN_app, leN_flat b T l, leN_row, ← sumR_add]
    exact sumR_congr fun d _ => by rw [leN_cons]; omega
theorem leN_sums (b : Nat) : ∀ (m : Nat) (T : Int), leN (sumsI b m) T = nR b m T
  | 0, T => by
    rw [sumsI, leN_cons, nR]; unfold leN; rw [List.countP_nil]
    split <;> simp
  | m + 1, T => by
    rw [sumsI, leN_flat, nR]
    exact sumR_congr fun d _ => leN_sums b m (T - d)
def cntS (l : List Int) (b i j : Nat) : Int := (l.countP fun s => decide ((s + i) / (b : Int) = (j : Int)) : Nat)
theorem div_iff {s i b j : Int} (hb : 0 < b) : (s + i) / b = j ↔ s ≤ (j + 1) * b - 1 - i ∧ ¬ s ≤ j * b - 1 - i := by
  constructor
  · intro h
    subst h
    have h1 := Int.mul_ediv_add_emod (s + i) b
    have h2 := Int.emod_nonneg (s + i) (show b ≠ 0 by omega)
    have h3 := Int.emod_lt_of_pos (s + i) hb
    rw [Int.mul_comm] at h1
    rw [Int.add_mul]
    omega
  · intro ⟨h1, h2⟩
    rw [Int.add_mul] at h1
    have : s + i = (s + i - j * b) + j * b := by omega
    rw [this, Int.add_mul_ediv_right _ _ (by omega), Int.ediv_eq_zero_of_lt (by omega) (by omega)]; omega
theorem cntS_le {b i j : Nat} (hb : 1 ≤ b) : ∀ l : List Int, cntS l b i j = leN l (((j : Int) + 1) * b - 1 - i) - leN l ((j : Int) * b - 1 - i)
  | [] => rfl
  | a :: l => by
    have ih := cntS_le (i := i) (j := j) hb l
    rw [leN_cons, leN_cons]
    have e : cntS (a :: l) b i j = cntS l b i j + if (a + i) / (b : Int) = (j : Int) then 1 else 0 := by
      unfold cntS
      rw [List.countP_cons]
      by_cases h : (a + i) / (b : Int) = (j : Int)
      · rw [if_pos h, if_pos (decide_eq_true h)]; push_cast; rfl
      · rw [if_neg h, if_neg (by simpa using h)]; push_cast; rfl
    rw [e, ih]
    have d := div_iff (s := a) (i := (i : Int)) (b := (b : Int)) (j := (j : Int)) (by omega)
    have le : (j : Int) * b - 1 - i ≤ ((j : Int) + 1) * b - 1 - i := by rw [Int.add_mul]; omega
    by_cases h : (a + i) / (b : Int) = (j : Int)
    · have := d.mp h
      rw [if_pos h, if_pos this.1, if_neg this.2]; omega
    · rw [if_neg h]
      by_cases h1 : a ≤ ((j : Int) + 1) * b - 1 - i
      · have h2 : a ≤ (j : Int) * b - 1 - i := by
          by_cases h2 : a ≤ (j : Int) * b - 1 - i
          · exact h2
          · exact absurd (d.mpr ⟨h1, h2⟩) h
        rw [if_pos h1, if_pos h2]; omega
      · rw [if_neg h1, if_neg (by omega)]; omega
theorem cntS_sums {m b i j : Nat} (hb : 1 ≤ b) : cntS (sumsI b m) b i j = cC m b i j := by rw [cntS_le hb, leN_sums, leN_sums, cC_nR]
/-- the rows while they are filled -/
theorem map_range_set {β : Type} {m i : Nat} {f : Nat → β} {x : β} : ((List.range m).map f).set i x = (List.range m).map fun k => if k = i then x else f k := by
  apply List.ext_getElem?
  intro k
  by_cases e : i = k
  · subst e
    by_cases h : i < m
    · rw [List.getElem?_set_self (by simpa using h), List.getElem?_map, List.getElem?_range h]; simp
    · rw [List.getElem?_eq_none (by simp; omega), List.getElem?_eq_none (by simp; omega)]
  · rw [List.getElem?_set_ne e, List.getElem?_map, List.getElem?_map]
    cases h : (List.range m)[k]? with
    | none => rfl
    | some y =>
      have : y = k := by
        obtain ⟨hl, he⟩ := List.getElem?_eq_some_iff.mp h
        rw [List.getElem_range] at he; exact he.symm
      subst this
      show some (f y) = some (if y = i then x else f y)
      rw [if_neg (fun z => e z.symm)]
def listTab (m b : Nat) (l : List Int) (i n : Nat) : List (List Int) := (List.range m).map fun i' => (List.range m).map fun j => if i' < i then cntS l b i' j else if i' = i then cntS (l.take n) b i' j else 0
theorem listTab_start (m b : Nat) (l : List Int) : (List.range m).map (fun _ : Nat => (List.range m).map fun _ : Nat => (0 : Int)) = listTab m b l 0 0 := by
  unfold listTab
  refine List.map_congr_left fun i _ => List.map_congr_left fun j _ => ?_
  rw [if_neg (by omega)]
  split <;> rfl
theorem listTab_turn (m b : Nat) (l : List Int) (i : Nat) : listTab m b l i l.length = listTab m b l (i + 1) 0 := by
  unfold listTab
  refine List.map_congr_left fun k _ => List.map_congr_left fun j _ => ?_
  rw [List.take_length]
  by_cases h : k < i
  · rw [if_pos h, if_pos (by omega)]
  · by_cases e : k = i
    · rw [if_neg h, if_pos e, if_pos (by omega)]
    · rw [if_neg h, if_neg e, if_neg (by omega)]; split <;> rfl
theorem listTab_end (m b : Nat) (hb : 1 ≤ b) : listTab m b (sumsI b m) m 0 = carryT m b := by
  unfold listTab carryT carryTo carryRow
  refine List.map_congr_left fun k hk => List.map_congr_left fun j _ => ?_
  rw [if_pos (List.mem_range.mp hk), cntS_sums hb]
theorem listTab_row {m b : Nat} {l : List Int} {i n : Nat} (hi : i < m) : (listTab m b l i n).getD i [] = (List.range m).map fun j => cntS (l.take n) b i j := by
  unfold listTab
  rw [map_range_getD hi]
  exact List.map_congr_left fun j _ => by rw [if_neg (by omega), if_pos rfl]
theorem listTab_next {m b : Nat} {l : List Int} {i n : Nat} {s : Int} (hi : i < m) (hs : l[n]? = some s) (h0 : 0 ≤ (s + i) / (b : Int)) (h1 : (s + i) / (b : Int) < m) :
    (listTab m b l i n).set i (((listTab m b l i n).getD i []).set ((s + i) / (b : Int)).toNat (((listTab m b l i n).getD i []).getD ((s + i) / (b : Int)).toNat 0 + 1)) = listTab m b l i (n + 1) := by
  have hq : ((s + i) / (b : Int)).toNat < m := by omega
  rw [listTab_row hi, map_range_getD hq, map_range_set]
  unfold listTab
  rw [map_range_set]
  refine List.map_congr_left fun k hk => ?_
  by_cases e : k = i
  · rw [if_pos e]
    subst e
    refine List.map_congr_left fun j _ => ?_
    rw [if_neg (show ¬ k < k by omega), if_pos (show k = k from rfl)]
    have t : cntS (l.take (n + 1)) b k j = cntS (l.take n) b k j + if (s + k) / (b : Int) = (j : Int) then 1 else 0 := by
      rw [List.take_add_one, hs]
      unfold cntS
      show ((l.take n ++ [s]).countP _ : Int) = _
      rw [countP_add]
      simp
    rw [t]
    by_cases h : j = ((s + k) / (b : Int)).toNat
    · rw [if_pos h, if_pos (by omega), h]
    · rw [if_neg h, if_neg (by omega)]; omega
  · rw [if_neg e]
    refine List.map_congr_left fun j _ => ?_
    by_cases h : k < i
    · rw [if_pos h, if_pos h]
    · rw [if_neg h, if_neg e, if_neg h, if_neg e]
theorem listTab_sq (m b : Nat) (l : List Int) (i n : Nat) : Sq m (listTab m b l i n) := ⟨by simp [listTab], fun r hr => by
  obtain ⟨k, _, rfl⟩ := List.mem_map.mp hr
  simp⟩
theorem pow_small {b k : Nat} (hb : b ≤ 4) (hk : k ≤ 4) : b ^ k * b ≤ 1024 := by
  have h1 : b ^ k ≤ 4 ^ k := Nat.pow_le_pow_left hb k
  have h2 : 4 ^ k ≤ 4 ^ 4 := Nat.pow_le_pow_right (by decide) hk
  exact Nat.mul_le_mul (Nat.le_trans h1 h2) hb
/-- tables multiplied -/
theorem dot_carry {m a b i j : Nat} (hi : i < m) (hj : j < m) : dotTo (carryRow m a i) (carryT m b) j (carryRow m a i).length = cC m (a * b) i j := by
  rw [carryRow_length, ← cC_prod hi hj]
  unfold dotTo sumR
  congr 1
  refine List.map_congr_left fun k hk => ?_
  have hk := List.mem_range.mp hk
  rw [carryT_at hk hj]
  unfold carryRow
  rw [map_range_getD hk]
theorem mulI_carry {m a b i : Nat} (hi : i < m) : mulI (carryRow m a i) (carryT m b) = carryRow m (a * b) i := by
  unfold mulI
  rw [carryRow_length]
  unfold carryRow
  refine List.map_congr_left fun j hj => ?_
  have := dot_carry (b := b) (a := a) hi (List.mem_range.mp hj)
  rw [carryRow_length] at this
  exact this
theorem carryT_mul (m a b : Nat) : mulT (carryT m a) (carryT m b) = carryT m (a * b) := by
  unfold mulT
  conv => lhs; arg 2; unfold carryT carryTo
  rw [List.map_map]
  show _ = (List.range m).map (carryRow m (a * b))
  exact List.map_congr_left fun i hi => mulI_carry (List.mem_range.mp hi)
theorem carryT_mul' (m a b : Nat) : mulT (carryT m b) (carryT m a) = carryT m (a * b) := by rw [carryT_mul, Nat.mul_comm]
theorem toNat_mul' (a b : Nat) : Int.toNat ((a : Int) * (b : Int)) = a * b := by rw [← Int.natCast_mul]; rfl
theorem row_sum {m b i : Nat} (hi : i < m) : ((carryT m b).getD i []).sum = (b : Int) ^ m := by rw [carryT_row hi, ← cC_sum hi]; rfl
theorem kept {m b : Nat} (h1 : 1 ≤ m) : mulI (eulRow m) (carryT m b) = (eulRow m).map fun x => (b : Int) ^ m * x := by
  refine listI_ext (by simp) fun j hj => ?_
  rw [mulI_length, eulRow_length] at hj
  rw [mulI_getD (by simpa using hj)]
  have e : ((eulRow m).map fun x => (b : Int) ^ m * x).getD j 0 = (b : Int) ^ m * (eulRow m).getD j 0 := by
    rw [List.getD_eq_getElem?_getD, List.getD_eq_getElem?_getD, List.getElem?_map, List.getElem?_eq_getElem (by simpa using hj)]; rfl
  rw [e, ← cC_kept h1 hj]
  unfold dotTo sumR
  rw [eulRow_length]
  congr 1
  exact List.map_congr_left fun k hk => by rw [carryT_at (List.mem_range.mp hk) hj]
/-- the first row, columns after columns -/
theorem first_zero {m : Nat} (h1 : 1 ≤ m) : carryRow m 1 0 = [1] ++ List.replicate (m - 1) 0 := by
  refine listI_ext (by simp; omega) fun j hj => ?_
  rw [carryRow_length] at hj
  unfold carryRow
  rw [map_range_getD hj, cC_nR]
  have e : ∀ T : Int, nR 1 m T = if 0 ≤ T then 1 else 0 := fun T => by
    clear h1 hj j
    induction m generalizing T with
    | zero => rfl
    | succ m ih => rw [nR, sumR_succ, sumR_zero, ih]; simp
  rw [e, e]
  cases j with
  | zero => simp
  | succ j =>
    rw [if_pos (by push_cast; omega), if_pos (by push_cast; omega)]
    simp [List.getD_eq_getElem?_getD, List.getElem?_replicate]
    split <;> rfl
theorem times_row {r : List Int} {T : List (List Int)} (h : T.length = r.length) : mulTo r T T.length = mulI r T := by rw [h]; rfl
theorem prod12 {a b : Int} (h1 : 1 ≤ a) (h2 : a ≤ 1000000) (h3 : 1 ≤ b) (h4 : b ≤ 1000000) : 1 ≤ a * b ∧ a * b ≤ 10 ^ 12 := by
  have e1 : 1 * 1 ≤ a * b := Int.mul_le_mul h1 h3 (by decide) (by omega)
  have e2 : a * b ≤ 1000000 * 1000000 := Int.mul_le_mul h2 h4 (by omega) (by decide)
  omega
theorem eul_bdR {m : Nat} (h : m ≤ 60) : BdR 3000 (eulRow m) := fun x hx => by
  obtain ⟨k, hk, rfl⟩ := List.mem_map.mp hx
  exact (Bd.eul k h).mono (by decide)
theorem kept_at {m b j : Nat} (h1 : 1 ≤ m) (hj : j < m) : ((List.range m).map fun i : Nat => (eulRow m).getD i 0 * ((carryT m b).getD i []).getD j 0).sum = ((eulRow m).map fun y : Int => (b : Int) ^ m * y).getD j 0 := by
  have := kept (b := b) h1
  have e : (mulI (eulRow m) (carryT m b)).getD j 0 = dotTo (eulRow m) (carryT m b) j m := by
    have := mulI_getD (row := eulRow m) (T := carryT m b) (j := j) (by simpa using hj)
    rwa [eulRow_length] at this
  rw [this] at e
  rw [e]; rfl
theorem toNat_pow (b c : Nat) : Int.toNat ((b : Int) ^ c) = b ^ c := by rw [← Int.natCast_pow]; rfl
theorem carryRow_bd {m b i B : Nat} (hb : b < 2 ^ B) (hi : i < m) : BdR (B * m + 1) (carryRow m b i) := by
  have := carryT_bd (m := m) hb
  exact this _ (List.mem_map.mpr ⟨i, List.mem_range.mpr hi, rfl⟩)
theorem pow_lt {b c B k : Nat} (hb : b < 2 ^ B) (hc : c ≤ k) (hk : 0 < k) (hB : 0 < B := by decide) : b ^ c < 2 ^ (B * k) := by
  have h1 : b ^ c ≤ (2 ^ B) ^ c := Nat.pow_le_pow_left (Nat.le_of_lt hb) c
  rw [← Nat.pow_mul] at h1
  by_cases e : c = k
  · subst e
    have : b ^ c < (2 ^ B) ^ c := Nat.pow_lt_pow_left hb (by omega)
    rwa [← Nat.pow_mul] at this
  · have h2 : 2 ^ (B * c) < 2 ^ (B * k) := Nat.pow_lt_pow_right (by decide) (Nat.mul_lt_mul_of_pos_left (by omega) (by omega))
    omega
theorem first_init {m : Nat} (h : 1 ≤ m) : [(1 : Int)] ++ (List.range (Int.toNat ((m : Int) - 1))).map (fun _ : Nat => (0 : Int)) = carryRow m (1) 0 := by
  rw [first_zero h, show Int.toNat ((m : Int) - 1) = m - 1 by omega]
  congr 1
  rw [List.map_const', List.length_range]
theorem first_next {m b i : Nat} (h : 1 ≤ m) : mulI (carryRow m (b ^ i) 0) (carryT m b) = carryRow m (b ^ (i + 1)) 0 := by rw [mulI_carry (by omega), ← Nat.pow_succ]
theorem ends_row0 {m b : Nat} {W : Int} {ends : List Int} (hW : W = (b : Int)) (h : ends = (List.range (m + 1)).map fun j : Nat => nR b m ((j : Int) * W - 1)) :
    (List.range m).map (fun j : Nat => ends.getD (Int.toNat ((j : Int) + 1)) 0 - ends.getD (Int.toNat (j : Int)) 0) = carryRow m b 0 := by
  subst hW
  refine ends_row (i := 0) (h.trans (List.map_congr_left fun j _ => ?_))
  simp
theorem row_sum0 {m b : Nat} (h : 1 ≤ m) : (carryRow m b 0).sum = (b : Int) ^ m := cC_sum (by omega)
def cntRow (m b : Nat) (l : List Int) (n : Nat) : List Int := (List.range m).map fun j => cntS (l.take n) b 0 j
@[simp] theorem cntRow_length (m b : Nat) (l : List Int) (n : Nat) : (cntRow m b l n).length = m := by simp [cntRow]
theorem cntRow_zero (m b : Nat) (l : List Int) : (List.range m).map (fun _ : Nat => (0 : Int)) = cntRow m b l 0 := rfl
theorem cntRow_next {m b : Nat} {l : List Int} {n : Nat} {s : Int} (hs : l[n]? = some s) (h0 : 0 ≤ s / (b : Int)) (h1 : s / (b : Int) < m) :
    (cntRow m b l n).set (s / (b : Int)).toNat ((cntRow m b l n).getD (s / (b : Int)).toNat 0 + 1) = cntRow m b l (n + 1) := by
  have hq : (s / (b : Int)).toNat < m := by omega
  unfold cntRow
  rw [map_range_getD hq, map_range_set]
  refine List.map_congr_left fun j _ => ?_
  have t : cntS (l.take (n + 1)) b 0 j = cntS (l.take n) b 0 j + if s / (b : Int) = (j : Int) then 1 else 0 := by
    rw [List.take_add_one, hs]
    unfold cntS
    show ((l.take n ++ [s]).countP _ : Int) = _
    rw [countP_add]
    simp
  rw [t]
  by_cases h : j = (s / (b : Int)).toNat
  · rw [if_pos h, if_pos (by omega), h]
  · rw [if_neg h, if_neg (by omega)]; omega
theorem cntRow_end {m b : Nat} (hb : 1 ≤ b) (h : 1 ≤ m) : cntRow m b (sumsI b m) (sumsI b m).length = carryRow m b 0 := by
  unfold cntRow carryRow
  rw [List.take_length]
  exact List.map_congr_left fun j _ => cntS_sums hb
theorem sums_q0 {b m : Nat} {s : Int} (hs : s ∈ sumsI b m) (hm : 1 ≤ m) (hb : 1 ≤ b) : 0 ≤ s / (b : Int) ∧ s / (b : Int) < m := by
  have := sums_q (i := 0) hs (by omega) hb
  simpa using this
theorem pow_part {b k m : Nat} (hb : 1 ≤ b) (hk : k < m) (h : b ^ m ≤ 300) : b ^ k * b ≤ 300 := by
  rw [← Nat.pow_succ]
  exact Nat.le_trans (Nat.pow_le_pow_right hb hk) h
end Rc
namespace Rc
/-- columns -/
def colS (N : List (List Int)) (k : Nat) : Int := (N.map fun r => r.getD k 0).sum
def carI (N : List (List Int)) (b : Int) : Nat → Int
  | 0 => 0
  | k + 1 => (carI N b k + colS N k) / b
def figI (N : List (List Int)) (b : Int) (k : Nat) : Int := (carI N b k + colS N k) % b
def figsI (N : List (List Int)) (b : Int) (n : Nat) : List Int := (List.range n).map (figI N b)
def carsI (N : List (List Int)) (b : Int) (n : Nat) : List Int := (List.range n).map fun k => carI N b (k + 1)
@[simp] theorem figsI_length (N : List (List Int)) (b : Int) (n : Nat) : (figsI N b n).length = n := by simp [figsI]
@[simp] theorem carsI_length (N : List (List Int)) (b : Int) (n : Nat) : (carsI N b n).length = n := by simp [carsI]
theorem figsI_next (N : List (List Int)) (b : Int) (n : Nat) : figsI N b n ++ [(carI N b n + colS N n) % b] = figsI N b (n + 1) := by unfold figsI; rw [List.range_succ, List.map_append]; rfl
theorem carsI_next (N : List (List Int)) (b : Int) (n : Nat) : carsI N b n ++ [(carI N b n + colS N n) / b] = carsI N b (n + 1) := by unfold carsI; rw [List.range_succ, List.map_append]; rfl
theorem figsI_getD {N : List (List Int)} {b : Int} {n k : Nat} (h : k < n) : (figsI N b n).getD k 0 = figI N b k := map_range_getD h
theorem carsI_getD {N : List (List Int)} {b : Int} {n k : Nat} (h : k < n) : (carsI N b n).getD k 0 = carI N b (k + 1) := map_range_getD h
/-- numbers of one count of figures -/
structure Figs (N : List (List Int)) (b : Int) (n : Nat) : Prop where
  len : ∀ r ∈ N, r.length = n
  fig : ∀ r ∈ N, ∀ x ∈ r, 0 ≤ x ∧ x < b
theorem Figs.mem {N : List (List Int)} {b : Int} {n i : Nat} {r : List Int} (h : Figs N b n) (e : N[i]? = some r) : r.length = n := h.len _ (List.mem_of_getElem? e)
theorem Figs.at {N : List (List Int)} {b : Int} {n i j : Nat} {r : List Int} {x : Int} (h : Figs N b n) (e : N[i]? = some r) (e2 : r[j]? = some x) : 0 ≤ x ∧ x < b := h.fig _ (List.mem_of_getElem? e) _ (List.mem_of_getElem? e2)
theorem Figs.row {N : List (List Int)} {b : Int} {n i : Nat} (h : Figs N b n) (hi : i < N.length) : (N.getD i []).length = n := h.len _ (getDm hi)
theorem colS_bd {N : List (List Int)} {b : Int} {n : Nat} (h : Figs N b n) (hb : 0 < b) (k : Nat) : 0 ≤ colS N k ∧ colS N k ≤ (N.length : Int) * (b - 1) := by
  unfold colS
  have hf := h.fig
  clear h
  induction N with
  | nil => simp
  | cons r N ih =>
    have ih := ih fun r hr => hf r (List.mem_cons_of_mem _ hr)
    rw [List.map_cons, List.sum_cons, List.length_cons]
    have e : ((N.length + 1 : Nat) : Int) * (b - 1) = (N.length : Int) * (b - 1) + (b - 1) := by
      rw [show ((N.length + 1 : Nat) : Int) = (N.length : Int) + 1 by omega, Int.add_mul, Int.one_mul]
    have h0 : 0 ≤ r.getD k 0 ∧ r.getD k 0 ≤ b - 1 := by
      by_cases hk : k < r.length
      · have := hf r List.mem_cons_self _ (getDm (d := (0 : Int)) hk); omega
      · rw [List.getD_eq_getElem?_getD, List.getElem?_eq_none (by omega)]
        show 0 ≤ (0 : Int) ∧ (0 : Int) ≤ b - 1
        omega
    omega
theorem carI_bd {N : List (List Int)} {b : Int} {n : Nat} (h : Figs N b n) (hb : 0 < b) (hN : 1 ≤ N.length) : ∀ k, 0 ≤ carI N b k ∧ carI N b k < (N.length : Int)
  | 0 => ⟨Int.le_refl _, by show (0 : Int) < _; omega⟩
  | k + 1 => by
    have ih := carI_bd h hb hN k
    have c := colS_bd h hb k
    rw [carI]
    refine ⟨Int.ediv_nonneg (by omega) (by omega), Int.ediv_lt_of_lt_mul hb ?_⟩
    rw [Int.mul_sub, Int.mul_one] at c
    omega
theorem col_split (N : List (List Int)) (b : Int) (k : Nat) : carI N b k + colS N k = figI N b k + b * carI N b (k + 1) := by
  unfold figI; rw [carI]; exact (Int.emod_add_mul_ediv _ _).symm
/-- worth -/
def worthI (b : Int) : List Int → Int
  | [] => 0
  | x :: xs => worthI b xs * b + x
theorem worth_sum (b : Int) : ∀ xs : List Int, worthI b xs = sumR xs.length fun k => xs.getD k 0 * b ^ k
  | [] => rfl
  | x :: xs => by
    rw [worthI, worth_sum b xs, List.length_cons, sumR_front, ← sumR_mulr]
    rw [Int.add_comm]
    congr 1
    · show x = x * b ^ 0
      rw [Int.pow_zero, Int.mul_one]
    · exact sumR_congr fun k _ => by
        show xs.getD k 0 * b ^ k * b = xs.getD k 0 * b ^ (k + 1)
        rw [Int.pow_succ, Int.mul_assoc]
theorem worth_app (b x : Int) (xs : List Int) : worthI b (xs ++ [x]) = worthI b xs + x * b ^ xs.length := by
  rw [worth_sum, worth_sum, List.length_append, List.length_singleton, sumR_succ]
  congr 1
  · exact sumR_congr fun k hk => by
      rw [List.getD_eq_getElem?_getD, List.getD_eq_getElem?_getD, List.getElem?_append_left hk]
  · rw [List.getD_eq_getElem?_getD, List.getElem?_append_right (Nat.le_refl _), Nat.sub_self]; rfl
theorem worth_cols {b : Int} {n : Nat} : ∀ {N : List (List Int)}, (∀ r ∈ N, r.length = n) → (N.map (worthI b)).sum = sumR n fun k => colS N k * b ^ k
  | [], _ => (sumR_zeros fun k _ => by unfold colS; simp).symm
  | r :: N, h => by
    rw [List.map_cons, List.sum_cons, worth_cols fun r hr => h r (List.mem_cons_of_mem _ hr), worth_sum, h r List.mem_cons_self, ← sumR_add]
    exact sumR_congr fun k _ => by
      unfold colS
      rw [List.map_cons, List.sum_cons, Int.add_mul]
theorem worth_figs (N : List (List Int)) (b : Int) : ∀ n : Nat, (sumR n fun k => figI N b k * b ^ k) + carI N b n * b ^ n = sumR n fun k => colS N k * b ^ k
  | 0 => by rw [carI]; simp
  | n + 1 => by
    rw [sumR_succ, sumR_succ, ← worth_figs N b n, Int.pow_succ]
    have := col_split N b n
    have e : colS N n = figI N b n + b * carI N b (n + 1) - carI N b n := by omega
    rw [e, Int.sub_mul, Int.add_mul]
    have : carI N b (n + 1) * (b ^ n * b) = b * carI N b (n + 1) * b ^ n := by
      rw [Int.mul_comm (b ^ n) b, ← Int.mul_assoc, Int.mul_comm (carI N b (n + 1)) b]
    omega
theorem worth_all {N : List (List Int)} {b : Int} {n : Nat} (h : ∀ r ∈ N, r.length = n) : worthI b (figsI N b n ++ [carI N b n]) = (N.map (worthI b)).sum := by
  rw [worth_app, worth_cols h, ← worth_figs, worth_sum, figsI_length]
  congr 1
  exact sumR_congr fun k hk => by rw [figsI_getD hk]
theorem worth_turn {b : Int} {xs : List Int} {i : Nat} {x : Int} (e : xs[xs.length - 1 - i]? = some x) (hi : i < xs.length) : worthI b (xs.drop (xs.length - i)) * b + x = worthI b (xs.drop (xs.length - (i + 1))) := by
  have h : xs.drop (xs.length - (i + 1)) = x :: xs.drop (xs.length - i) := by
    have hl : xs.length - (i + 1) < xs.length := by omega
    rw [List.drop_eq_getElem_cons hl]
    congr 1
    · rw [show xs.length - 1 - i = xs.length - (i + 1) by omega, List.getElem?_eq_getElem hl] at e
      exact Option.some.inj e
    · congr 1; omega
  rw [h]; rfl
theorem figs_nil (b : Int) (n : Nat) : Figs [] b n := ⟨(fun _ h => nomatch h), (fun _ h => nomatch h)⟩
theorem figs_app {N : List (List Int)} {b : Int} {n : Nat} {r : List Int} (h : Figs N b n) (hr : r.length = n) (hx : ∀ x ∈ r, 0 ≤ x ∧ x < b) : Figs (N ++ [r]) b n :=
  ⟨fun q hq => by
    rcases List.mem_append.mp hq with hq | hq
    · exact h.len q hq
    · rw [List.mem_singleton.mp hq]; exact hr, fun q hq => by
    rcases List.mem_append.mp hq with hq | hq
    · exact h.fig q hq
    · rw [List.mem_singleton.mp hq]; exact hx⟩
theorem all_app {P : Int → Prop} {l : List Int} {x : Int} (h : ∀ y ∈ l, P y) (hx : P x) : ∀ y ∈ l ++ [x], P y := fun y hy => by
  rcases List.mem_append.mp hy with hy | hy
  · exact h y hy
  · rw [List.mem_singleton.mp hy]; exact hx
theorem worth_bdA {N : List (List Int)} {b : Int} {n : Nat} (hb : 0 < b) (hb2 : b ≤ 1000000000000000000000000000000) (hN : N.length ≤ 60) (hc : ∀ k, 0 ≤ carI N b k ∧ carI N b k < (N.length : Int)) (k : Nat) : ∀ x ∈ figsI N b n ++ [carI N b k], Bd 100 x := by
  refine all_app (fun y hy => ?_) ?_
  · obtain ⟨j, _, rfl⟩ := List.mem_map.mp hy
    have h1 := Int.emod_nonneg (carI N b j + colS N j) (show b ≠ 0 by omega)
    have h2 := Int.emod_lt_of_pos (carI N b j + colS N j) hb
    exact ⟨by unfold figI; omega⟩
  · have := hc k
    exact ⟨by omega⟩
end Rc
namespace Rc
open PySem PySem.Spec PyProof.Rows L2
/-! numbers of figures, good and spoilt -/
def goodF (N : List (List V)) (b : Int) : Prop := 1 ≤ N.length ∧ ∀ r ∈ N, r.length = (N.getD 0 []).length ∧ ∀ v ∈ r, wordPart (Int.toNat b) v = true
theorem wp_sca {m : Nat} {v : V} (h : wordPart m v = true) : sca v = true := by
  cases v with
  | int z => rfl
  | _ => cases h
theorem goodF_sca {N : List (List V)} {b : Int} (h : goodF N b) : ∀ r ∈ N, Sca r := fun r hr v hv => wp_sca ((h.2 r hr).2 v hv)
theorem goodF_figs {N : List (List Int)} {b : Int} {n : Nat} (h : Figs N b n) (h1 : 1 ≤ N.length) : goodF (N.map (List.map V.int)) b := by
  have e : ((N.map (List.map V.int)).getD 0 []).length = n := by
    match N, h1 with
    | r :: N, _ =>
      show (r.map V.int).length = n
      rw [List.length_map]; exact h.len _ List.mem_cons_self
  refine ⟨by rw [List.length_map]; exact h1, fun r hr => ?_⟩
  obtain ⟨q, hq, rfl⟩ := List.mem_map.mp hr
  refine ⟨by rw [e, List.length_map]; exact h.len _ hq, fun v hv => ?_⟩
  obtain ⟨x, hx, rfl⟩ := List.mem_map.mp hv
  have := h.fig _ hq _ hx
  show (decide (0 ≤ x) && decide (x < ((Int.toNat b : Nat) : Int))) = true
  rw [decide_eq_true (by omega), decide_eq_true (by omega)]; rfl
theorem goodF_row {N : List (List V)} {b : Int} (h : goodF N b) {i : Nat} (hi : i < N.length) : (N.getD i []).length = (N.getD 0 []).length := (h.2 _ (getD_mem hi)).1
theorem bad_nil {b : Int} : ¬ goodF [] b := fun h => absurd h.1 (by decide)
theorem bad_last {N : List (List V)} {b : Int} {r : List V} (h : 1 ≤ N.length) (hr : r.length ≠ (N.getD 0 []).length) : ¬ goodF (N ++ [r]) b := fun g => by
  have := (g.2 r (by simp)).1
  match N, h with
  | q :: N, _ => exact hr this
theorem bad_set {N : List (List V)} {b : Int} {r : List V} {i : Nat} (h : 1 < N.length) (g : goodF N b) (hi : i < N.length) (hr : r.length ≠ (N.getD 0 []).length) : ¬ goodF (N.set i r) b := fun g' => by
  have hl : (N.set i r).length = N.length := List.length_set ..
  have hmi : r ∈ N.set i r := List.mem_iff_getElem.mpr ⟨i, by omega, List.getElem_set_self ..⟩
  have h1 := (g'.2 r hmi).1
  by_cases e : i = 0
  · subst e
    have hm1 : (N[1]'h) ∈ N.set 0 r := List.mem_iff_getElem.mpr ⟨1, by omega, by rw [List.getElem_set_ne (by omega)]⟩
    have h2 := (g'.2 _ hm1).1
    have h3 := (g.2 _ (List.getElem_mem h)).1
    omega
  · have : (N.set i r).getD 0 [] = N.getD 0 [] := by
      rw [List.getD_eq_getElem?_getD, List.getD_eq_getElem?_getD, List.getElem?_set_ne e]
    rw [this] at h1
    exact hr h1
theorem bad_part {N : List (List V)} {b : Int} {r : List V} {i : Nat} {v : V} (hi : i < N.length) (hv : v ∈ r) (hw : wordPart (Int.toNat b) v = false) : ¬ goodF (N.set i r) b := fun g' => by
  have hmi : r ∈ N.set i r := List.mem_iff_getElem.mpr ⟨i, by rw [List.length_set]; exact hi, List.getElem_set_self ..⟩
  have := (g'.2 r hmi).2 v hv
  rw [hw] at this; cases this
theorem set_mem {α : Type} {l : List α} {i : Nat} {x : α} (h : i < l.length) : x ∈ l.set i x := List.mem_iff_getElem.mpr ⟨i, by rw [List.length_set]; exact h, List.getElem_set_self ..⟩
theorem take_step {α : Type} {P : α → Prop} {l : List α} {i : Nat} {x : α} (h : ∀ y ∈ l.take i, P y) (e : l[i]? = some x) (hx : P x) : ∀ y ∈ l.take (i + 1), P y := fun y hy => by
  rw [take_next e] at hy
  rcases List.mem_append.mp hy with hy | hy
  · exact h y hy
  · rw [List.mem_singleton.mp hy]; exact hx
theorem take_nil {α : Type} {P : α → Prop} {l : List α} : ∀ y ∈ l.take 0, P y := fun y hy => by rw [List.take_zero] at hy; cases hy
theorem take_fin {α : Type} {P : α → Prop} {l : List α} (h : ∀ y ∈ l.take l.length, P y) : ∀ y ∈ l, P y := by rwa [List.take_length] at h
theorem wp_is {m : Int} {z : Int} (h : ¬ z < 0) (h' : ¬ m ≤ z) : wordPart (Int.toNat m) (V.int z) = true := by
  show (decide (0 ≤ z) && decide (z < ((Int.toNat m : Nat) : Int))) = true
  rw [decide_eq_true (by omega), decide_eq_true (by omega)]; rfl
theorem all9 {b c : Int} (hb : 2 ≤ b) (hc : 0 ≤ c) : ∀ v ∈ ([V.int b, V.int (b + c), V.int (-1), V.int (-1 - c), V.bl true, V.bl false, V.non, V.str "1", V.str "0"] : List V), wordPart (Int.toNat b) v = false := by
  intro v hv
  rcases List.mem_cons.mp hv with rfl | hv
  · exact wp_big (by omega)
  rcases List.mem_cons.mp hv with rfl | hv
  · exact wp_big (by omega)
  rcases List.mem_cons.mp hv with rfl | hv
  · exact wp_neg (by omega)
  rcases List.mem_cons.mp hv with rfl | hv
  · exact wp_neg (by omega)
  rcases List.mem_cons.mp hv with rfl | hv
  · rfl
  rcases List.mem_cons.mp hv with rfl | hv
  · rfl
  rcases List.mem_cons.mp hv with rfl | hv
  · rfl
  rcases List.mem_cons.mp hv with rfl | hv
  · rfl
  rcases List.mem_cons.mp hv with rfl | hv
  · rfl
  cases hv
theorem sca9 {b c : Int} : Sca ([V.int b, V.int (b + c), V.int (-1), V.int (-1 - c), V.bl true, V.bl false, V.non, V.str "1", V.str "0"] : List V) :=
  Sca.cons rfl (Sca.cons rfl (Sca.cons rfl (Sca.cons rfl (Sca.cons rfl (Sca.cons rfl (Sca.cons rfl (Sca.cons (by decide +kernel) (Sca.cons (by decide +kernel) Sca.nil))))))))
/-- rows fit to be compared and walked -/
def FitV (N : List (List V)) : Prop := ∀ r ∈ N, Sca r ∧ r.length ≤ 100
theorem FitV.app {N : List (List V)} {r : List V} (h : FitV N) (hr : Sca r) (hl : r.length ≤ 100) : FitV (N ++ [r]) := fun q hq => by
  rcases List.mem_append.mp hq with hq | hq
  · exact h q hq
  · rw [List.mem_singleton.mp hq]; exact ⟨hr, hl⟩
theorem FitV.set {N : List (List V)} {r : List V} {i : Nat} (h : FitV N) (hr : Sca r) (hl : r.length ≤ 100) : FitV (N.set i r) := fun q hq => by
  rcases List.mem_or_eq_of_mem_set hq with hq | rfl
  · exact h q hq
  · exact ⟨hr, hl⟩
theorem FitV.row {N : List (List V)} {i : Nat} (h : FitV N) (hi : i < N.length) : Sca (N.getD i []) ∧ (N.getD i []).length ≤ 100 := h _ (getD_mem hi)
theorem FitV.sca {N : List (List V)} (h : FitV N) : ∀ r ∈ N, Sca r := fun r hr => (h r hr).1
theorem FitV.nil : FitV [] := fun _ h => nomatch h
theorem Sca.cut {xs : List V} {lo hi : Option Int} (h : Sca xs) : Sca (cutL xs lo hi) := fun v hv => h v (List.mem_of_mem_drop (List.mem_of_mem_take hv))
theorem Sca.set {xs : List V} {i : Nat} {v : V} (h : Sca xs) (hv' : sca v = true) : Sca (xs.set i v) := fun w hw => by
  rcases List.mem_or_eq_of_mem_set hw with hw | rfl
  · exact h w hw
  · exact hv'
theorem goodF_fit {N : List (List V)} {b : Int} (h : goodF N b) (hl : (N.getD 0 []).length ≤ 60) : FitV N := fun r hr => ⟨goodF_sca h r hr, by rw [(h.2 r hr).1]; omega⟩
theorem cut_drop1 {α : Type} {xs : List α} (h : 1 ≤ xs.length) : (cutL xs (some 1) none).length = xs.length - 1 := cut_hi_len (by decide) (by omega)
theorem cut_last1 {α : Type} {xs : List α} (h : 1 ≤ xs.length) : (cutL xs none (some (-1))).length = xs.length - 1 := by
  rw [cutL_length]
  show min ((if (-1 : Int) < 0 then ((-1 : Int) + (xs.length : Int)).toNat else min (-1 : Int).toNat xs.length) - 0) (xs.length - 0) = _
  rw [if_pos (by decide)]; omega
end Rc
namespace Rc
open PySem PySem.Spec PyProof.Rows L2
/-! marks of heaps, among any scalars -/
def isBlV : V → Bool
  | .bl _ => true
  | _ => false
def marksV (m : List V) : Bool := decide (1 ≤ m.length ∧ m.length ≤ 400) && m.all isBlV
theorem marksV_len {m : List V} (h : ¬ (1 ≤ m.length ∧ m.length ≤ 400)) : false = marksV m := by unfold marksV; rw [decide_eq_false h]; rfl
theorem marksV_no {m : List V} {i : Nat} {v : V} (e : m[i]? = some v) (h : isBlV v = false) : false = marksV m := by
  unfold marksV
  have : m.all isBlV = false := by
    rw [Bool.eq_false_iff]
    intro z
    have := List.all_eq_true.mp z v (List.mem_of_getElem? e)
    rw [h] at this
    cases this
  rw [this, Bool.and_false]
theorem marksV_all {m : List V} (h : 1 ≤ m.length ∧ m.length ≤ 400) (ha : ∀ w ∈ m.take m.length, isBlV w = true) : true = marksV m := by
  unfold marksV
  rw [List.take_length] at ha
  rw [decide_eq_true h, List.all_eq_true.mpr ha]; rfl
theorem bools_of : ∀ {m : List V}, m.all isBlV = true → ∃ u : List Bool, m = u.map V.bl
  | [], _ => ⟨[], rfl⟩
  | v :: m, h => by
    rw [List.all_cons, Bool.and_eq_true] at h
    obtain ⟨u, rfl⟩ := bools_of h.2
    cases v with
    | bl b => exact ⟨b :: u, rfl⟩
    | _ => cases h.1
theorem marksV_bools {m : List V} (h : marksV m = true) : ∃ u : List Bool, m = u.map V.bl := by
  unfold marksV at h
  rw [Bool.and_eq_true] at h
  exact bools_of h.2
theorem bls_all : ∀ u : List Bool, (u.map V.bl).all isBlV = true
  | [] => rfl
  | b :: u => by rw [List.map_cons, List.all_cons, bls_all u]; rfl
theorem marksV_bls {u : List Bool} (h : 1 ≤ u.length ∧ u.length ≤ 400) : marksV (u.map V.bl) = true := by
  unfold marksV
  rw [bls_all, decide_eq_true (by rw [List.length_map]; exact h)]; rfl
/-- no number of cards -/
def badN (v : V) : Prop := ∀ i : Int, v = .int i → i < 1 ∨ 60 < i
theorem blV_t {v : V} (h : is_bool v = true) : isBlV v = true := by cases v <;> simp_all [is_bool, isBlV]
theorem blV_f {v : V} (h : is_bool v = false) : isBlV v = false := by cases v <;> simp_all [is_bool, isBlV]
theorem badR {u : List Bool} {w : List V} {n : Int} (h : marksV (u.map V.bl) = false ∨ isWordV (u.map V.bl).length w n = false) (hm : marksV (u.map V.bl) = true) : isWordV u.length w n = false := by
  rcases h with h | h
  · rw [hm] at h
    cases h
  · rwa [List.length_map] at h
def ThingB (H : Hp) (v : V) : Prop := sca v = true ∨ ∃ a xs, v = .ref a ∧ (H a = some (.lst xs) ∨ H a = some (.tup xs))
theorem ThingB.at {K : PySem.W.Frag} {Hm H : Hp} {v : V} (h : ThingB Hm v) (s : Same Hm H) : Thing K H v := by
  rcases h with h | ⟨a, xs, rfl, h | h⟩
  · exact Thing.sca h
  · exact Thing.lst (s _ _ h)
  · exact Thing.tup (s _ _ h)
theorem ThingB.mono {Hm H : Hp} {v : V} (h : ThingB Hm v) (s : Same Hm H) : ThingB H v := by
  rcases h with h | ⟨a, xs, rfl, h | h⟩
  · exact .inl h
  · exact .inr ⟨a, xs, rfl, .inl (s _ _ h)⟩
  · exact .inr ⟨a, xs, rfl, .inr (s _ _ h)⟩
theorem badN_int {i : Int} (h : i < 1 ∨ 60 < i) : badN (.int i) := fun j e => by
  cases e
  exact h
theorem badN_no {v : V} (h : ∀ i : Int, v = .int i → False) : badN v := fun i e => (h i e).elim
theorem bad5 {i : Int} (h : 0 ≤ i ∧ i < 5) : isBlV (([V.int 0, V.int 1, V.non, V.str "t", V.int (-1)] : List V).getD i.toNat V.non) = false ∧ sca (([V.int 0, V.int 1, V.non, V.str "t", V.int (-1)] : List V).getD i.toNat V.non) = true := by
  rcases (show i = 0 ∨ i = 1 ∨ i = 2 ∨ i = 3 ∨ i = 4 by omega) with rfl | rfl | rfl | rfl | rfl <;> exact ⟨by decide +kernel, by decide +kernel⟩
theorem marksV_mem {m : List V} {v : V} (hv : v ∈ m) (h : isBlV v = false) : marksV m = false := by
  obtain ⟨i, hi, e⟩ := List.mem_iff_getElem.mp hv
  exact (marksV_no (i := i) (by rw [List.getElem?_eq_getElem hi, e]) h).symm
theorem badMarks {t : V} {b : Bool} {n : Nat} (h : isBlV t = false ∧ sca t = true) (hn : 401 ≤ n ∧ n ≤ 900) :
    ∀ r ∈ ([[], (List.replicate n false).map V.bl, ([b, true] : List Bool).map V.bl ++ [t], [t] ++ ([b, true] : List Bool).map V.bl, ((cutL [b, true] none (some 1)).map V.bl ++ [t]) ++ ([b, true] : List Bool).map V.bl] : List (List V)), Sca r ∧ r.length ≤ 1000 ∧ marksV r = false := by
  intro r hr
  have ht : Sca [t] := Sca.cons h.2 Sca.nil
  rcases List.mem_cons.mp hr with rfl | hr
  · exact ⟨Sca.nil, Nat.zero_le _, by decide⟩
  rcases List.mem_cons.mp hr with rfl | hr
  · exact ⟨Sca.bls _, by rw [List.length_map, List.length_replicate]; omega, (marksV_len (by rw [List.length_map, List.length_replicate]; omega)).symm⟩
  rcases List.mem_cons.mp hr with rfl | hr
  · exact ⟨Sca.app (Sca.bls _) ht, by simp, marksV_mem (by simp) h.1⟩
  rcases List.mem_cons.mp hr with rfl | hr
  · exact ⟨Sca.app ht (Sca.bls _), by simp, marksV_mem (by simp) h.1⟩
  rcases List.mem_cons.mp hr with rfl | hr
  · have hc : (cutL [b, true] none (some 1)).length ≤ 2 := by
      have := cutL_length [b, true] none (some 1)
      simp at this ⊢
      omega
    refine ⟨Sca.app (Sca.app (Sca.bls _) ht) (Sca.bls _), ?_, marksV_mem (by simp) h.1⟩
    rw [List.length_append, List.length_append, List.length_map, List.length_map]
    simp only [List.length_cons, List.length_nil]
    omega
  · cases hr
theorem bad8 {m c i : Int} (hm : 1 ≤ m) (hc : 0 ≤ c) (hi : 0 ≤ i ∧ i < 8) :
    wordPart (Int.toNat m) (([V.int m, V.int (m + c), V.int (-1), V.int (-1 - c), V.bl true, V.bl false, V.non, V.str "0"] : List V).getD i.toNat V.non) = false ∧ sca (([V.int m, V.int (m + c), V.int (-1), V.int (-1 - c), V.bl true, V.bl false, V.non, V.str "0"] : List V).getD i.toNat V.non) = true := by
  rcases (show i = 0 ∨ i = 1 ∨ i = 2 ∨ i = 3 ∨ i = 4 ∨ i = 5 ∨ i = 6 ∨ i = 7 by omega) with rfl | rfl | rfl | rfl | rfl | rfl | rfl | rfl
  · exact ⟨wp_big (by omega), rfl⟩
  · exact ⟨wp_big (by omega), rfl⟩
  · exact ⟨wp_neg (by omega), rfl⟩
  · exact ⟨wp_neg (by omega), rfl⟩
  · exact ⟨wordPart_no rfl, rfl⟩
  · exact ⟨wordPart_no rfl, rfl⟩
  · exact ⟨wordPart_no rfl, rfl⟩
  · exact ⟨wordPart_no rfl, (by decide +kernel : sca (V.str "0") = true)⟩
theorem isWordV_mem' {m : Nat} {w : List V} {n : Int} {v : V} (hv : v ∈ w) (h : wordPart m v = false) : isWordV m w n = false := by
  unfold isWordV
  have : w.all (wordPart m) = false := by
    rw [Bool.eq_false_iff]
    intro z
    have := List.all_eq_true.mp z v hv
    rw [h] at this
    cases this
  rw [this, Bool.and_false]
theorem isWordV_len' {m : Nat} {w : List V} {n : Int} (h : (w.length : Int) ≠ n) : isWordV m w n = false := by
  unfold isWordV
  rw [decide_eq_false h, Bool.false_and]
theorem badWords {t : V} {m n k : Int} {w : List Int} (h : wordPart (Int.toNat m) t = false ∧ sca t = true) (hl : (w.length : Int) = n) (hn : 1 ≤ n ∧ n ≤ 60) (hk : 0 ≤ k ∧ k < n) :
    ∀ r ∈ ([((cutL w none (some k)).map V.int ++ [t]) ++ (cutL w (some (k + 1)) none).map V.int, (w ++ [0]).map V.int, (cutL w (some 1) none).map V.int, [t] ++ (cutL w (some 1) none).map V.int] : List (List V)), Sca r ∧ r.length ≤ 1000 ∧ isWordV (Int.toNat m) r n = false := by
  intro r hr
  have ht : Sca [t] := Sca.cons h.2 Sca.nil
  have l1 := cut_lo_len (xs := w) (i := k) hk.1 (by omega)
  have l2 := cut_hi_len (xs := w) (i := k + 1) (by omega) (by omega)
  have l3 := cut_drop1 (xs := w) (by omega)
  rcases List.mem_cons.mp hr with rfl | hr
  · refine ⟨Sca.app (Sca.app (Sca.ints _) ht) (Sca.ints _), ?_, isWordV_mem' (by simp) h.1⟩
    rw [List.length_append, List.length_append, List.length_map, List.length_map, l1, l2]
    simp only [List.length_cons, List.length_nil]
    omega
  rcases List.mem_cons.mp hr with rfl | hr
  · refine ⟨Sca.ints _, ?_, isWordV_len' ?_⟩
    · rw [List.length_map, List.length_append]
      simp only [List.length_cons, List.length_nil]
      omega
    · rw [List.length_map, List.length_append]
      simp only [List.length_cons, List.length_nil]
      omega
  rcases List.mem_cons.mp hr with rfl | hr
  · refine ⟨Sca.ints _, ?_, isWordV_len' ?_⟩
    · rw [List.length_map, l3]
      omega
    · rw [List.length_map, l3]
      omega
  rcases List.mem_cons.mp hr with rfl | hr
  · refine ⟨Sca.app ht (Sca.ints _), ?_, isWordV_mem' (by simp) h.1⟩
    rw [List.length_append, List.length_map, l3]
    simp only [List.length_cons, List.length_nil]
    omega
  · cases hr
/-! lists of riffles as deep data -/
def dPC (e : PC) : PyData := .tuple [dB e.1, dI e.2]
theorem dp_pstAll {K : PySem.W.Frag} {H : Hp} : ∀ {es : List PE}, PesAt H es → DpAll K H (es.map peRef) ((es.map peC).map dPC)
  | [], _ => .nil
  | e :: es, h => by
    have hm : e ∈ e :: es := List.mem_cons_self
    refine .cons (Dp.tup (SqT.of (h.t hm)) (.cons (dp_bls (h.m hm)) (.cons (dp_ints (h.w hm)) .nil))) (dp_pstAll (es := es) fun z hz => h z ?_)
    exact List.mem_append_right _ hz
theorem dp_pst {K : PySem.W.Frag} {H : Hp} {a : Addr} {es : List PE} {C : List PC} (h : PstAt H a es C) : Dp K H (.ref a) (.list (C.map dPC)) := by
  rw [← h.c]
  exact .lst (SqL.of h.e) (dp_pstAll h.r)
theorem okd_pst {n : Nat} (C : List PC) : Okd (n + 3) (.list (C.map dPC)) := okd_tab fun x => okt_cons (okd_bls x.1) (okt_cons (okd_ints x.2) okt_nil)
/-! the pack after some riffles; some of them undone -/
structure PkU (n i : Nat) (k : PK) : Prop where
  order : k.order = ordTo n k.past
  ok : PkOk n k.past
  len : k.past.length = i
structure PkS (n i : Nat) (k : PK) : Prop where
  u : PkU n i k
  hp : heapsP k.past ≤ 4 ^ i
section
variable {n i : Nat} {k k' : PK} {m : List Bool} {w : List Int}
theorem PkU.olen (h : PkU n i k) : k.order.length = n := by rw [h.order, ordTo_len h.ok]
theorem PkU.okO (h : PkU n i k) : PkOk k.order.length k.past := by rw [h.olen]; exact h.ok
theorem PkS.start {N : Int} (h0 : 1 ≤ N) (h1 : k.order = upto (Int.toNat N)) (h2 : k.past = []) : PkS (Int.toNat N) 0 k := by
  refine ⟨⟨?_, ?_, ?_⟩, ?_⟩
  · rw [h1, h2]; rfl
  · rw [h2]; exact PkOk.nil
  · rw [h2]; rfl
  · rw [h2]; exact Nat.le_refl _
theorem PkS.riffle (h : PkS n i k) (hm : 1 ≤ m.length ∧ m.length ≤ 4) (hl : w.length = n) (hw : IsW m.length w) (h1 : k'.order = riffleI k.order m w) (h2 : k'.past = k.past ++ [(m, w)]) : PkS n (i + 1) k' := by
  refine ⟨⟨?_, ?_, ?_⟩, ?_⟩
  · rw [h1, h2, ordTo_app, h.u.order]
  · rw [h2]; exact h.u.ok.app (by omega) hl hw
  · rw [h2, List.length_append, h.u.len]; rfl
  · rw [h2, heapsP_app, Nat.pow_succ]
    exact Nat.mul_le_mul h.hp hm.2
theorem PkU.last (h : PkU n (i + 1) k) (hn : n ≤ 60) : 0 < k.past.length ∧ IsW (k.past.getLastD ([], [])).1.length (k.past.getLastD ([], [])).2 ∧ (k.past.getLastD ([], [])).2.length = k.order.length ∧ (k.past.getLastD ([], [])).1.length ≤ 400 ∧ k.order.length ≤ 60 := by
  have hp : 0 < k.past.length := by rw [h.len]; omega
  have hl := h.ok.last hp
  refine ⟨hp, hl.2.2.2, ?_, hl.2.1, ?_⟩
  · rw [hl.2.2.1, h.olen]
  · rw [h.olen]; exact hn
theorem PkU.undo (h : PkU n (i + 1) k) (h1 : k'.order = undoneI k.order (k.past.getLastD ([], [])).1 (k.past.getLastD ([], [])).2) (h2 : k'.past = k.past.dropLast) : PkU n i k' := by
  have hp : 0 < k.past.length := by rw [h.len]; omega
  refine ⟨?_, ?_, ?_⟩
  · rw [h1, h2, h.order]; exact ordTo_undo h.ok hp
  · rw [h2]; exact h.ok.pop
  · rw [h2, List.length_dropLast, h.len]; rfl
theorem PkU.none (h : PkU n 0 k) : k.past = [] ∧ k.order = upto n := by
  have e := List.eq_nil_of_length_eq_zero h.len
  exact ⟨e, by rw [h.order, e]; rfl⟩
end
theorem pow4 {i : Nat} (h : i ≤ 3) : 4 ^ i ≤ 400 := by
  rcases (show i = 0 ∨ i = 1 ∨ i = 2 ∨ i = 3 by omega) with rfl | rfl | rfl | rfl <;> decide
theorem zeros_isW (n : Nat) : IsW 1 (List.replicate n (0 : Int)) := fun x hx => by
  rw [List.eq_of_mem_replicate hx]
  exact ⟨by omega, by omega⟩
theorem riffle_rev (n : Nat) : riffleI (upto n) [true] (List.replicate n 0) = ((List.range n).map fun i : Nat => (i : Int)).reverse := by
  rw [riff_first (ms := [true]) (w := List.replicate n 0) (zeros_isW n) List.length_replicate, ← down_rev]
  unfold numI
  rw [List.length_replicate]
  refine List.map_congr_left fun j hj => ?_
  have hj := List.mem_range.mp hj
  have e1 : (List.replicate n (0 : Int)).getD j 0 = 0 := by
    rw [List.getD_eq_getElem?_getD, List.getElem?_replicate]
    split <;> rfl
  unfold numAt topI cntI
  rw [e1, List.take_replicate, Nat.min_eq_left (by omega)]
  rw [show ((0 : Int).toNat : Nat) = 0 from rfl, if_pos (by rfl)]
  rw [show startI (List.replicate n (0 : Int)) 0 = 0 from rfl, show ((0 : Nat) : Int) = (0 : Int) from rfl, List.count_replicate_self, List.count_replicate_self]
  omega
end Rc
namespace Rc
open PySem PySem.Spec PyProof.Rows L2 Evl

local macro_rules | `(tactic| walk_at "sca") => `(tactic| first | assumption | exact Sca.ints _ | exact Sca.bls _ | rfl | decide | exact Sca.cons (by decide +kernel) Sca.nil | (simp_all; done))
local macro_rules | `(tactic| walk_at "side") => `(tactic| first | omega | assumption | (simp only [List.length_map, List.length_range, List.length_append, List.length_cons, List.length_nil, cutL_length]; omega) | (simp only [List.length_map, List.length_range, List.length_append, List.length_cons, List.length_nil] at *; omega) | (simp at *; omega))
local macro_rules | `(tactic| walk_at "size") => `(tactic| first | (refine Evl.sz_lt ?_; simp only [List.length_map, List.length_range, List.length_append, List.length_cons, List.length_nil, cutL_length, List.length_set, List.length_replicate, List.length_reverse]; omega) | (refine Evl.sz_of ?_; simp only [List.length_map, List.length_range, List.length_append, List.length_cons, List.length_nil, cutL_length, List.length_set, List.length_replicate, List.length_reverse]; omega) | (refine Evl.sz_lt ?_; simp; omega) | (refine Evl.sz_of ?_; simp; omega))
local macro_rules | `(tactic| walk_at "tsize") => `(tactic| (refine Evl.sz_lt ?_; simp only [List.length_map, List.length_append, List.length_cons, List.length_nil]; first | omega | (rw [snd_len (by assumption)]; omega)))
local macro_rules | `(tactic| walk_at "csize") => `(tactic| first | (refine Evl.sz_lt ?_; simp only [List.length_map, List.length_take, List.length_range]; omega) | (refine Evl.sz_lt ?_; simp only [List.length_map]; refine Nat.lt_of_le_of_lt (List.length_filter_le _ _) ?_; simp only [List.length_take, List.length_range]; omega))
local macro_rules | `(tactic| walk_at "inv") => `(tactic| first | omega | assumption | rfl | (simp only [List.length_append, List.length_cons, List.length_nil, List.length_set]; omega) | (simp; omega) | simp_all)
local macro_rules | `(tactic| walk_at "post") => `(tactic| first | rfl | assumption | omega | (simp_all; done) | (simp_all; omega))
local macro_rules | `(tactic| walk_at "mul") => `(tactic| first | exact .inl (by omega) | exact .inr (by omega))
local macro_rules | `(tactic| walk_at "txl") => `(tactic| first | omega | (simp only [List.length_append, List.length_cons, List.length_nil]; omega) | (simp only [List.length_append, List.length_cons, List.length_nil] at *; omega) | (simp; omega))
local macro_rules | `(tactic| walk_at "log") => `(tactic| exact log_lt (by omega))
local macro_rules | `(tactic| walk_at "div") => `(tactic| exact ⟨by omega, by omega⟩)
local macro_rules | `(tactic| walk_at "widediv") => `(tactic| first | exact ⟨by omega, wl_of (by omega) (by omega)⟩)
local macro_rules | `(tactic| walk_at "rgok") => `(tactic| exact ⟨by omega, by omega, by omega, by omega, by omega⟩)
local macro_rules | `(tactic| walk_at "rgc") => `(tactic| omega)
local macro_rules | `(tactic| walk_at "comp") => `(tactic| first | (simp_all; done) | (simp_all; omega) | grind)
def topS (i : Nat) : Stmt := PySem.Challenge.pw_riftcarry_k43_what_a_pack_refuses.main.body.getD i (.Pass ⟨0, 0, 0, 0⟩)
abbrev s_law_cell_at : Stmt := topS 31
abbrev s_first : Stmt := topS 13
abbrev s_is_whole : Stmt := topS 10
abbrev s_Pack___init : Stmt := inClass (topS 29) 0
abbrev s_is_word : Stmt := topS 15
abbrev s_must_be_word : Stmt := topS 16
abbrev s_sizes : Stmt := topS 17
abbrev s_numbers_in : Stmt := topS 18
abbrev s_riffled : Stmt := topS 19
abbrev s_are_marks : Stmt := topS 28
abbrev s_Pack_riffle : Stmt := inClass (topS 29) 1
abbrev s_Pack_order : Stmt := inClass (topS 29) 3
abbrev s_Pack_done : Stmt := inClass (topS 29) 4
abbrev s_check : Stmt := topS 24
abbrev s_turned_about : Stmt := topS 22
abbrev s_joined : Stmt := topS 25
abbrev s_joined_marks : Stmt := topS 23
abbrev s_Pack_whole : Stmt := inClass (topS 29) 5
abbrev s_undone : Stmt := topS 20
abbrev s_Pack_undo : Stmt := inClass (topS 29) 2
abbrev s_law_words : Stmt := topS 37
abbrev s_law_refused : Stmt := topS 39
abbrev s_law_mixed : Stmt := topS 32
abbrev s_law_marks : Stmt := topS 34
abbrev s_law_bad_marks : Stmt := topS 40
abbrev s_law_bad_words : Stmt := topS 41
abbrev s_law_word : Stmt := topS 35
abbrev s_law_no_pack : Stmt := topS 38
abbrev s_law_packs : Stmt := topS 42
abbrev s_law : Stmt := topS 43
structure Txt (K : PySem.W.Frag) (mg : Str → Option Value) where
  C_Pack : Addr
  cl_Pack : Cls K C_Pack
  mg_Pack : mg "Pack" = some (.ref C_Pack)
  na_Pack_cards : NoAttr K C_Pack "cards"
  na_Pack_past : NoAttr K C_Pack "past"
  f_law_cell_at : Addr
  fd_law_cell_at : FuncData
  F_law_cell_at : Fun K "_law_cell_at" "_law_cell_at" s_law_cell_at f_law_cell_at fd_law_cell_at
  g_law_cell_at : mg "_law_cell_at" = some (.ref f_law_cell_at)
  b_law_cell_at : Binds K fd_law_cell_at ["_law_script", "_law_k"] []
  f_first : Addr
  fd_first : FuncData
  F_first : Fun K "first" "first" s_first f_first fd_first
  g_first : mg "first" = some (.ref f_first)
  b_first : Binds K fd_first ["n"] []
  f_is_whole : Addr
  fd_is_whole : FuncData
  F_is_whole : Fun K "is_whole" "is_whole" s_is_whole f_is_whole fd_is_whole
  g_is_whole : mg "is_whole" = some (.ref f_is_whole)
  b_is_whole : Binds K fd_is_whole ["thing"] []
  f_Pack___init : Addr
  fd_Pack___init : FuncData
  F_Pack___init : Fun K "__init__" "Pack.__init__" s_Pack___init f_Pack___init fd_Pack___init
  m_Pack___init : Meth K C_Pack "__init__" f_Pack___init
  mk_Pack : Mk K C_Pack f_Pack___init
  b_Pack___init : Binds K fd_Pack___init ["self", "n"] []
  f_is_word : Addr
  fd_is_word : FuncData
  F_is_word : Fun K "is_word" "is_word" s_is_word f_is_word fd_is_word
  g_is_word : mg "is_word" = some (.ref f_is_word)
  b_is_word : Binds K fd_is_word ["marks", "word", "n"] []
  f_must_be_word : Addr
  fd_must_be_word : FuncData
  F_must_be_word : Fun K "must_be_word" "must_be_word" s_must_be_word f_must_be_word fd_must_be_word
  g_must_be_word : mg "must_be_word" = some (.ref f_must_be_word)
  b_must_be_word : Binds K fd_must_be_word ["marks", "word", "n"] []
  f_sizes : Addr
  fd_sizes : FuncData
  F_sizes : Fun K "sizes" "sizes" s_sizes f_sizes fd_sizes
  g_sizes : mg "sizes" = some (.ref f_sizes)
  b_sizes : Binds K fd_sizes ["marks", "word"] []
  f_numbers_in : Addr
  fd_numbers_in : FuncData
  F_numbers_in : Fun K "numbers_in" "numbers_in" s_numbers_in f_numbers_in fd_numbers_in
  g_numbers_in : mg "numbers_in" = some (.ref f_numbers_in)
  b_numbers_in : Binds K fd_numbers_in ["marks", "word"] []
  f_riffled : Addr
  fd_riffled : FuncData
  F_riffled : Fun K "riffled" "riffled" s_riffled f_riffled fd_riffled
  g_riffled : mg "riffled" = some (.ref f_riffled)
  b_riffled : Binds K fd_riffled ["order", "marks", "word"] []
  f_are_marks : Addr
  fd_are_marks : FuncData
  F_are_marks : Fun K "are_marks" "are_marks" s_are_marks f_are_marks fd_are_marks
  g_are_marks : mg "are_marks" = some (.ref f_are_marks)
  b_are_marks : Binds K fd_are_marks ["marks"] []
  f_Pack_riffle : Addr
  fd_Pack_riffle : FuncData
  F_Pack_riffle : Fun K "riffle" "Pack.riffle" s_Pack_riffle f_Pack_riffle fd_Pack_riffle
  m_Pack_riffle : Meth K C_Pack "riffle" f_Pack_riffle
  b_Pack_riffle : Binds K fd_Pack_riffle ["self", "marks", "word"] []
  f_Pack_order : Addr
  fd_Pack_order : FuncData
  F_Pack_order : Fun K "order" "Pack.order" s_Pack_order f_Pack_order fd_Pack_order
  m_Pack_order : Meth K C_Pack "order" f_Pack_order
  b_Pack_order : Binds K fd_Pack_order ["self"] []
  f_Pack_done : Addr
  fd_Pack_done : FuncData
  F_Pack_done : Fun K "done" "Pack.done" s_Pack_done f_Pack_done fd_Pack_done
  m_Pack_done : Meth K C_Pack "done" f_Pack_done
  b_Pack_done : Binds K fd_Pack_done ["self"] []
  f_check : Addr
  fd_check : FuncData
  F_check : Fun K "check" "check" s_check f_check fd_check
  g_check : mg "check" = some (.ref f_check)
  b_check : Binds K fd_check ["marks", "word", "n"] []
  f_turned_about : Addr
  fd_turned_about : FuncData
  F_turned_about : Fun K "turned_about" "turned_about" s_turned_about f_turned_about fd_turned_about
  g_turned_about : mg "turned_about" = some (.ref f_turned_about)
  b_turned_about : Binds K fd_turned_about ["marks", "others", "heap", "other"] []
  f_joined : Addr
  fd_joined : FuncData
  F_joined : Fun K "joined" "joined" s_joined f_joined fd_joined
  g_joined : mg "joined" = some (.ref f_joined)
  b_joined : Binds K fd_joined ["marks", "word", "others", "more"] []
  f_joined_marks : Addr
  fd_joined_marks : FuncData
  F_joined_marks : Fun K "joined_marks" "joined_marks" s_joined_marks f_joined_marks fd_joined_marks
  g_joined_marks : mg "joined_marks" = some (.ref f_joined_marks)
  b_joined_marks : Binds K fd_joined_marks ["marks", "others"] []
  f_Pack_whole : Addr
  fd_Pack_whole : FuncData
  F_Pack_whole : Fun K "whole" "Pack.whole" s_Pack_whole f_Pack_whole fd_Pack_whole
  m_Pack_whole : Meth K C_Pack "whole" f_Pack_whole
  b_Pack_whole : Binds K fd_Pack_whole ["self"] []
  f_undone : Addr
  fd_undone : FuncData
  F_undone : Fun K "undone" "undone" s_undone f_undone fd_undone
  g_undone : mg "undone" = some (.ref f_undone)
  b_undone : Binds K fd_undone ["order", "marks", "word"] []
  f_Pack_undo : Addr
  fd_Pack_undo : FuncData
  F_Pack_undo : Fun K "undo" "Pack.undo" s_Pack_undo f_Pack_undo fd_Pack_undo
  m_Pack_undo : Meth K C_Pack "undo" f_Pack_undo
  b_Pack_undo : Binds K fd_Pack_undo ["self"] []
  f_law_words : Addr
  fd_law_words : FuncData
  F_law_words : Fun K "_law_words" "_law_words" s_law_words f_law_words fd_law_words
  g_law_words : mg "_law_words" = some (.ref f_law_words)
  b_law_words : Binds K fd_law_words ["_law_e"] []
  f_law_refused : Addr
  fd_law_refused : FuncData
  F_law_refused : Fun K "_law_refused" "_law_refused" s_law_refused f_law_refused fd_law_refused
  g_law_refused : mg "_law_refused" = some (.ref f_law_refused)
  b_law_refused : Binds K fd_law_refused ["_law_pack", "_law_marks_here", "_law_word_here", "_law_due"] []
  f_law_mixed : Addr
  fd_law_mixed : FuncData
  F_law_mixed : Fun K "_law_mixed" "_law_mixed" s_law_mixed f_law_mixed fd_law_mixed
  g_law_mixed : mg "_law_mixed" = some (.ref f_law_mixed)
  b_law_mixed : Binds K fd_law_mixed ["_law_cell", "_law_k"] []
  f_law_marks : Addr
  fd_law_marks : FuncData
  F_law_marks : Fun K "_law_marks" "_law_marks" s_law_marks f_law_marks fd_law_marks
  g_law_marks : mg "_law_marks" = some (.ref f_law_marks)
  b_law_marks : Binds K fd_law_marks ["_law_cell", "_law_most"] []
  f_law_bad_marks : Addr
  fd_law_bad_marks : FuncData
  F_law_bad_marks : Fun K "_law_bad_marks" "_law_bad_marks" s_law_bad_marks f_law_bad_marks fd_law_bad_marks
  g_law_bad_marks : mg "_law_bad_marks" = some (.ref f_law_bad_marks)
  b_law_bad_marks : Binds K fd_law_bad_marks ["_law_cell"] []
  f_law_bad_words : Addr
  fd_law_bad_words : FuncData
  F_law_bad_words : Fun K "_law_bad_words" "_law_bad_words" s_law_bad_words f_law_bad_words fd_law_bad_words
  g_law_bad_words : mg "_law_bad_words" = some (.ref f_law_bad_words)
  b_law_bad_words : Binds K fd_law_bad_words ["_law_n", "_law_heaps", "_law_cell"] []
  f_law_word : Addr
  fd_law_word : FuncData
  F_law_word : Fun K "_law_word" "_law_word" s_law_word f_law_word fd_law_word
  g_law_word : mg "_law_word" = some (.ref f_law_word)
  b_law_word : Binds K fd_law_word ["_law_cell", "_law_heaps", "_law_n"] []
  f_law_no_pack : Addr
  fd_law_no_pack : FuncData
  F_law_no_pack : Fun K "_law_no_pack" "_law_no_pack" s_law_no_pack f_law_no_pack fd_law_no_pack
  g_law_no_pack : mg "_law_no_pack" = some (.ref f_law_no_pack)
  b_law_no_pack : Binds K fd_law_no_pack ["_law_thing"] []
  f_law_packs : Addr
  fd_law_packs : FuncData
  F_law_packs : Fun K "_law_packs" "_law_packs" s_law_packs f_law_packs fd_law_packs
  g_law_packs : mg "_law_packs" = some (.ref f_law_packs)
  b_law_packs : Binds K fd_law_packs ["_law_cell"] []
  f_law : Addr
  fd_law : FuncData
  F_law : Fun K "law" "law" s_law f_law fd_law
  g_law : mg "law" = some (.ref f_law)
  b_law : Binds K fd_law ["_law_script"] []
  C_RiftError : Addr
  X_RiftError : ExcT K mg "RiftError" C_RiftError
  C_NoPack : Addr
  X_NoPack : ExcT K mg "NoPack" C_NoPack
  C_NoMarks : Addr
  X_NoMarks : ExcT K mg "NoMarks" C_NoMarks
  C_NoRiffle : Addr
  X_NoRiffle : ExcT K mg "NoRiffle" C_NoRiffle
  C_NoWay : Addr
  X_NoWay : ExcT K mg "NoWay" C_NoWay
  C_TooMany : Addr
  X_TooMany : ExcT K mg "TooMany" C_TooMany
  C_NoFigures : Addr
  X_NoFigures : ExcT K mg "NoFigures" C_NoFigures
  C_NoText : Addr
  X_NoText : ExcT K mg "NoText" C_NoText
  S_NoMarks_NoFigures : PySem.W.subIn K (.ref C_NoMarks) (.ref C_NoFigures) = some false
  N_NoMarks_NoFigures : C_NoMarks ≠ C_NoFigures
  S_NoMarks_NoMarks : PySem.W.subIn K (.ref C_NoMarks) (.ref C_NoMarks) = some true
  S_NoMarks_NoPack : PySem.W.subIn K (.ref C_NoMarks) (.ref C_NoPack) = some false
  N_NoMarks_NoPack : C_NoMarks ≠ C_NoPack
  S_NoMarks_NoRiffle : PySem.W.subIn K (.ref C_NoMarks) (.ref C_NoRiffle) = some false
  N_NoMarks_NoRiffle : C_NoMarks ≠ C_NoRiffle
  S_NoMarks_NoText : PySem.W.subIn K (.ref C_NoMarks) (.ref C_NoText) = some false
  N_NoMarks_NoText : C_NoMarks ≠ C_NoText
  S_NoMarks_NoWay : PySem.W.subIn K (.ref C_NoMarks) (.ref C_NoWay) = some false
  N_NoMarks_NoWay : C_NoMarks ≠ C_NoWay
  S_NoMarks_RiftError : PySem.W.subIn K (.ref C_NoMarks) (.ref C_RiftError) = some true
  S_NoMarks_TooMany : PySem.W.subIn K (.ref C_NoMarks) (.ref C_TooMany) = some false
  N_NoMarks_TooMany : C_NoMarks ≠ C_TooMany
  S_NoPack_NoFigures : PySem.W.subIn K (.ref C_NoPack) (.ref C_NoFigures) = some false
  N_NoPack_NoFigures : C_NoPack ≠ C_NoFigures
  S_NoPack_NoMarks : PySem.W.subIn K (.ref C_NoPack) (.ref C_NoMarks) = some false
  N_NoPack_NoMarks : C_NoPack ≠ C_NoMarks
  S_NoPack_NoPack : PySem.W.subIn K (.ref C_NoPack) (.ref C_NoPack) = some true
  S_NoPack_NoRiffle : PySem.W.subIn K (.ref C_NoPack) (.ref C_NoRiffle) = some false
  N_NoPack_NoRiffle : C_NoPack ≠ C_NoRiffle
  S_NoPack_NoText : PySem.W.subIn K (.ref C_NoPack) (.ref C_NoText) = some false
  N_NoPack_NoText : C_NoPack ≠ C_NoText
  S_NoPack_NoWay : PySem.W.subIn K (.ref C_NoPack) (.ref C_NoWay) = some false
  N_NoPack_NoWay : C_NoPack ≠ C_NoWay
  S_NoPack_RiftError : PySem.W.subIn K (.ref C_NoPack) (.ref C_RiftError) = some true
  S_NoPack_TooMany : PySem.W.subIn K (.ref C_NoPack) (.ref C_TooMany) = some false
  N_NoPack_TooMany : C_NoPack ≠ C_TooMany
  S_NoRiffle_NoFigures : PySem.W.subIn K (.ref C_NoRiffle) (.ref C_NoFigures) = some false
  N_NoRiffle_NoFigures : C_NoRiffle ≠ C_NoFigures
  S_NoRiffle_NoMarks : PySem.W.subIn K (.ref C_NoRiffle) (.ref C_NoMarks) = some false
  N_NoRiffle_NoMarks : C_NoRiffle ≠ C_NoMarks
  S_NoRiffle_NoPack : PySem.W.subIn K (.ref C_NoRiffle) (.ref C_NoPack) = some false
  N_NoRiffle_NoPack : C_NoRiffle ≠ C_NoPack
  S_NoRiffle_NoRiffle : PySem.W.subIn K (.ref C_NoRiffle) (.ref C_NoRiffle) = some true
  S_NoRiffle_NoText : PySem.W.subIn K (.ref C_NoRiffle) (.ref C_NoText) = some false
  N_NoRiffle_NoText : C_NoRiffle ≠ C_NoText
  S_NoRiffle_NoWay : PySem.W.subIn K (.ref C_NoRiffle) (.ref C_NoWay) = some false
  N_NoRiffle_NoWay : C_NoRiffle ≠ C_NoWay
  S_NoRiffle_RiftError : PySem.W.subIn K (.ref C_NoRiffle) (.ref C_RiftError) = some true
  S_NoRiffle_TooMany : PySem.W.subIn K (.ref C_NoRiffle) (.ref C_TooMany) = some false
  N_NoRiffle_TooMany : C_NoRiffle ≠ C_TooMany
  u_HEAPS : Value
  c_HEAPS : mg "HEAPS" = some u_HEAPS
  r_HEAPS : RelV (.int 400) u_HEAPS
  u_MOST : Value
  c_MOST : mg "MOST" = some u_MOST
  r_MOST : RelV (.int 60) u_MOST
  m_abs : mg "abs" = none
  m_all : mg "all" = none
  m_bool : mg "bool" = none
  m_enumerate : mg "enumerate" = none
  m_int : mg "int" = none
  m_isinstance : mg "isinstance" = none
  m_len : mg "len" = none
  m_list : mg "list" = none
  m_range : mg "range" = none
  m_reversed : mg "reversed" = none
  m_zip : mg "zip" = none
section
variable {P : Program} {w : World} {K : PySem.W.Frag} {mg : Str → Option Value} {base : Heap}
def sp_first (K : PySem.W.Frag) : Sp := fun vs H Q _ => ∃ (n : Int), vs = [V.int n] ∧ (0 ≤ n ∧ n ≤ 1000) ∧ (∀ (H1 : Hp) (rA : Addr) (res : List Int), (res = upto (Int.toNat n)) → Same H H1 → H rA = none → H1 rA = some (.lst (List.map V.int res)) → Q (V.ref rA) H1)
theorem sc_first : FnScope ["n"] ["n"] (defScope s_first) := ⟨rfl, rfl, rfl, by decide +kernel, rfl, by decide +kernel, by decide +kernel⟩
theorem ok_first (T : Txt K mg) : FnOk P w K mg base CX0 1 T.f_first T.fd_first ["n"] (sp_first K) := by
  refine T.F_first.ok sc_first (fun vs H Q E h => ?_) (fun cdv A outer s H vs Q E hr h => ?_)
  · obtain ⟨n, rfl, _⟩ := h; rfl
  · obtain ⟨n, rfl, pre0, q⟩ := h
    have fr := Fr.nil H
    refine ⟨_, (pss_one (ps_ret (pe_listRg rfl (by rfl) T.m_list (prg_1 (by rfl) T.m_range (pv 0))))), ?_⟩
    refine ⟨_, rfl, _, rfl, ?_, fun l_1 nl_2 => ?_⟩
    · walk_at "rgok"
    have fr : Fr H _ [(l_1, (.lst (List.map V.int ((rangeI n))) : HO))] := (fr.new nl_2).cast (lst_rng _)
    exact q _ _ ((rangeI n)) (by rfl) fr.same fr.n0 fr.at0
def sp_is_whole (K : PySem.W.Frag) : Sp := fun vs H Q _ => ∃ (thing : V), vs = [thing] ∧ (Thing K H thing) ∧ (∀ (H1 : Hp) (res : Bool), (res = wholeV thing) → Same H H1 → Q (V.bl res) H1)
theorem sc_is_whole : FnScope ["thing"] ["thing"] (defScope s_is_whole) := ⟨rfl, rfl, rfl, by decide +kernel, rfl, by decide +kernel, by decide +kernel⟩
theorem ok_is_whole (T : Txt K mg) : FnOk P w K mg base CX0 1 T.f_is_whole T.fd_is_whole ["thing"] (sp_is_whole K) := by
  refine T.F_is_whole.ok sc_is_whole (fun vs H Q E h => ?_) (fun cdv A outer s H vs Q E hr h => ?_)
  · obtain ⟨thing, rfl, _⟩ := h; rfl
  · obtain ⟨thing, rfl, pre0, q⟩ := h
    have fr := Fr.nil H
    obtain ⟨tt, hty, hki, hkb⟩ := pre0
    refine ⟨_, (pss_one (ps_ret (pe_and (pe_splS (pe_callB (show CallR _ _ (rIsi K) from call_isi) (by rfl) T.m_isinstance (by decide +kernel) (pa_cons (pv 0) (pa_cons (pe_bltn (v := .ty "int") (by rfl) T.m_int (by decide +kernel) rfl) pa_nil)))) (pe_one (pe_not (pe_callB (show CallR _ _ (rIsi K) from call_isi) (by rfl) T.m_isinstance (by decide +kernel) (pa_cons (pv 0) (pa_cons (pe_bltn (v := .ty "bool") (by rfl) T.m_bool (by decide +kernel) rfl) pa_nil)))))))), ?_⟩
    refine ⟨_, rfl, _, _, _, _, _, rfl, (ClsV.ty _), hty, hki, _, rfl, ?_, ?_⟩
    · intro h1
      refine ⟨_, rfl, ?_⟩
      refine iteT ?_
      refine ⟨_, rfl, _, _, _, _, _, rfl, (ClsV.ty _), hty, hkb, _, rfl, ?_⟩
      exact q _ ((!((is_bool thing)))) (by simp_all [wholeV]) fr.same
    · intro h1
      refine ⟨_, rfl, ?_⟩
      refine iteF ?_
      exact q _ false (by simp_all [wholeV]) fr.same
def sp_Pack___init {K : PySem.W.Frag} {mg : Str → Option Value} (T : Txt K mg) : Sp := fun vs H Q _ => ∃ (a_slf : Addr) (dx_slf : Addr) (n : Int) (Hm : Hp), vs = [V.ref a_slf, V.int n] ∧ Lent Hm H ([(a_slf, (.ins T.C_Pack dx_slf [] : HO)), (dx_slf, (.own a_slf : HO))] ++ List.flatten []) ∧ (1 ≤ n ∧ n ≤ 60) ∧ (∀ (H1 : Hp) (slf' : PK), (slf'.order = upto (Int.toNat n)) → (slf'.past = []) → Fr Hm H1 ([] ++ List.flatten [pkOwn T.C_Pack a_slf slf']) → Q (V.non) H1)
theorem sc_Pack___init : FnScope ["self", "n"] ["self", "n"] (defScope s_Pack___init) := ⟨rfl, rfl, rfl, by decide +kernel, rfl, by decide +kernel, by decide +kernel⟩
theorem ok_Pack___init (T : Txt K mg) : FnOk P w K mg base CX0 2 T.f_Pack___init T.fd_Pack___init ["self", "n"] (sp_Pack___init T) := by
  refine T.F_Pack___init.ok sc_Pack___init (fun vs H Q E h => ?_) (fun cdv A outer s H vs Q E hr h => ?_)
  · obtain ⟨a_slf, dx_slf, n, Hm, rfl, _⟩ := h; rfl
  · obtain ⟨a_slf, dx_slf, n, Hm, rfl, hl, pre0, q⟩ := h
    have fr : Fr Hm H [(a_slf, (.ins T.C_Pack dx_slf [] : HO)), (dx_slf, (.own a_slf : HO))] := hl.fr
    refine ⟨_, (pss_cons (ps_if (PW.pt (pw_or (pt_not (pt_valS (pe_call (ok_is_whole T) (hr.mono (by decide)) (by rfl) T.g_is_whole T.F_is_whole.kp T.b_is_whole .nil pass0 (pa_cons (pv 1) pa_nil)))) (pw_or (pt_cmpR op_ltS (pv 1) pe_int (nomark _)) (pw_or1 (pt_cmpR op_gtS (pv 1) (pe_glob rfl T.c_MOST T.r_MOST) (nomark _)))))) pss_never pss_nil)
          (pss_cons (ps_fld (pv 0) (pe_call (ok_first T) (hr.mono (by decide)) (by rfl) T.g_first T.F_first.kp T.b_first .nil pass0 (pa_cons (pv 1) pa_nil)) rfl)
          (pss_one (ps_fld (pv 0) (pe_lst pa_nil) rfl)))), ?_⟩
    refine ⟨_, rfl, ((V.int n)), rfl, ?_, fun H_1 is_whole_2 hp_4 sm_3 => ?_⟩
    · exact Thing.sca rfl
    have fr : Fr Hm _ [(a_slf, (.ins T.C_Pack dx_slf [] : HO)), (dx_slf, (.own a_slf : HO))] := fr.call sm_3
    subst hp_4
    refine ⟨_, rfl, ?_, ?_⟩
    · intro h5
      refine iteF ?_
      refine ⟨_, rfl, _, _, rfl, rfl, ?_, ?_⟩
      · intro h6
        exfalso
        omega
      · intro h6
        refine ⟨_, rfl, ?_⟩
        refine iteF ?_
        refine ⟨_, rfl, _, _, rfl, rfl, ?_, ?_⟩
        · intro h7
          exfalso
          omega
        · intro h7
          refine ⟨_, rfl, ?_⟩
          refine iteF ?_
          refine ⟨_, rfl, n, rfl, ?_, fun H_8 p_12 first_9 hp_11 sm_10 np_13 ep_14 => ?_⟩
          · omega
          have fr : Fr Hm _ [(p_12, (.lst (List.map V.int first_9) : HO)), (a_slf, (.ins T.C_Pack dx_slf [] : HO)), (dx_slf, (.own a_slf : HO))] := fr.cnew sm_10 np_13 ep_14
          subst hp_11
          refine ⟨_, rfl, _, _, _, _, rfl, fr.at1, T.cl_Pack, T.na_Pack_cards, (by show 0 < 1000; decide), ?_⟩
          have fr : Fr Hm _ [(p_12, (.lst (List.map V.int (((upto (Int.toNat n))))) : HO)), (a_slf, (.ins T.C_Pack dx_slf (putF "cards" (.ref p_12) []) : HO)), (dx_slf, (.own a_slf : HO))] := Fr.wrk fr 1 rfl rfl
          refine ⟨(Evl.sz_of (show 0 ≤ 100000 by decide)), fun l_15 nl_16 => ?_⟩
          have fr : Fr Hm _ [(l_15, (.lst [] : HO)), (p_12, (.lst (List.map V.int (((upto (Int.toNat n))))) : HO)), (a_slf, (.ins T.C_Pack dx_slf (putF "cards" (.ref p_12) []) : HO)), (dx_slf, (.own a_slf : HO))] := fr.new nl_16
          refine ⟨_, rfl, _, _, _, _, rfl, fr.at2, T.cl_Pack, T.na_Pack_past, (by show 1 < 1000; decide), ?_⟩
          have fr : Fr Hm _ [(l_15, (.lst [] : HO)), (p_12, (.lst (List.map V.int (((upto (Int.toNat n))))) : HO)), (a_slf, (.ins T.C_Pack dx_slf (pkF p_12 l_15) : HO)), (dx_slf, (.own a_slf : HO))] := Fr.wrk fr 2 rfl rfl
          have fr : Fr Hm _ ([(l_15, (.lst (List.map peRef (([] : List PE))) : HO)), (p_12, (.lst (List.map V.int (((upto (Int.toNat n))))) : HO)), (a_slf, (.ins T.C_Pack dx_slf (pkF p_12 l_15) : HO)), (dx_slf, (.own a_slf : HO))] ++ List.flatten [pesOwn (([] : List PE))]) := fr
          have fr : Fr Hm _ ([(p_12, (.lst (List.map V.int (((upto (Int.toNat n))))) : HO)), (l_15, (.lst (List.map peRef (([] : List PE))) : HO)), (a_slf, (.ins T.C_Pack dx_slf (pkF p_12 l_15) : HO)), (dx_slf, (.own a_slf : HO))] ++ List.flatten [pesOwn (([] : List PE))]) := Fr.upk fr 1 rfl
          have fr : Fr Hm _ ([(dx_slf, (.own a_slf : HO)), (p_12, (.lst (List.map V.int (((upto (Int.toNat n))))) : HO)), (l_15, (.lst (List.map peRef (([] : List PE))) : HO)), (a_slf, (.ins T.C_Pack dx_slf (pkF p_12 l_15) : HO))] ++ List.flatten [pesOwn (([] : List PE))]) := Fr.upk fr 3 rfl
          have fr : Fr Hm _ ([(a_slf, (.ins T.C_Pack dx_slf (pkF p_12 l_15) : HO)), (dx_slf, (.own a_slf : HO)), (p_12, (.lst (List.map V.int (((upto (Int.toNat n))))) : HO)), (l_15, (.lst (List.map peRef (([] : List PE))) : HO))] ++ List.flatten [pesOwn (([] : List PE))]) := Fr.upk fr 3 rfl
          have fr : Fr Hm _ ([] ++ List.flatten [pkOwn T.C_Pack a_slf ((⟨dx_slf, p_12, l_15, ([] : List PE), ((upto (Int.toNat n)))⟩ : PK))]) := Fr.pkclose (pre := []) (ts := []) fr
          exact q _ (⟨dx_slf, p_12, l_15, ([] : List PE), ((upto (Int.toNat n)))⟩ : PK) (by rfl) (by rfl)  fr
    · intro h5
      exfalso
      cases h5
def sp_Pack_done {K : PySem.W.Frag} {mg : Str → Option Value} (T : Txt K mg) : Sp := fun vs H Q _ => ∃ (a_slf : Addr) (slf : PK), vs = [V.ref a_slf] ∧ PkAt T.C_Pack H a_slf slf ∧ (slf.past.length ≤ 1000) ∧ (∀ (H1 : Hp) (rA : Addr) (r_res : List PE) (res : List PC), (res = slf.past) → (List.map peC r_res = res) → Fr H H1 ([(rA, (.lst (List.map peRef r_res) : HO))] ++ List.flatten [pesOwn r_res]) → Q (V.ref rA) H1)
theorem sc_Pack_done : FnScope ["self", "marks", "word"] ["self"] (defScope s_Pack_done) := ⟨rfl, rfl, rfl, by decide +kernel, rfl, by decide +kernel, by decide +kernel⟩
theorem ok_Pack_done (T : Txt K mg) : FnOk P w K mg base CX0 1 T.f_Pack_done T.fd_Pack_done ["self"] (sp_Pack_done T) := by
  refine T.F_Pack_done.ok sc_Pack_done (fun vs H Q E h => ?_) (fun cdv A outer s H vs Q E hr h => ?_)
  · obtain ⟨a_slf, slf, rfl, _⟩ := h; rfl
  · obtain ⟨a_slf, slf, rfl, h_slf, pre0, q⟩ := h
    have fr := Fr.nil H
    refine ⟨_, (pss_one (ps_ret (pe_lc (own := [("marks", 1), ("word", 2)]) (g := gTup K 2 (gCons (gName 1) (gCons (gName 2) gNil))) (tt := tYes) rfl sc_Pack_done.nd (pi_list (pe_fld (pv 0) rfl)) (blkOk_by (N := ["self", "marks", "word"]) (sc := (defScope s_Pack_done)) (by decide +kernel)) (fun _ _ _ _ _ => (pg_tup rfl (pgs_cons (pg_name (i := 1) sc_Pack_done.nd rfl (Or.inl rfl)) (pgs_cons (pg_name (i := 2) sc_Pack_done.nd rfl (Or.inl rfl)) pgs_nil)))) (fun _ _ _ _ _ => pts_nil) (fun _ _ _ _ _ => (pe_tup (pa_cons (pe_callTy (show CallR _ _ (rListL K) from call_listL) (by rfl) T.m_list (by decide +kernel) (pa_cons (pv 1) pa_nil)) (pa_cons (pe_callTy (show CallR _ _ (rListL K) from call_listL) (by rfl) T.m_list (by decide +kernel) (pa_cons (pv 2) pa_nil)) pa_nil))))))), ?_⟩
    refine ⟨_, rfl, _, _, _, _, _, rfl, (fr.same _ _ (PkAt.p h_slf)), T.cl_Pack, T.na_Pack_past, (pkF_past _ _), _, rfl, ⟨_, (SqL.of (fr.same _ _ (PkAt.b h_slf)))⟩, ?_⟩
    intro D_1 nD_2
    refine lc_it (walkP (K := K) (a := slf.b) (es := slf.es) (pk_past slf)) (fun (i : Nat) H1 => ∃ rw_ : List PE, Fr H H1 ([(D_1, (.lst (List.map peRef rw_) : HO))] ++ List.flatten [pesOwn rw_]) ∧ rw_.map peC = (List.take i slf.past)) ⟨[], fr.new nD_2, rfl⟩ (fun i H1 hi ⟨rw_, fr, hrw_⟩ => (fr.same _ _ (PkAt.b h_slf))) ?_ ?_
    · rintro i_3 x_9 H_7 H_8 hi_4 ⟨rw_5, fr, hrw_6⟩ ⟨rfl, y_10, hr_11, hy_12, rfl⟩
      refine ⟨_, _, rfl, (SqT.of (PesAt.t (PesAt.same (PkAt.es h_slf) fr.same) (List.mem_of_getElem? hr_11))), rfl, _, _, rfl, _, _, rfl, rfl, rfl, ?_⟩
      refine ⟨_, rfl, _, _, rfl, (.inl (SqL.of (PesAt.m (PesAt.same (PkAt.es h_slf) fr.same) (List.mem_of_getElem? hr_11)))), fun l_13 nl_14 => ?_⟩
      have fr : Fr H _ ([(l_13, (.lst (List.map V.bl ((PE.marks y_10))) : HO)), (D_1, (.lst (List.map peRef rw_5) : HO))] ++ List.flatten [pesOwn rw_5]) := fr.new nl_14
      refine ⟨_, rfl, _, _, rfl, (.inl (SqL.of (PesAt.w (PesAt.same (PkAt.es h_slf) fr.same) (List.mem_of_getElem? hr_11)))), fun l_15 nl_16 => ?_⟩
      have fr : Fr H _ ([(l_15, (.lst (List.map V.int ((PE.word y_10))) : HO)), (l_13, (.lst (List.map V.bl ((PE.marks y_10))) : HO)), (D_1, (.lst (List.map peRef rw_5) : HO))] ++ List.flatten [pesOwn rw_5]) := fr.new nl_16
      refine ⟨(Evl.sz_of (show 2 ≤ 100000 by decide)), fun t_17 nt_18 => ?_⟩
      have fr : Fr H _ ([(t_17, (.tup [(V.ref l_13), (V.ref l_15)] : HO)), (l_15, (.lst (List.map V.int ((PE.word y_10))) : HO)), (l_13, (.lst (List.map V.bl ((PE.marks y_10))) : HO)), (D_1, (.lst (List.map peRef rw_5) : HO))] ++ List.flatten [pesOwn rw_5]) := fr.new nt_18
      refine ⟨_, (Fr.atk fr 3 rfl), ?_, ?_⟩
      · rw [pc_len2 hrw_6]; refine Evl.sz_lt ?_; simp only [List.length_take]; omega
      have fr : Fr H _ ([(t_17, (.tup [(V.ref l_13), (V.ref l_15)] : HO)), (l_15, (.lst (List.map V.int ((PE.word y_10))) : HO)), (l_13, (.lst (List.map V.bl ((PE.marks y_10))) : HO)), (D_1, (.lst (List.map peRef ((rw_5 ++ [(⟨t_17, l_13, l_15, (PE.marks y_10), (PE.word y_10)⟩ : PE)]))) : HO))] ++ List.flatten [pesOwn rw_5]) := Fr.wrk fr 3 rfl lst_pe_app
      have fr : Fr H _ ([(D_1, (.lst (List.map peRef ((rw_5 ++ [(⟨t_17, l_13, l_15, (PE.marks y_10), (PE.word y_10)⟩ : PE)]))) : HO)), (t_17, (.tup [(V.ref l_13), (V.ref l_15)] : HO)), (l_15, (.lst (List.map V.int ((PE.word y_10))) : HO)), (l_13, (.lst (List.map V.bl ((PE.marks y_10))) : HO))] ++ List.flatten [pesOwn rw_5]) := Fr.upk fr 3 rfl
      have fr : Fr H _ ([(l_15, (.lst (List.map V.int ((PE.word y_10))) : HO)), (D_1, (.lst (List.map peRef ((rw_5 ++ [(⟨t_17, l_13, l_15, (PE.marks y_10), (PE.word y_10)⟩ : PE)]))) : HO)), (t_17, (.tup [(V.ref l_13), (V.ref l_15)] : HO)), (l_13, (.lst (List.map V.bl ((PE.marks y_10))) : HO))] ++ List.flatten [pesOwn rw_5]) := Fr.upk fr 2 rfl
      have fr : Fr H _ ([(l_13, (.lst (List.map V.bl ((PE.marks y_10))) : HO)), (l_15, (.lst (List.map V.int ((PE.word y_10))) : HO)), (D_1, (.lst (List.map peRef ((rw_5 ++ [(⟨t_17, l_13, l_15, (PE.marks y_10), (PE.word y_10)⟩ : PE)]))) : HO)), (t_17, (.tup [(V.ref l_13), (V.ref l_15)] : HO))] ++ List.flatten [pesOwn rw_5]) := Fr.upk fr 3 rfl
      have fr : Fr H _ ([(t_17, (.tup [(V.ref l_13), (V.ref l_15)] : HO)), (l_13, (.lst (List.map V.bl ((PE.marks y_10))) : HO)), (l_15, (.lst (List.map V.int ((PE.word y_10))) : HO)), (D_1, (.lst (List.map peRef ((rw_5 ++ [(⟨t_17, l_13, l_15, (PE.marks y_10), (PE.word y_10)⟩ : PE)]))) : HO))] ++ List.flatten [pesOwn rw_5]) := Fr.upk fr 3 rfl
      exact ⟨(rw_5 ++ [(⟨t_17, l_13, l_15, (PE.marks y_10), (PE.word y_10)⟩ : PE)]), Fr.padd (pre := [(D_1, (.lst (List.map peRef ((rw_5 ++ [(⟨t_17, l_13, l_15, (PE.marks y_10), (PE.word y_10)⟩ : PE)]))) : HO))]) (ts := []) (es := rw_5) fr, (pc_app hrw_6).trans (take_next hy_12).symm⟩
    rintro H_19 ⟨rw_20, fr, hrw_21⟩
    rw [List.take_length] at hrw_21
    exact q _ D_1 rw_20 slf.past (by rfl) hrw_21 fr
def sp_Pack_order {K : PySem.W.Frag} {mg : Str → Option Value} (T : Txt K mg) : Sp := fun vs H Q _ => ∃ (a_slf : Addr) (slf : PK), vs = [V.ref a_slf] ∧ PkAt T.C_Pack H a_slf slf ∧ (∀ (H1 : Hp) (rA : Addr) (res : List Int), (res = slf.order) → Same H H1 → H rA = none → H1 rA = some (.lst (List.map V.int res)) → Q (V.ref rA) H1)
theorem sc_Pack_order : FnScope ["self"] ["self"] (defScope s_Pack_order) := ⟨rfl, rfl, rfl, by decide +kernel, rfl, by decide +kernel, by decide +kernel⟩
theorem ok_Pack_order (T : Txt K mg) : FnOk P w K mg base CX0 1 T.f_Pack_order T.fd_Pack_order ["self"] (sp_Pack_order T) := by
  refine T.F_Pack_order.ok sc_Pack_order (fun vs H Q E h => ?_) (fun cdv A outer s H vs Q E hr h => ?_)
  · obtain ⟨a_slf, slf, rfl, _⟩ := h; rfl
  · obtain ⟨a_slf, slf, rfl, h_slf, q⟩ := h
    have fr := Fr.nil H
    refine ⟨_, (pss_one (ps_ret (pe_callTy (show CallR _ _ (rListL K) from call_listL) (by rfl) T.m_list (by decide +kernel) (pa_cons (pe_fld (pv 0) rfl) pa_nil)))), ?_⟩
    refine ⟨_, rfl, _, _, _, _, _, rfl, (fr.same _ _ (PkAt.p h_slf)), T.cl_Pack, T.na_Pack_cards, (pkF_cards _ _), _, _, rfl, (.inl (SqL.of (fr.same _ _ (PkAt.a h_slf)))), fun l_1 nl_2 => ?_⟩
    have fr : Fr H _ [(l_1, (.lst (List.map V.int slf.order) : HO))] := fr.new nl_2
    exact q _ _ slf.order (by rfl) fr.same fr.n0 fr.at0
def sp_are_marks (K : PySem.W.Frag) : Sp := fun vs H Q _ => ∃ (a_marks : Addr) (marks : List V), vs = [V.ref a_marks] ∧ H a_marks = some (.lst marks) ∧ (Sca marks) ∧ (marks.length ≤ 1000) ∧ (∀ (H1 : Hp) (res : Bool), (res = marksV marks) → Same H H1 → Q (V.bl res) H1)
theorem sc_are_marks : FnScope ["marks", "mark"] ["marks"] (defScope s_are_marks) := ⟨rfl, rfl, rfl, by decide +kernel, rfl, by decide +kernel, by decide +kernel⟩
theorem ok_are_marks (T : Txt K mg) : FnOk P w K mg base CX0 1 T.f_are_marks T.fd_are_marks ["marks"] (sp_are_marks K) := by
  refine T.F_are_marks.ok sc_are_marks (fun vs H Q E h => ?_) (fun cdv A outer s H vs Q E hr h => ?_)
  · obtain ⟨a_marks, marks, rfl, _⟩ := h; rfl
  · obtain ⟨a_marks, marks, rfl, h_marks, pre0, pre1, q⟩ := h
    have fr := Fr.nil H
    refine ⟨_, (pss_cons (ps_if (PW.pt (pw_or (pt_cmpR op_ltS (pe_callB (show CallR _ _ (rLenL K) from call_lenL) (by rfl) T.m_len (by decide +kernel) (pa_cons (pv 0) pa_nil)) pe_int (nomark _)) (pw_or1 (pt_cmpR op_gtS (pe_callB (show CallR _ _ (rLenL K) from call_lenL) (by rfl) T.m_len (by decide +kernel) (pa_cons (pv 0) pa_nil)) (pe_glob rfl T.c_HEAPS T.r_HEAPS) (nomark _))))) (pss_one (ps_ret pe_bl)) pss_nil)
          (pss_cons (ps_for PassesOwn.never rfl (pi_list (pv 0)) (pg_name (i := 1) sc_are_marks.nd rfl (Or.inl rfl)) (pss_one (ps_if (pt_not (pt_valS (pe_callB (show CallR _ _ (rIsi K) from call_isi) (by rfl) T.m_isinstance (by decide +kernel) (pa_cons (pv 1) (pa_cons (pe_bltn (v := .ty "bool") (by rfl) T.m_bool (by decide +kernel) rfl) pa_nil))))) (pss_one (ps_ret pe_bl)) pss_nil)))
          (pss_one (ps_ret pe_bl)))), ?_⟩
    refine ⟨_, rfl, _, _, _, rfl, (SqL.of (fr.same _ _ h_marks)), rfl, _, _, rfl, rfl, ?_, ?_⟩
    · intro h1
      refine ⟨_, rfl, ?_⟩
      refine iteT ?_
      refine iteT ?_
      exact q _ false (by first | exact marksV_len (by omega) | exact marksV_all (by omega) ha | exact marksV_no {hy:mark} (blV_f (by assumption)) | exact marksV_all (by omega) ha) fr.same
    · intro h1
      refine ⟨_, rfl, ?_⟩
      refine iteF ?_
      refine ⟨_, rfl, _, _, _, rfl, (SqL.of (fr.same _ _ h_marks)), rfl, _, _, rfl, rfl, ?_, ?_⟩
      · intro h2
        refine ⟨_, rfl, ?_⟩
        refine iteT ?_
        exact q _ false (by first | exact marksV_len (by omega) | exact marksV_all (by omega) ha | exact marksV_no {hy:mark} (blV_f (by assumption)) | exact marksV_all (by omega) ha) fr.same
      · intro h2
        refine ⟨_, rfl, ?_⟩
        refine iteF ?_
        refine ⟨_, rfl, _, rfl, ⟨_, (SqL.of (fr.same _ _ h_marks))⟩, ?_⟩
        refine for_it (walkV marks) (fun (i : Nat) σ H1 => ∃ (y_3 : Option V), σ = [some (V.ref a_marks), y_3] ∧ Fr H H1 [] ∧ (∀ w ∈ marks.take i, isBlV w = true)) ?_ ?_ ?_ ?_
        · refine ⟨_, rfl, fr, ?_⟩
          · intro w hw; rw [List.take_zero] at hw; cases hw
        · rintro i σ H1 hi ⟨y_3, rfl, fr, ha⟩
          exact (fr.same _ _ h_marks)
        · rintro i_4 x_6 s_9 H_7 H_8 hi_5 ⟨y_3, rfl, fr, ha⟩ ⟨rfl, hy_11⟩
          have hsc := pre0 _ (List.mem_of_getElem? hy_11)
          refine ⟨_, rfl, _, _, _, _, _, rfl, (ClsV.ty _), (tyx_val ?_), (kit_bool ?_), _, rfl, ?_, ?_⟩
          · walk_at "side"
          · walk_at "side"
          · intro h12
            refine iteF ?_
            refine ⟨_, rfl, fr, ?_⟩
            · exact all_take ha hy_11 (blV_t (by assumption))
          · intro h12
            refine iteT ?_
            exact q _ false (by first | exact marksV_len (by omega) | exact marksV_all (by omega) ha | exact marksV_no hy_11 (blV_f (by assumption)) | exact marksV_all (by omega) ha) fr.same
        rintro s_14 H_13 ⟨y_3, rfl, fr, ha⟩
        exact q _ true (by first | exact marksV_len (by omega) | exact marksV_all (by omega) ha | exact marksV_no {hy:mark} (blV_f (by assumption)) | exact marksV_all (by omega) ha) fr.same
def sp_is_word (K : PySem.W.Frag) : Sp := fun vs H Q _ => ∃ (a_marks : Addr) (marks : List Bool) (a_word : Addr) (word : List V) (n : Int), vs = [V.ref a_marks, V.ref a_word, V.int n] ∧ H a_marks = some (.lst (List.map V.bl marks)) ∧ H a_word = some (.lst word) ∧ (Sca word) ∧ (word.length ≤ 1000) ∧ (∀ (H1 : Hp) (res : Bool), (res = isWordV marks.length word n) → Same H H1 → Q (V.bl res) H1)
theorem sc_is_word : FnScope ["marks", "word", "n", "heap"] ["marks", "word", "n"] (defScope s_is_word) := ⟨rfl, rfl, rfl, by decide +kernel, rfl, by decide +kernel, by decide +kernel⟩
theorem ok_is_word (T : Txt K mg) : FnOk P w K mg base CX0 2 T.f_is_word T.fd_is_word ["marks", "word", "n"] (sp_is_word K) := by
  refine T.F_is_word.ok sc_is_word (fun vs H Q E h => ?_) (fun cdv A outer s H vs Q E hr h => ?_)
  · obtain ⟨a_marks, marks, a_word, word, n, rfl, _⟩ := h; rfl
  · obtain ⟨a_marks, marks, a_word, word, n, rfl, h_marks, h_word, pre0, pre1, q⟩ := h
    have fr := Fr.nil H
    refine ⟨_, (pss_cons (ps_if (pt_cmpR op_neS (pe_callB (show CallR _ _ (rLenL K) from call_lenL) (by rfl) T.m_len (by decide +kernel) (pa_cons (pv 1) pa_nil)) (pv 2) (nomark _)) (pss_one (ps_ret pe_bl)) pss_nil)
          (pss_one (ps_ret (pe_callB (show CallR _ _ (rAll K) from cr_all rfl) (by rfl) T.m_all (by decide +kernel) (pa_cons (pe_lc (own := [("heap", 3)]) (g := gName 3) (tt := tYes) rfl sc_is_word.nd (pi_list (pv 1)) (blkOk_by (N := ["marks", "word", "n", "heap"]) (sc := (defScope s_is_word)) (by decide +kernel)) (fun _ _ _ _ _ => pg_name (i := 3) sc_is_word.nd rfl (Or.inl rfl)) (fun _ _ _ _ _ => pts_nil) (fun _ _ _ _ _ => (pe_and (pe_splS (pe_call (ok_is_whole T) (hr.mono (by decide)) (by rfl) T.g_is_whole T.F_is_whole.kp T.b_is_whole .nil pass0 (pa_cons (pv 3) pa_nil))) (pe_one (pe_chain op_leS op_ltS pe_int (pv 3) (pe_callB (show CallR _ _ (rLenL K) from call_lenL) (by rfl) T.m_len (by decide +kernel) (pa_cons (pv 0) pa_nil))))))) pa_nil))))), ?_⟩
    refine ⟨_, rfl, _, _, _, rfl, (SqL.of (fr.same _ _ h_word)), rfl, _, rfl, _, _, rfl, rfl, ?_, ?_⟩
    · intro h1
      refine ⟨_, rfl, ?_⟩
      refine iteT ?_
      exact q _ false (by first | (simp_all [isWordV]; done) | (simp_all [isWordV]; exact (List.all_map ..).symm)) fr.same
    · intro h1
      refine ⟨_, rfl, ?_⟩
      refine iteF ?_
      refine ⟨_, rfl, _, rfl, ⟨_, (SqL.of (fr.same _ _ h_word))⟩, ?_⟩
      intro D_2 nD_3
      refine lc_it (walkV word) (fun (i : Nat) H1 => Fr H H1 [(D_2, (.lst (List.map V.bl ((List.map (fun y : V => wordPart marks.length y) (List.take i word)))) : HO))]) (fr.new nD_3) (fun i H1 hi fr => (fr.same _ _ h_word)) ?_ ?_
      · rintro i_5 x_9 H_7 H_8 hi_6 fr ⟨rfl, hy_11⟩
        refine ⟨rfl, ?_⟩
        refine ⟨_, rfl, x_9, rfl, ?_, fun H_12 is_whole_13 hp_15 sm_14 => ?_⟩
        · exact Thing.sca (pre0 _ (List.mem_of_getElem? (by assumption)))
        have fr : Fr H _ [(D_2, (.lst (List.map V.bl ((List.map (fun y : V => wordPart marks.length y) (List.take i_5 word)))) : HO))] := fr.call sm_14
        subst hp_15
        refine ⟨_, rfl, ?_, ?_⟩
        · intro h16
          obtain ⟨z_17, ez_18⟩ := wholeV_int h16
          subst ez_18
          refine ⟨_, rfl, ?_⟩
          refine iteT ?_
          refine ⟨_, rfl, _, _, rfl, rfl, ?_, ?_⟩
          · intro h19
            refine ⟨_, rfl, ?_⟩
            refine iteT ?_
            refine ⟨_, rfl, _, _, _, rfl, (SqL.of (fr.same _ _ h_marks)), (List.length_map _), _, _, rfl, rfl, ?_, ?_⟩
            · intro h20
              refine ⟨_, (Fr.atk fr 0 rfl), ?_, ?_⟩
              · walk_at "csize"
              exact (Fr.wr fr).cast (lc_lx hy_11 (by first | exact wp_no (by assumption) | exact wp_f1 (by assumption) | exact wp_f2 (by assumption) | exact wp_t (by assumption) (by assumption)))
            · intro h20
              refine ⟨_, (Fr.atk fr 0 rfl), ?_, ?_⟩
              · walk_at "csize"
              exact (Fr.wr fr).cast (lc_lx hy_11 (by first | exact wp_no (by assumption) | exact wp_f1 (by assumption) | exact wp_f2 (by assumption) | exact wp_t (by assumption) (by assumption)))
          · intro h19
            refine ⟨_, rfl, ?_⟩
            refine iteF ?_
            refine ⟨_, (Fr.atk fr 0 rfl), ?_, ?_⟩
            · walk_at "csize"
            exact (Fr.wr fr).cast (lc_lx hy_11 (by first | exact wp_no (by assumption) | exact wp_f1 (by assumption) | exact wp_f2 (by assumption) | exact wp_t (by assumption) (by assumption)))
        · intro h16
          refine ⟨_, rfl, ?_⟩
          refine iteF ?_
          refine ⟨_, (Fr.atk fr 0 rfl), ?_, ?_⟩
          · walk_at "csize"
          exact (Fr.wr fr).cast (lc_lx hy_11 (by first | exact wp_no (by assumption) | exact wp_f1 (by assumption) | exact wp_f2 (by assumption) | exact wp_t (by assumption) (by assumption)))
      intro H_21 fr
      have fr : Fr H _ [(D_2, (.lst (List.map V.bl ((List.map (fun y : V => wordPart marks.length y) word))) : HO))] := fr.cast (by rw [List.take_length])
      refine ⟨_, _, rfl, (SqL.of fr.at0), ?_⟩
      exact q _ ((List.all ((List.map (fun y : V => wordPart marks.length y) word)) id)) (by first | (simp_all [isWordV]; done) | (simp_all [isWordV]; exact (List.all_map ..).symm)) fr.same
def sp_must_be_word (K : PySem.W.Frag) : Sp := fun vs H Q _ => ∃ (a_marks : Addr) (marks : List Bool) (a_word : Addr) (word : List V) (n : Int), vs = [V.ref a_marks, V.ref a_word, V.int n] ∧ H a_marks = some (.lst (List.map V.bl marks)) ∧ H a_word = some (.lst word) ∧ (Sca word) ∧ (word.length ≤ 1000) ∧ (isWordV marks.length word n = true) ∧ (∀ (H1 : Hp), Same H H1 → Q V.non H1)
theorem sc_must_be_word : FnScope ["marks", "word", "n"] ["marks", "word", "n"] (defScope s_must_be_word) := ⟨rfl, rfl, rfl, by decide +kernel, rfl, by decide +kernel, by decide +kernel⟩
theorem ok_must_be_word (T : Txt K mg) : FnOk P w K mg base CX0 3 T.f_must_be_word T.fd_must_be_word ["marks", "word", "n"] (sp_must_be_word K) := by
  refine T.F_must_be_word.ok sc_must_be_word (fun vs H Q E h => ?_) (fun cdv A outer s H vs Q E hr h => ?_)
  · obtain ⟨a_marks, marks, a_word, word, n, rfl, _⟩ := h; rfl
  · obtain ⟨a_marks, marks, a_word, word, n, rfl, h_marks, h_word, pre0, pre1, pre2, q⟩ := h
    have fr := Fr.nil H
    refine ⟨_, (pss_one (ps_if (pt_not (pt_valS (pe_call (ok_is_word T) (hr.mono (by decide)) (by rfl) T.g_is_word T.F_is_word.kp T.b_is_word .nil pass0 (pa_cons (pv 0) (pa_cons (pv 1) (pa_cons (pv 2) pa_nil)))))) pss_never pss_nil)), ?_⟩
    refine ⟨_, rfl, _, rfl, _, rfl, a_marks, marks, a_word, word, n, rfl, (fr.same _ _ h_marks), (fr.same _ _ h_word), ?_, ?_, fun H_1 is_word_2 hp_4 sm_3 => ?_⟩
    · assumption
    · assumption
    have fr : Fr H _ [] := fr.call sm_3
    subst hp_4
    refine ⟨_, rfl, ?_, ?_⟩
    · intro h5
      refine iteF ?_
      exact q _  fr.same
    · intro h5
      exfalso
      rw [pre2] at h5; cases h5
def sp_sizes (K : PySem.W.Frag) : Sp := fun vs H Q _ => ∃ (a_marks : Addr) (marks : List Bool) (a_word : Addr) (word : List Int), vs = [V.ref a_marks, V.ref a_word] ∧ H a_marks = some (.lst (List.map V.bl marks)) ∧ H a_word = some (.lst (List.map V.int word)) ∧ (IsW marks.length word) ∧ (marks.length ≤ 400 ∧ word.length ≤ 1000) ∧ (∀ (H1 : Hp) (rA : Addr) (res : List Int), (res = sizesI marks.length word) → Same H H1 → H rA = none → H1 rA = some (.lst (List.map V.int res)) → Q (V.ref rA) H1)
theorem sc_sizes : FnScope ["marks", "word", "found", "heap", "mark"] ["marks", "word"] (defScope s_sizes) := ⟨rfl, rfl, rfl, by decide +kernel, rfl, by decide +kernel, by decide +kernel⟩
theorem ok_sizes (T : Txt K mg) : FnOk P w K mg base CX0 1 T.f_sizes T.fd_sizes ["marks", "word"] (sp_sizes K) := by
  refine T.F_sizes.ok sc_sizes (fun vs H Q E h => ?_) (fun cdv A outer s H vs Q E hr h => ?_)
  · obtain ⟨a_marks, marks, a_word, word, rfl, _⟩ := h; rfl
  · obtain ⟨a_marks, marks, a_word, word, rfl, h_marks, h_word, pre0, pre1, q⟩ := h
    have fr := Fr.nil H
    refine ⟨_, (pss_cons (ps_setLc (i := 2) (own := [("mark", 4)]) (g := gName 4) (tt := tYes) rfl sc_sizes.nd rfl rfl (sw_true rfl rfl rfl (by decide +kernel)) (pi_list (pv 0)) (blkOk_by (N := ["marks", "word", "found", "heap", "mark"]) (sc := (defScope s_sizes)) (by decide +kernel)) (fun _ _ _ _ _ => pg_name (i := 4) sc_sizes.nd rfl (Or.inl rfl)) (fun _ _ _ _ _ => pts_nil) (fun _ _ _ _ _ => pe_int))
          (pss_cons (ps_for PassesOwn.never rfl (pi_list (pv 1)) (pg_name (i := 3) sc_sizes.nd rfl (Or.inl rfl)) (pss_one (ps_augS (pv 2) (pv 3) get_list pe_int ip_add set_list)))
          (pss_one (ps_ret (pv 2))))), ?_⟩
    refine ⟨_, rfl, _, rfl, ⟨_, (SqL.of (fr.same _ _ h_marks))⟩, ?_⟩
    intro D_1 nD_2
    refine lc_it (walkL V.bl marks) (fun (i : Nat) H1 => Fr H H1 [(D_1, (.lst (List.map V.int ((List.map (fun y : Bool => 0) (List.take i marks)))) : HO))]) (fr.new nD_2) (fun i H1 hi fr => (fr.same _ _ h_marks)) ?_ ?_
    · rintro i_4 x_8 H_6 H_7 hi_5 fr ⟨rfl, y_9, hy_10, rfl⟩
      refine ⟨rfl, ?_⟩
      refine ⟨_, (Fr.atk fr 0 rfl), ?_, ?_⟩
      · walk_at "csize"
      exact (Fr.wr fr).cast (lc_l hy_10)
    intro H_11 fr
    have fr : Fr H _ [(D_1, (.lst (List.map V.int ((List.map (fun y : Bool => 0) marks))) : HO))] := fr.cast (by rw [List.take_length])
    refine ⟨_, rfl, _, rfl, ⟨_, (SqL.of (fr.same _ _ h_word))⟩, ?_⟩
    refine for_it (walkL V.int word) (fun (i : Nat) σ H1 => ∃ (found_12 : List Int) (y_13 : Option V), σ = [some (V.ref a_marks), some (V.ref a_word), some (V.ref D_1), y_13, none] ∧ Fr H H1 [(D_1, (.lst (List.map V.int found_12) : HO))] ∧ (found_12 = sizesI marks.length (word.take i))) ?_ ?_ ?_ ?_
    · refine ⟨(List.map (fun y : Bool => 0) marks), _, rfl, fr, ?_⟩
      · rw [List.take_zero, sizesI_nil]; exact map_c _ _
    · rintro i σ H1 hi ⟨found_12, y_13, rfl, fr, hf⟩
      exact (fr.same _ _ h_word)
    · rintro i_14 x_16 s_19 H_17 H_18 hi_15 ⟨found_12, y_13, rfl, fr, hf⟩ ⟨rfl, y_20, hy_21, rfl⟩
      have hb := pre0.at hy_21
      have hfl : found_12.length = marks.length := by rw [hf]; simp
      refine ⟨_, rfl, _, rfl, _, _, _, _, rfl, rfl, (SqL.of fr.at0), (atD 0 ?_ ?_), _, _, rfl, rfl, _, _, _, _, rfl, rfl, fr.at0, (ixDm ?_ ?_), ?_⟩
      · walk_at "side"
      · walk_at "side"
      · walk_at "side"
      · walk_at "side"
      have fr : Fr H _ [(D_1, (.lst (List.map V.int ((List.set found_12 (Int.toNat y_20) ((List.getD found_12 (Int.toNat y_20) 0) + 1)))) : HO))] := Fr.wrk fr 0 rfl (lst_set _ _ _ _)
      refine ⟨(List.set found_12 (Int.toNat y_20) ((List.getD found_12 (Int.toNat y_20) 0) + 1)), _, rfl, fr, ?_⟩
      · rw [hf]; exact sizesI_next pre0 hy_21
    rintro s_23 H_22 ⟨found_12, y_13, rfl, fr, hf⟩
    rw [List.take_length] at hf
    refine ⟨_, rfl, ?_⟩
    exact q _ _ found_12 (by walk_at "post") fr.same fr.n0 fr.at0
def sp_numbers_in (K : PySem.W.Frag) : Sp := fun vs H Q _ => ∃ (a_marks : Addr) (marks : List Bool) (a_word : Addr) (word : List Int), vs = [V.ref a_marks, V.ref a_word] ∧ H a_marks = some (.lst (List.map V.bl marks)) ∧ H a_word = some (.lst (List.map V.int word)) ∧ (IsW marks.length word) ∧ (marks.length ≤ 400 ∧ word.length ≤ 1000) ∧ (∀ (H1 : Hp) (rA : Addr) (res : List Int), (res = numI marks word) → Same H H1 → H rA = none → H1 rA = some (.lst (List.map V.int res)) → Q (V.ref rA) H1)
theorem sc_numbers_in : FnScope ["marks", "word", "tops", "start", "heap", "size", "found"] ["marks", "word"] (defScope s_numbers_in) := ⟨rfl, rfl, rfl, by decide +kernel, rfl, by decide +kernel, by decide +kernel⟩
theorem ok_numbers_in (T : Txt K mg) : FnOk P w K mg base CX0 2 T.f_numbers_in T.fd_numbers_in ["marks", "word"] (sp_numbers_in K) := by
  refine T.F_numbers_in.ok sc_numbers_in (fun vs H Q E h => ?_) (fun cdv A outer s H vs Q E hr h => ?_)
  · obtain ⟨a_marks, marks, a_word, word, rfl, _⟩ := h; rfl
  · obtain ⟨a_marks, marks, a_word, word, rfl, h_marks, h_word, pre0, pre1, q⟩ := h
    have fr := Fr.nil H
    refine ⟨_, (pss_cons (ps_set (i := 2) sc_numbers_in.nd rfl (Or.inl rfl) (pe_lst pa_nil))
          (pss_cons (ps_set (i := 3) sc_numbers_in.nd rfl (Or.inl rfl) pe_int)
          (pss_cons (ps_for PassesOwn.never rfl (pi_enum (by rfl) T.m_enumerate (pa_cons (pe_call (ok_sizes T) (hr.mono (by decide)) (by rfl) T.g_sizes T.F_sizes.kp T.b_sizes .nil pass0 (pa_cons (pv 0) (pa_cons (pv 1) pa_nil))) pa_nil)) (pg_tup rfl (pgs_cons (pg_name (i := 4) sc_numbers_in.nd rfl (Or.inl rfl)) (pgs_cons (pg_name (i := 5) sc_numbers_in.nd rfl (Or.inl rfl)) pgs_nil))) (pss_cons (ps_expr (pe_bmK (K := K) (pe_bm PySem.F.plainAttrs_list PySem.F.slot_list_append PySem.F.type_list_append mt_append (pv 2) (pa_cons (pe_ifExp (pt_valS (pe_ix (show IxR _ (rIxL K) from ix_list) (pv 0) (pv 4) (fun _ _ => rfl))) (pe_op op_sub (pe_op op_add (pv 3) (pv 5)) pe_int) (pv 3)) pa_nil))))
          (pss_one (ps_aug (i := 3) sc_numbers_in.nd rfl (Or.inl rfl) (pv 5) ip_add))))
          (pss_cons (ps_set (i := 6) sc_numbers_in.nd rfl (Or.inl rfl) (pe_lst pa_nil))
          (pss_cons (ps_for PassesOwn.never rfl (pi_list (pv 1)) (pg_name (i := 4) sc_numbers_in.nd rfl (Or.inl rfl)) (pss_cons (ps_expr (pe_bmK (K := K) (pe_bm PySem.F.plainAttrs_list PySem.F.slot_list_append PySem.F.type_list_append mt_append (pv 6) (pa_cons (pe_ix (show IxR _ (rIxL K) from ix_list) (pv 2) (pv 4) (fun _ _ => rfl)) pa_nil))))
          (pss_one (ps_if (pt_valS (pe_ix (show IxR _ (rIxL K) from ix_list) (pv 0) (pv 4) (fun _ _ => rfl))) (pss_one (ps_augS (pv 2) (pv 4) get_list pe_int ip_sub set_list)) (pss_one (ps_augS (pv 2) (pv 4) get_list pe_int ip_add set_list))))))
          (pss_one (ps_ret (pv 6)))))))), ?_⟩
    refine ⟨(Evl.sz_of (show 0 ≤ 100000 by decide)), fun l_1 nl_2 => ?_⟩
    have fr : Fr H _ [(l_1, (.lst [] : HO))] := fr.new nl_2
    have fr : Fr H _ [(l_1, (.lst (List.map V.int ([])) : HO))] := fr
    refine ⟨_, rfl, _, rfl, a_marks, marks, a_word, word, rfl, (fr.same _ _ h_marks), (fr.same _ _ h_word), ?_, ?_, fun H_3 p_7 sizes_4 hp_6 sm_5 np_8 ep_9 => ?_⟩
    · walk_at "side"
    · walk_at "side"
    have fr : Fr H _ [(p_7, (.lst (List.map V.int sizes_4) : HO)), (l_1, (.lst (List.map V.int ([])) : HO))] := fr.cnew sm_5 np_8 ep_9
    subst hp_6
    have hszl := sizesI_length marks.length word
    refine ⟨_, _, rfl, (SqL.of fr.at0), ?_⟩
    refine for_it (walkE V.int (((sizesI marks.length word)))) (fun (i : Nat) σ H1 => ∃ (tops_10 : List Int) (start_11 : Int) (y_12 : Option V) (y_13 : Option V), σ = [some (V.ref a_marks), some (V.ref a_word), some (V.ref l_1), some (V.int start_11), y_12, y_13, none] ∧ Fr H H1 [(p_7, (.lst (List.map V.int (((sizesI marks.length word)))) : HO)), (l_1, (.lst (List.map V.int tops_10) : HO))] ∧ (tops_10 = topsTo marks word i 0) ∧ (start_11 = (startI word i : Int))) ?_ ?_ ?_ ?_
    · refine ⟨[], 0, _, _, rfl, fr, ?_, ?_⟩
      · rfl
      · rfl
    · rintro i σ H1 hi ⟨tops_10, start_11, y_12, y_13, rfl, fr, ht, hs⟩
      exact fr.at0
    · rintro i_14 x_16 s_19 H_17 H_18 hi_15 ⟨tops_10, start_11, y_12, y_13, rfl, fr, ht, hs⟩ ⟨T_20, y_21, rfl, nT_23, rfl, hy_24⟩
      have fr := fr.tmp (o := .tup [(V.int ((i_14 : Int))), (V.int y_21)]) nT_23
      refine ⟨_, _, rfl, (SqT.of upd_same), rfl, _, _, rfl, _, _, rfl, rfl, ?_⟩
      have hsz := size_at hy_24
      have htl : tops_10.length = i_14 := by rw [ht]; simp [topsTo]
      refine ⟨_, rfl, (.inl ⟨rfl, _, (SqL.of fr.at1)⟩), _, rfl, _, rfl, _, _, _, _, rfl, rfl, (SqL.of (fr.same _ _ h_marks)), (atD false ?_ ?_), _, rfl, ?_, ?_⟩
      · walk_at "side"
      · walk_at "side"
      · intro h26
        refine iteT ?_
        refine ⟨_, rfl, _, rfl, _, _, rfl, rfl, _, _, rfl, rfl, _, _, _, rfl, rfl, fr.at1, ?_, ?_⟩
        · walk_at "size"
        have fr : Fr H _ [(p_7, (.lst (List.map V.int (((sizesI marks.length word)))) : HO)), (l_1, (.lst (List.map V.int ((tops_10 ++ [((start_11 + y_21) - 1)]))) : HO))] := Fr.wrk fr 1 rfl (lst_app V.int _ _)
        refine ⟨_, rfl, _, rfl, _, _, rfl, rfl, ?_⟩
        refine ⟨(tops_10 ++ [((start_11 + y_21) - 1)]), (start_11 + y_21), _, _, rfl, fr, ?_, ?_⟩
        · rw [ht]; exact topsTo_next _ _ _ (by first | (rw [topI_t (by assumption), hs, hsz]; omega) | (rw [topI_f (by assumption), hs]; omega))
        · rw [hs, hsz]; rfl
      · intro h26
        refine iteF ?_
        refine ⟨_, rfl, _, _, _, rfl, rfl, fr.at1, ?_, ?_⟩
        · walk_at "size"
        have fr : Fr H _ [(p_7, (.lst (List.map V.int (((sizesI marks.length word)))) : HO)), (l_1, (.lst (List.map V.int ((tops_10 ++ [start_11]))) : HO))] := Fr.wrk fr 1 rfl (lst_app V.int _ _)
        refine ⟨_, rfl, _, rfl, _, _, rfl, rfl, ?_⟩
        refine ⟨(tops_10 ++ [start_11]), (start_11 + y_21), _, _, rfl, fr, ?_, ?_⟩
        · rw [ht]; exact topsTo_next _ _ _ (by first | (rw [topI_t (by assumption), hs, hsz]; omega) | (rw [topI_f (by assumption), hs]; omega))
        · rw [hs, hsz]; rfl
    rintro s_28 H_27 ⟨tops_10, start_11, y_12, y_13, rfl, fr, ht, hs⟩
    rw [sizesI_length] at ht
    have fr : Fr H _ [(l_1, (.lst (List.map V.int tops_10) : HO))] := Fr.dk fr 0
    refine ⟨(Evl.sz_of (show 0 ≤ 100000 by decide)), fun l_29 nl_30 => ?_⟩
    have fr : Fr H _ [(l_29, (.lst [] : HO)), (l_1, (.lst (List.map V.int tops_10) : HO))] := fr.new nl_30
    have fr : Fr H _ [(l_29, (.lst (List.map V.int ([])) : HO)), (l_1, (.lst (List.map V.int tops_10) : HO))] := fr
    refine ⟨_, rfl, _, rfl, ⟨_, (SqL.of (fr.same _ _ h_word))⟩, ?_⟩
    refine for_it (walkL V.int word) (fun (i : Nat) σ H1 => ∃ (tops_31 : List Int) (y_32 : Option V) (found_33 : List Int), σ = [some (V.ref a_marks), some (V.ref a_word), some (V.ref l_1), some (V.int start_11), y_32, y_13, some (V.ref l_29)] ∧ Fr H H1 [(l_29, (.lst (List.map V.int found_33) : HO)), (l_1, (.lst (List.map V.int tops_31) : HO))] ∧ (tops_31 = topsTo marks word marks.length i) ∧ (found_33 = numTo marks word i)) ?_ ?_ ?_ ?_
    · refine ⟨tops_10, _, [], rfl, fr, ?_, ?_⟩
      · exact ht
      · rfl
    · rintro i σ H1 hi ⟨tops_31, y_32, found_33, rfl, fr, ht, hf⟩
      exact (fr.same _ _ h_word)
    · rintro i_34 x_36 s_39 H_37 H_38 hi_35 ⟨tops_31, y_32, found_33, rfl, fr, ht, hf⟩ ⟨rfl, y_40, hy_41, rfl⟩
      have hb := pre0.at hy_41
      have htl : tops_31.length = marks.length := by rw [ht]; simp [topsTo]
      have hfl : found_33.length = i_34 := by rw [hf]; simp [numTo]
      refine ⟨_, rfl, (.inl ⟨rfl, _, (SqL.of fr.at0)⟩), _, rfl, _, rfl, _, _, _, _, rfl, rfl, (SqL.of fr.at1), (atD 0 ?_ ?_), _, _, _, rfl, rfl, fr.at0, ?_, ?_⟩
      · walk_at "side"
      · walk_at "side"
      · walk_at "size"
      have fr : Fr H _ [(l_29, (.lst (List.map V.int ((found_33 ++ [(List.getD tops_31 (Int.toNat y_40) 0)]))) : HO)), (l_1, (.lst (List.map V.int tops_31) : HO))] := Fr.wrk fr 0 rfl (lst_app V.int _ _)
      refine ⟨_, rfl, _, rfl, _, _, _, _, rfl, rfl, (SqL.of (fr.same _ _ h_marks)), (atD false ?_ ?_), _, rfl, ?_, ?_⟩
      · walk_at "side"
      · walk_at "side"
      · intro h42
        refine iteT ?_
        refine ⟨_, rfl, _, rfl, _, _, _, _, rfl, rfl, (SqL.of fr.at1), (atD 0 ?_ ?_), _, _, rfl, rfl, _, _, _, _, rfl, rfl, fr.at1, (ixDm ?_ ?_), ?_⟩
        · walk_at "side"
        · walk_at "side"
        · walk_at "side"
        · walk_at "side"
        have fr : Fr H _ [(l_29, (.lst (List.map V.int ((found_33 ++ [(List.getD tops_31 (Int.toNat y_40) 0)]))) : HO)), (l_1, (.lst (List.map V.int ((List.set tops_31 (Int.toNat y_40) ((List.getD tops_31 (Int.toNat y_40) 0) - 1)))) : HO))] := Fr.wrk fr 1 rfl (lst_set _ _ _ _)
        refine ⟨(List.set tops_31 (Int.toNat y_40) ((List.getD tops_31 (Int.toNat y_40) 0) - 1)), _, (found_33 ++ [(List.getD tops_31 (Int.toNat y_40) 0)]), rfl, fr, ?_, ?_⟩
        · rw [ht]; first | exact tops_t pre0 hy_41 (by assumption) | exact tops_f pre0 hy_41 (by assumption)
        · rw [hf, ht]; exact numTo_next pre0 hy_41
      · intro h42
        refine iteF ?_
        refine ⟨_, rfl, _, rfl, _, _, _, _, rfl, rfl, (SqL.of fr.at1), (atD 0 ?_ ?_), _, _, rfl, rfl, _, _, _, _, rfl, rfl, fr.at1, (ixDm ?_ ?_), ?_⟩
        · walk_at "side"
        · walk_at "side"
        · walk_at "side"
        · walk_at "side"
        have fr : Fr H _ [(l_29, (.lst (List.map V.int ((found_33 ++ [(List.getD tops_31 (Int.toNat y_40) 0)]))) : HO)), (l_1, (.lst (List.map V.int ((List.set tops_31 (Int.toNat y_40) ((List.getD tops_31 (Int.toNat y_40) 0) + 1)))) : HO))] := Fr.wrk fr 1 rfl (lst_set _ _ _ _)
        refine ⟨(List.set tops_31 (Int.toNat y_40) ((List.getD tops_31 (Int.toNat y_40) 0) + 1)), _, (found_33 ++ [(List.getD tops_31 (Int.toNat y_40) 0)]), rfl, fr, ?_, ?_⟩
        · rw [ht]; first | exact tops_t pre0 hy_41 (by assumption) | exact tops_f pre0 hy_41 (by assumption)
        · rw [hf, ht]; exact numTo_next pre0 hy_41
    rintro s_44 H_43 ⟨tops_31, y_32, found_33, rfl, fr, ht, hf⟩
    refine ⟨_, rfl, ?_⟩
    exact q _ _ found_33 (by rw [hf]; rfl) fr.same fr.n0 fr.at0
def sp_riffled (K : PySem.W.Frag) : Sp := fun vs H Q _ => ∃ (a_order : Addr) (order : List Int) (a_marks : Addr) (marks : List Bool) (a_word : Addr) (word : List Int), vs = [V.ref a_order, V.ref a_marks, V.ref a_word] ∧ H a_order = some (.lst (List.map V.int order)) ∧ H a_marks = some (.lst (List.map V.bl marks)) ∧ H a_word = some (.lst (List.map V.int word)) ∧ (IsW marks.length word) ∧ (word.length = order.length ∧ marks.length ≤ 400 ∧ order.length ≤ 60) ∧ (∀ (H1 : Hp) (rA : Addr) (res : List Int), (res = riffleI order marks word) → Same H H1 → H rA = none → H1 rA = some (.lst (List.map V.int res)) → Q (V.ref rA) H1)
theorem sc_riffled : FnScope ["order", "marks", "word", "place"] ["order", "marks", "word"] (defScope s_riffled) := ⟨rfl, rfl, rfl, by decide +kernel, rfl, by decide +kernel, by decide +kernel⟩
theorem ok_riffled (T : Txt K mg) : FnOk P w K mg base CX0 4 T.f_riffled T.fd_riffled ["order", "marks", "word"] (sp_riffled K) := by
  refine T.F_riffled.ok sc_riffled (fun vs H Q E h => ?_) (fun cdv A outer s H vs Q E hr h => ?_)
  · obtain ⟨a_order, order, a_marks, marks, a_word, word, rfl, _⟩ := h; rfl
  · obtain ⟨a_order, order, a_marks, marks, a_word, word, rfl, h_order, h_marks, h_word, pre0, pre1, q⟩ := h
    have fr := Fr.nil H
    refine ⟨_, (pss_cons (ps_expr (pe_call (ok_must_be_word T) (hr.mono (by decide)) (by rfl) T.g_must_be_word T.F_must_be_word.kp T.b_must_be_word .nil pass0 (pa_cons (pv 1) (pa_cons (pv 2) (pa_cons (pe_callB (show CallR _ _ (rLenL K) from call_lenL) (by rfl) T.m_len (by decide +kernel) (pa_cons (pv 0) pa_nil)) pa_nil)))))
          (pss_one (ps_ret (pe_lc (own := [("place", 3)]) (g := gName 3) (tt := tYes) rfl sc_riffled.nd (pi_list (pe_call (ok_numbers_in T) (hr.mono (by decide)) (by rfl) T.g_numbers_in T.F_numbers_in.kp T.b_numbers_in .nil pass0 (pa_cons (pv 1) (pa_cons (pv 2) pa_nil)))) (blkOk_by (N := ["order", "marks", "word", "place"]) (sc := (defScope s_riffled)) (by decide +kernel)) (fun _ _ _ _ _ => pg_name (i := 3) sc_riffled.nd rfl (Or.inl rfl)) (fun _ _ _ _ _ => pts_nil) (fun _ _ _ _ _ => (pe_ix (show IxR _ (rIxL K) from ix_list) (pv 0) (pv 3) (fun _ _ => rfl))))))), ?_⟩
    refine ⟨_, rfl, _, rfl, _, rfl, _, _, _, rfl, (SqL.of (fr.same _ _ h_order)), (List.length_map _), a_marks, marks, a_word, ((List.map V.int word)), ((order.length : Int)), rfl, (fr.same _ _ h_marks), (fr.same _ _ h_word), ?_, ?_, ?_, fun H_1  sm_3 => ?_⟩
    · exact Sca.ints _
    · simp; omega
    · exact isWordV_ints pre0 (by omega)
    have fr : Fr H _ [] := fr.call sm_3
    refine ⟨_, rfl, _, rfl, a_marks, marks, a_word, word, rfl, (fr.same _ _ h_marks), (fr.same _ _ h_word), ?_, ?_, fun H_4 p_8 numbers_in_5 hp_7 sm_6 np_9 ep_10 => ?_⟩
    · exact pre0
    · omega
    have fr : Fr H _ [(p_8, (.lst (List.map V.int numbers_in_5) : HO))] := fr.cnew sm_6 np_9 ep_10
    subst hp_7
    have hnl := numI_length marks word
    refine ⟨_, rfl, ⟨_, (SqL.of fr.at0)⟩, ?_⟩
    intro D_11 nD_12
    refine lc_it (walkL V.int (((numI marks word)))) (fun (i : Nat) H1 => Fr H H1 [(D_11, (.lst (List.map V.int ((List.map (fun y : Int => (List.getD order (Int.toNat y) 0)) (List.take i (((numI marks word))))))) : HO)), (p_8, (.lst (List.map V.int (((numI marks word)))) : HO))]) (fr.new nD_12) (fun i H1 hi fr => fr.at1) ?_ ?_
    · rintro i_14 x_18 H_16 H_17 hi_15 fr ⟨rfl, y_19, hy_20, rfl⟩
      refine ⟨rfl, ?_⟩
      have hb := (isOrd_numI marks pre0).bd hy_20; rw [numI_length] at hb
      refine ⟨_, rfl, _, rfl, _, _, _, _, rfl, rfl, (SqL.of (fr.same _ _ h_order)), (atD 0 ?_ ?_), _, (Fr.atk fr 0 rfl), ?_, ?_⟩
      · walk_at "side"
      · walk_at "side"
      · walk_at "csize"
      exact (Fr.wr fr).cast (lc_l hy_20)
    intro H_21 fr
    have fr : Fr H _ [(D_11, (.lst (List.map V.int ((List.map (fun y : Int => (List.getD order (Int.toNat y) 0)) ((numI marks word))))) : HO)), (p_8, (.lst (List.map V.int (((numI marks word)))) : HO))] := fr.cast (by rw [List.take_length])
    exact q _ _ ((List.map (fun y : Int => (List.getD order (Int.toNat y) 0)) ((numI marks word)))) (by rfl) fr.same fr.n0 fr.at0
def sp_Pack_riffle {K : PySem.W.Frag} {mg : Str → Option Value} (T : Txt K mg) : Sp := fun vs H Q _ => ∃ (a_slf : Addr) (slf : PK) (a_marks : Addr) (marks : List Bool) (a_word : Addr) (word : List Int) (Hm : Hp), vs = [V.ref a_slf, V.ref a_marks, V.ref a_word] ∧ Lent Hm H ([] ++ List.flatten [pkOwn T.C_Pack a_slf slf]) ∧ Hm a_marks = some (.lst (List.map V.bl marks)) ∧ Hm a_word = some (.lst (List.map V.int word)) ∧ (IsW marks.length word) ∧ (word.length = slf.order.length ∧ 1 ≤ marks.length ∧ marks.length ≤ 400 ∧ slf.order.length ≤ 60) ∧ (slf.past.length ≤ 1000) ∧ (∀ (H1 : Hp) (slf' : PK) (rA : Addr) (res : List Int), (slf'.order = riffleI slf.order marks word) → (slf'.past = slf.past ++ [(marks, word)]) → (res = riffleI slf.order marks word) → Fr Hm H1 ([(rA, (.lst (List.map V.int res) : HO))] ++ List.flatten [pkOwn T.C_Pack a_slf slf']) → Q (V.ref rA) H1)
theorem sc_Pack_riffle : FnScope ["self", "marks", "word"] ["self", "marks", "word"] (defScope s_Pack_riffle) := ⟨rfl, rfl, rfl, by decide +kernel, rfl, by decide +kernel, by decide +kernel⟩
theorem ok_Pack_riffle (T : Txt K mg) : FnOk P w K mg base CX0 5 T.f_Pack_riffle T.fd_Pack_riffle ["self", "marks", "word"] (sp_Pack_riffle T) := by
  refine T.F_Pack_riffle.ok sc_Pack_riffle (fun vs H Q E h => ?_) (fun cdv A outer s H vs Q E hr h => ?_)
  · obtain ⟨a_slf, slf, a_marks, marks, a_word, word, Hm, rfl, _⟩ := h; rfl
  · obtain ⟨a_slf, slf, a_marks, marks, a_word, word, Hm, rfl, hl, h_marks, h_word, pre0, pre1, pre2, q⟩ := h
    have fr : Fr Hm _ ([] ++ List.flatten [pkOwn T.C_Pack a_slf slf]) := hl.fr
    have fr : Fr Hm _ ([(a_slf, (.ins T.C_Pack slf.dx (pkF slf.a slf.b) : HO)), (slf.dx, (.own a_slf : HO)), (slf.a, (.lst (List.map V.int slf.order) : HO)), (slf.b, (.lst (List.map peRef slf.es) : HO))] ++ List.flatten [pesOwn slf.es]) := Fr.pkopen (pre := []) (ts := []) fr
    have hpl := pk_pl slf
    refine ⟨_, (pss_cons (ps_if (pt_not (pt_valS (pe_call (ok_are_marks T) (hr.mono (by decide)) (by rfl) T.g_are_marks T.F_are_marks.kp T.b_are_marks .nil pass0 (pa_cons (pv 1) pa_nil)))) pss_never pss_nil)
          (pss_cons (ps_fld (pv 0) (pe_call (ok_riffled T) (hr.mono (by decide)) (by rfl) T.g_riffled T.F_riffled.kp T.b_riffled .nil pass0 (pa_cons (pe_fld (pv 0) rfl) (pa_cons (pv 1) (pa_cons (pv 2) pa_nil)))) rfl)
          (pss_cons (ps_expr (pe_bmK (K := K) (pe_bm PySem.F.plainAttrs_list PySem.F.slot_list_append PySem.F.type_list_append mt_append (pe_fld (pv 0) rfl) (pa_cons (pe_tup (pa_cons (pe_callTy (show CallR _ _ (rListL K) from call_listL) (by rfl) T.m_list (by decide +kernel) (pa_cons (pv 1) pa_nil)) (pa_cons (pe_callTy (show CallR _ _ (rListL K) from call_listL) (by rfl) T.m_list (by decide +kernel) (pa_cons (pv 2) pa_nil)) pa_nil))) pa_nil))))
          (pss_one (ps_ret (pe_callTy (show CallR _ _ (rListL K) from call_listL) (by rfl) T.m_list (by decide +kernel) (pa_cons (pe_fld (pv 0) rfl) pa_nil))))))), ?_⟩
    refine ⟨_, rfl, a_marks, ((List.map V.bl marks)), rfl, (fr.same _ _ h_marks), ?_, ?_, fun H_1 are_marks_2 hp_4 sm_3 => ?_⟩
    · exact Sca.bls _
    · simp; omega
    have fr : Fr Hm _ ([(a_slf, (.ins T.C_Pack slf.dx (pkF slf.a slf.b) : HO)), (slf.dx, (.own a_slf : HO)), (slf.a, (.lst (List.map V.int slf.order) : HO)), (slf.b, (.lst (List.map peRef slf.es) : HO))] ++ List.flatten [pesOwn slf.es]) := fr.call sm_3
    subst hp_4
    refine ⟨_, rfl, ?_, ?_⟩
    · intro h5
      refine iteF ?_
      refine ⟨_, rfl, _, _, _, _, _, rfl, fr.at0, T.cl_Pack, T.na_Pack_cards, (pkF_cards _ _), _, rfl, _, rfl, slf.a, slf.order, a_marks, marks, a_word, word, rfl, fr.at2, (fr.same _ _ h_marks), (fr.same _ _ h_word), ?_, ?_, fun H_6 p_10 riffled_7 hp_9 sm_8 np_11 ep_12 => ?_⟩
      · exact pre0
      · omega
      have fr : Fr Hm _ ([(p_10, (.lst (List.map V.int riffled_7) : HO)), (a_slf, (.ins T.C_Pack slf.dx (pkF slf.a slf.b) : HO)), (slf.dx, (.own a_slf : HO)), (slf.a, (.lst (List.map V.int slf.order) : HO)), (slf.b, (.lst (List.map peRef slf.es) : HO))] ++ List.flatten [pesOwn slf.es]) := fr.cnew sm_8 np_11 ep_12
      subst hp_9
      refine ⟨_, rfl, _, _, _, _, rfl, fr.at1, T.cl_Pack, T.na_Pack_cards, (pkF_len _ _), ?_⟩
      have fr : Fr Hm _ ([(p_10, (.lst (List.map V.int (((riffleI slf.order marks word)))) : HO)), (a_slf, (.ins T.C_Pack slf.dx (pkF p_10 slf.b) : HO)), (slf.dx, (.own a_slf : HO)), (slf.a, (.lst (List.map V.int slf.order) : HO)), (slf.b, (.lst (List.map peRef slf.es) : HO))] ++ List.flatten [pesOwn slf.es]) := Fr.wrk fr 1 rfl (congrArg (HO.ins T.C_Pack slf.dx) (pkF_put slf.a slf.b p_10))
      have fr : Fr Hm _ ([(p_10, (.lst (List.map V.int (((riffleI slf.order marks word)))) : HO)), (a_slf, (.ins T.C_Pack slf.dx (pkF p_10 slf.b) : HO)), (slf.dx, (.own a_slf : HO)), (slf.b, (.lst (List.map peRef slf.es) : HO))] ++ List.flatten [pesOwn slf.es]) := Fr.dk fr 3
      refine ⟨_, rfl, _, _, _, _, _, rfl, fr.at1, T.cl_Pack, T.na_Pack_past, (pkF_past _ _), (.inl ⟨rfl, _, (SqL.of fr.at3)⟩), _, rfl, _, _, rfl, (.inl (SqL.of (fr.same _ _ h_marks))), fun l_13 nl_14 => ?_⟩
      have fr : Fr Hm _ ([(l_13, (.lst (List.map V.bl marks) : HO)), (p_10, (.lst (List.map V.int (((riffleI slf.order marks word)))) : HO)), (a_slf, (.ins T.C_Pack slf.dx (pkF p_10 slf.b) : HO)), (slf.dx, (.own a_slf : HO)), (slf.b, (.lst (List.map peRef slf.es) : HO))] ++ List.flatten [pesOwn slf.es]) := fr.new nl_14
      refine ⟨_, rfl, _, _, rfl, (.inl (SqL.of (fr.same _ _ h_word))), fun l_15 nl_16 => ?_⟩
      have fr : Fr Hm _ ([(l_15, (.lst (List.map V.int word) : HO)), (l_13, (.lst (List.map V.bl marks) : HO)), (p_10, (.lst (List.map V.int (((riffleI slf.order marks word)))) : HO)), (a_slf, (.ins T.C_Pack slf.dx (pkF p_10 slf.b) : HO)), (slf.dx, (.own a_slf : HO)), (slf.b, (.lst (List.map peRef slf.es) : HO))] ++ List.flatten [pesOwn slf.es]) := fr.new nl_16
      refine ⟨(Evl.sz_of (show 2 ≤ 100000 by decide)), fun t_17 nt_18 => ?_⟩
      have fr : Fr Hm _ ([(t_17, (.tup [(V.ref l_13), (V.ref l_15)] : HO)), (l_15, (.lst (List.map V.int word) : HO)), (l_13, (.lst (List.map V.bl marks) : HO)), (p_10, (.lst (List.map V.int (((riffleI slf.order marks word)))) : HO)), (a_slf, (.ins T.C_Pack slf.dx (pkF p_10 slf.b) : HO)), (slf.dx, (.own a_slf : HO)), (slf.b, (.lst (List.map peRef slf.es) : HO))] ++ List.flatten [pesOwn slf.es]) := fr.new nt_18
      refine ⟨_, _, _, rfl, rfl, (Fr.atk fr 6 rfl), ?_, ?_⟩
      · rw [pc_len2 (pk_past slf)]; refine Evl.sz_lt ?_; omega
      have fr : Fr Hm _ ([(t_17, (.tup [(V.ref l_13), (V.ref l_15)] : HO)), (l_15, (.lst (List.map V.int word) : HO)), (l_13, (.lst (List.map V.bl marks) : HO)), (p_10, (.lst (List.map V.int (((riffleI slf.order marks word)))) : HO)), (a_slf, (.ins T.C_Pack slf.dx (pkF p_10 slf.b) : HO)), (slf.dx, (.own a_slf : HO)), (slf.b, (.lst (List.map peRef ((slf.es ++ [(⟨t_17, l_13, l_15, marks, word⟩ : PE)]))) : HO))] ++ List.flatten [pesOwn slf.es]) := Fr.wrk fr 6 rfl lst_pe_app
      have fr : Fr Hm _ ([(l_15, (.lst (List.map V.int word) : HO)), (t_17, (.tup [(V.ref l_13), (V.ref l_15)] : HO)), (l_13, (.lst (List.map V.bl marks) : HO)), (p_10, (.lst (List.map V.int (((riffleI slf.order marks word)))) : HO)), (a_slf, (.ins T.C_Pack slf.dx (pkF p_10 slf.b) : HO)), (slf.dx, (.own a_slf : HO)), (slf.b, (.lst (List.map peRef ((slf.es ++ [(⟨t_17, l_13, l_15, marks, word⟩ : PE)]))) : HO))] ++ List.flatten [pesOwn slf.es]) := Fr.upk fr 1 rfl
      have fr : Fr Hm _ ([(l_13, (.lst (List.map V.bl marks) : HO)), (l_15, (.lst (List.map V.int word) : HO)), (t_17, (.tup [(V.ref l_13), (V.ref l_15)] : HO)), (p_10, (.lst (List.map V.int (((riffleI slf.order marks word)))) : HO)), (a_slf, (.ins T.C_Pack slf.dx (pkF p_10 slf.b) : HO)), (slf.dx, (.own a_slf : HO)), (slf.b, (.lst (List.map peRef ((slf.es ++ [(⟨t_17, l_13, l_15, marks, word⟩ : PE)]))) : HO))] ++ List.flatten [pesOwn slf.es]) := Fr.upk fr 2 rfl
      have fr : Fr Hm _ ([(t_17, (.tup [(V.ref l_13), (V.ref l_15)] : HO)), (l_13, (.lst (List.map V.bl marks) : HO)), (l_15, (.lst (List.map V.int word) : HO)), (p_10, (.lst (List.map V.int (((riffleI slf.order marks word)))) : HO)), (a_slf, (.ins T.C_Pack slf.dx (pkF p_10 slf.b) : HO)), (slf.dx, (.own a_slf : HO)), (slf.b, (.lst (List.map peRef ((slf.es ++ [(⟨t_17, l_13, l_15, marks, word⟩ : PE)]))) : HO))] ++ List.flatten [pesOwn slf.es]) := Fr.upk fr 2 rfl
      have fr : Fr Hm _ ([(p_10, (.lst (List.map V.int (((riffleI slf.order marks word)))) : HO)), (a_slf, (.ins T.C_Pack slf.dx (pkF p_10 slf.b) : HO)), (slf.dx, (.own a_slf : HO)), (slf.b, (.lst (List.map peRef ((slf.es ++ [(⟨t_17, l_13, l_15, marks, word⟩ : PE)]))) : HO))] ++ List.flatten [pesOwn ((slf.es ++ [(⟨t_17, l_13, l_15, marks, word⟩ : PE)]))]) := Fr.padd (pre := [(p_10, (.lst (List.map V.int (((riffleI slf.order marks word)))) : HO)), (a_slf, (.ins T.C_Pack slf.dx (pkF p_10 slf.b) : HO)), (slf.dx, (.own a_slf : HO)), (slf.b, (.lst (List.map peRef ((slf.es ++ [(⟨t_17, l_13, l_15, marks, word⟩ : PE)]))) : HO))]) (ts := []) (es := slf.es) fr
      refine ⟨_, rfl, _, _, _, _, _, rfl, fr.at1, T.cl_Pack, T.na_Pack_cards, (pkF_cards _ _), _, _, rfl, (.inl (SqL.of fr.at0)), fun l_19 nl_20 => ?_⟩
      have fr : Fr Hm _ ([(l_19, (.lst (List.map V.int (((riffleI slf.order marks word)))) : HO)), (p_10, (.lst (List.map V.int (((riffleI slf.order marks word)))) : HO)), (a_slf, (.ins T.C_Pack slf.dx (pkF p_10 slf.b) : HO)), (slf.dx, (.own a_slf : HO)), (slf.b, (.lst (List.map peRef ((slf.es ++ [(⟨t_17, l_13, l_15, marks, word⟩ : PE)]))) : HO))] ++ List.flatten [pesOwn ((slf.es ++ [(⟨t_17, l_13, l_15, marks, word⟩ : PE)]))]) := fr.new nl_20
      have fr : Fr Hm _ ([(slf.b, (.lst (List.map peRef ((slf.es ++ [(⟨t_17, l_13, l_15, marks, word⟩ : PE)]))) : HO)), (l_19, (.lst (List.map V.int (((riffleI slf.order marks word)))) : HO)), (p_10, (.lst (List.map V.int (((riffleI slf.order marks word)))) : HO)), (a_slf, (.ins T.C_Pack slf.dx (pkF p_10 slf.b) : HO)), (slf.dx, (.own a_slf : HO))] ++ List.flatten [pesOwn ((slf.es ++ [(⟨t_17, l_13, l_15, marks, word⟩ : PE)]))]) := Fr.upk fr 4 rfl
      have fr : Fr Hm _ ([(p_10, (.lst (List.map V.int (((riffleI slf.order marks word)))) : HO)), (slf.b, (.lst (List.map peRef ((slf.es ++ [(⟨t_17, l_13, l_15, marks, word⟩ : PE)]))) : HO)), (l_19, (.lst (List.map V.int (((riffleI slf.order marks word)))) : HO)), (a_slf, (.ins T.C_Pack slf.dx (pkF p_10 slf.b) : HO)), (slf.dx, (.own a_slf : HO))] ++ List.flatten [pesOwn ((slf.es ++ [(⟨t_17, l_13, l_15, marks, word⟩ : PE)]))]) := Fr.upk fr 2 rfl
      have fr : Fr Hm _ ([(slf.dx, (.own a_slf : HO)), (p_10, (.lst (List.map V.int (((riffleI slf.order marks word)))) : HO)), (slf.b, (.lst (List.map peRef ((slf.es ++ [(⟨t_17, l_13, l_15, marks, word⟩ : PE)]))) : HO)), (l_19, (.lst (List.map V.int (((riffleI slf.order marks word)))) : HO)), (a_slf, (.ins T.C_Pack slf.dx (pkF p_10 slf.b) : HO))] ++ List.flatten [pesOwn ((slf.es ++ [(⟨t_17, l_13, l_15, marks, word⟩ : PE)]))]) := Fr.upk fr 4 rfl
      have fr : Fr Hm _ ([(a_slf, (.ins T.C_Pack slf.dx (pkF p_10 slf.b) : HO)), (slf.dx, (.own a_slf : HO)), (p_10, (.lst (List.map V.int (((riffleI slf.order marks word)))) : HO)), (slf.b, (.lst (List.map peRef ((slf.es ++ [(⟨t_17, l_13, l_15, marks, word⟩ : PE)]))) : HO)), (l_19, (.lst (List.map V.int (((riffleI slf.order marks word)))) : HO))] ++ List.flatten [pesOwn ((slf.es ++ [(⟨t_17, l_13, l_15, marks, word⟩ : PE)]))]) := Fr.upk fr 4 rfl
      have fr : Fr Hm _ ([(l_19, (.lst (List.map V.int (((riffleI slf.order marks word)))) : HO))] ++ List.flatten [pkOwn T.C_Pack a_slf ((⟨slf.dx, p_10, slf.b, (slf.es ++ [(⟨t_17, l_13, l_15, marks, word⟩ : PE)]), ((riffleI slf.order marks word))⟩ : PK))]) := Fr.pkclose (pre := [(l_19, (.lst (List.map V.int (((riffleI slf.order marks word)))) : HO))]) (ts := []) fr
      exact q _ (⟨slf.dx, p_10, slf.b, (slf.es ++ [(⟨t_17, l_13, l_15, marks, word⟩ : PE)]), ((riffleI slf.order marks word))⟩ : PK) l_19 (((riffleI slf.order marks word))) (by rfl) (by exact pk_app (pk_past slf)) (by rfl)  fr
    · intro h5
      exfalso
      rw [marksV_bls (by omega)] at h5; cases h5
def sp_undone (K : PySem.W.Frag) : Sp := fun vs H Q _ => ∃ (a_order : Addr) (order : List Int) (a_marks : Addr) (marks : List Bool) (a_word : Addr) (word : List Int), vs = [V.ref a_order, V.ref a_marks, V.ref a_word] ∧ H a_order = some (.lst (List.map V.int order)) ∧ H a_marks = some (.lst (List.map V.bl marks)) ∧ H a_word = some (.lst (List.map V.int word)) ∧ (IsW marks.length word) ∧ (word.length = order.length ∧ marks.length ≤ 400 ∧ order.length ≤ 60) ∧ (∀ (H1 : Hp) (rA : Addr) (res : List Int), (res = undoneI order marks word) → Same H H1 → H rA = none → H1 rA = some (.lst (List.map V.int res)) → Q (V.ref rA) H1)
theorem sc_undone : FnScope ["order", "marks", "word", "found", "card", "place"] ["order", "marks", "word"] (defScope s_undone) := ⟨rfl, rfl, rfl, by decide +kernel, rfl, by decide +kernel, by decide +kernel⟩
theorem ok_undone (T : Txt K mg) : FnOk P w K mg base CX0 4 T.f_undone T.fd_undone ["order", "marks", "word"] (sp_undone K) := by
  refine T.F_undone.ok sc_undone (fun vs H Q E h => ?_) (fun cdv A outer s H vs Q E hr h => ?_)
  · obtain ⟨a_order, order, a_marks, marks, a_word, word, rfl, _⟩ := h; rfl
  · obtain ⟨a_order, order, a_marks, marks, a_word, word, rfl, h_order, h_marks, h_word, pre0, pre1, q⟩ := h
    have fr := Fr.nil H
    refine ⟨_, (pss_cons (ps_expr (pe_call (ok_must_be_word T) (hr.mono (by decide)) (by rfl) T.g_must_be_word T.F_must_be_word.kp T.b_must_be_word .nil pass0 (pa_cons (pv 1) (pa_cons (pv 2) (pa_cons (pe_callB (show CallR _ _ (rLenL K) from call_lenL) (by rfl) T.m_len (by decide +kernel) (pa_cons (pv 0) pa_nil)) pa_nil)))))
          (pss_cons (ps_setLc (i := 3) (own := [("card", 4)]) (g := gName 4) (tt := tYes) rfl sc_undone.nd rfl rfl (sw_true rfl rfl rfl (by decide +kernel)) (pi_list (pv 0)) (blkOk_by (N := ["order", "marks", "word", "found", "card", "place"]) (sc := (defScope s_undone)) (by decide +kernel)) (fun _ _ _ _ _ => pg_name (i := 4) sc_undone.nd rfl (Or.inl rfl)) (fun _ _ _ _ _ => pts_nil) (fun _ _ _ _ _ => pe_int))
          (pss_cons (ps_for PassesOwn.never rfl (pi_zip (by rfl) T.m_zip (pa_cons (pv 0) (pa_cons (pe_call (ok_numbers_in T) (hr.mono (by decide)) (by rfl) T.g_numbers_in T.F_numbers_in.kp T.b_numbers_in .nil pass0 (pa_cons (pv 1) (pa_cons (pv 2) pa_nil))) pa_nil))) (pg_tup rfl (pgs_cons (pg_name (i := 4) sc_undone.nd rfl (Or.inl rfl)) (pgs_cons (pg_name (i := 5) sc_undone.nd rfl (Or.inl rfl)) pgs_nil))) (pss_one (ps_asg (pv 4) (pg_sub (pv 3) (pv 5) set_list))))
          (pss_one (ps_ret (pv 3)))))), ?_⟩
    refine ⟨_, rfl, _, rfl, _, rfl, _, _, _, rfl, (SqL.of (fr.same _ _ h_order)), (List.length_map _), a_marks, marks, a_word, ((List.map V.int word)), ((order.length : Int)), rfl, (fr.same _ _ h_marks), (fr.same _ _ h_word), ?_, ?_, ?_, fun H_1  sm_3 => ?_⟩
    · exact Sca.ints _
    · simp; omega
    · exact isWordV_ints pre0 (by omega)
    have fr : Fr H _ [] := fr.call sm_3
    refine ⟨_, rfl, _, rfl, ⟨_, (SqL.of (fr.same _ _ h_order))⟩, ?_⟩
    intro D_4 nD_5
    refine lc_it (walkL V.int order) (fun (i : Nat) H1 => Fr H H1 [(D_4, (.lst (List.map V.int ((List.map (fun y : Int => 0) (List.take i order)))) : HO))]) (fr.new nD_5) (fun i H1 hi fr => (fr.same _ _ h_order)) ?_ ?_
    · rintro i_7 x_11 H_9 H_10 hi_8 fr ⟨rfl, y_12, hy_13, rfl⟩
      refine ⟨rfl, ?_⟩
      refine ⟨_, (Fr.atk fr 0 rfl), ?_, ?_⟩
      · walk_at "csize"
      exact (Fr.wr fr).cast (lc_l hy_13)
    intro H_14 fr
    have fr : Fr H _ [(D_4, (.lst (List.map V.int ((List.map (fun y : Int => 0) order))) : HO))] := fr.cast (by rw [List.take_length])
    refine ⟨_, rfl, _, rfl, _, rfl, a_marks, marks, a_word, word, rfl, (fr.same _ _ h_marks), (fr.same _ _ h_word), ?_, ?_, fun H_15 p_19 numbers_in_16 hp_18 sm_17 np_20 ep_21 => ?_⟩
    · exact pre0
    · omega
    have fr : Fr H _ [(p_19, (.lst (List.map V.int numbers_in_16) : HO)), (D_4, (.lst (List.map V.int ((List.map (fun y : Int => 0) order))) : HO))] := fr.cnew sm_17 np_20 ep_21
    subst hp_18
    have hnl := numI_length marks word
    refine ⟨_, _, _, _, rfl, (SqL.of (fr.same _ _ h_order)), (SqL.of fr.at0), ?_⟩
    refine for_it (walkZ V.int V.int order (((numI marks word)))) (fun (i : Nat) σ H1 => ∃ (found_22 : List Int) (y_23 : Option V) (y_24 : Option V), σ = [some (V.ref a_order), some (V.ref a_marks), some (V.ref a_word), some (V.ref D_4), y_23, y_24] ∧ Fr H H1 [(p_19, (.lst (List.map V.int (((numI marks word)))) : HO)), (D_4, (.lst (List.map V.int found_22) : HO))] ∧ (found_22 = undoTo order (numI marks word) i)) ?_ ?_ ?_ ?_
    · refine ⟨(List.map (fun y : Int => 0) order), _, _, rfl, fr, ?_⟩
      · exact undoTo_zero _ _
    · rintro i σ H1 hi ⟨found_22, y_23, y_24, rfl, fr, hf⟩
      exact ⟨(fr.same _ _ h_order), fr.at0⟩
    · rintro i_25 x_27 s_30 H_28 H_29 hi_26 ⟨found_22, y_23, y_24, rfl, fr, hf⟩ ⟨T_31, y_32, z_33, rfl, nT_34, rfl, hy_35, hz_36⟩
      have fr := fr.tmp (o := .tup [(V.int y_32), (V.int z_33)]) nT_34
      refine ⟨_, _, rfl, (SqT.of upd_same), rfl, _, _, rfl, _, _, rfl, rfl, ?_⟩
      have hb := (isOrd_numI marks pre0).bd hz_36; rw [numI_length] at hb
      have hfl : found_22.length = order.length := by rw [hf]; simp [undoTo]
      refine ⟨_, rfl, _, rfl, _, rfl, _, _, _, _, rfl, rfl, fr.at1, (ixDm ?_ ?_), ?_⟩
      · walk_at "side"
      · walk_at "side"
      have fr : Fr H _ [(p_19, (.lst (List.map V.int (((numI marks word)))) : HO)), (D_4, (.lst (List.map V.int ((List.set found_22 (Int.toNat z_33) y_32))) : HO))] := Fr.wrk fr 1 rfl (lst_set _ _ _ _)
      refine ⟨(List.set found_22 (Int.toNat z_33) y_32), _, _, rfl, fr, ?_⟩
      · rw [hf]; exact undoTo_next (isOrd_numI marks pre0) (by simp; omega) hy_35 hz_36
    rintro s_38 H_37 ⟨found_22, y_23, y_24, rfl, fr, hf⟩
    have fr : Fr H _ [(D_4, (.lst (List.map V.int found_22) : HO))] := Fr.dk fr 0
    refine ⟨_, rfl, ?_⟩
    exact q _ _ found_22 (by rw [hf]; exact undoTo_all (isOrd_numI marks pre0) (by simp; omega)) fr.same fr.n0 fr.at0
def sp_Pack_undo {K : PySem.W.Frag} {mg : Str → Option Value} (T : Txt K mg) : Sp := fun vs H Q _ => ∃ (a_slf : Addr) (slf : PK) (Hm : Hp), vs = [V.ref a_slf] ∧ Lent Hm H ([] ++ List.flatten [pkOwn T.C_Pack a_slf slf]) ∧ (0 < slf.past.length) ∧ (IsW (slf.past.getLastD ([], [])).1.length (slf.past.getLastD ([], [])).2) ∧ ((slf.past.getLastD ([], [])).2.length = slf.order.length ∧ (slf.past.getLastD ([], [])).1.length ≤ 400 ∧ slf.order.length ≤ 60) ∧ (∀ (H1 : Hp) (slf' : PK) (rA : Addr) (res : List Int), (slf'.order = undoneI slf.order (slf.past.getLastD ([], [])).1 (slf.past.getLastD ([], [])).2) → (slf'.past = slf.past.dropLast) → (res = undoneI slf.order (slf.past.getLastD ([], [])).1 (slf.past.getLastD ([], [])).2) → Fr Hm H1 ([(rA, (.lst (List.map V.int res) : HO))] ++ List.flatten [pkOwn T.C_Pack a_slf slf']) → Q (V.ref rA) H1)
theorem sc_Pack_undo : FnScope ["self", "marks", "word"] ["self"] (defScope s_Pack_undo) := ⟨rfl, rfl, rfl, by decide +kernel, rfl, by decide +kernel, by decide +kernel⟩
theorem ok_Pack_undo (T : Txt K mg) : FnOk P w K mg base CX0 5 T.f_Pack_undo T.fd_Pack_undo ["self"] (sp_Pack_undo T) := by
  refine T.F_Pack_undo.ok sc_Pack_undo (fun vs H Q E h => ?_) (fun cdv A outer s H vs Q E hr h => ?_)
  · obtain ⟨a_slf, slf, Hm, rfl, _⟩ := h; rfl
  · obtain ⟨a_slf, slf, Hm, rfl, hl, pre0, pre1, pre2, q⟩ := h
    have fr : Fr Hm _ ([] ++ List.flatten [pkOwn T.C_Pack a_slf slf]) := hl.fr
    have fr : Fr Hm _ ([(a_slf, (.ins T.C_Pack slf.dx (pkF slf.a slf.b) : HO)), (slf.dx, (.own a_slf : HO)), (slf.a, (.lst (List.map V.int slf.order) : HO)), (slf.b, (.lst (List.map peRef slf.es) : HO))] ++ List.flatten [pesOwn slf.es]) := Fr.pkopen (pre := []) (ts := []) fr
    have hpl := pk_pl slf
    refine ⟨_, (pss_cons (ps_if (pt_cmpR op_eqS (pe_callB (show CallR _ _ (rLenL K) from call_lenL) (by rfl) T.m_len (by decide +kernel) (pa_cons (pe_fld (pv 0) rfl) pa_nil)) pe_int (nomark _)) pss_never pss_nil)
          (pss_cons (ps_asg (pe_bm0 PySem.F.plainAttrs_list PySem.F.slot_list_pop PySem.F.type_list_pop mt_pop (pe_fld (pv 0) rfl)) (pg_tup rfl (pgs_cons (pg_name (i := 1) sc_Pack_undo.nd rfl (Or.inl rfl)) (pgs_cons (pg_name (i := 2) sc_Pack_undo.nd rfl (Or.inl rfl)) pgs_nil))))
          (pss_cons (ps_fld (pv 0) (pe_call (ok_undone T) (hr.mono (by decide)) (by rfl) T.g_undone T.F_undone.kp T.b_undone .nil pass0 (pa_cons (pe_fld (pv 0) rfl) (pa_cons (pv 1) (pa_cons (pv 2) pa_nil)))) rfl)
          (pss_one (ps_ret (pe_callTy (show CallR _ _ (rListL K) from call_listL) (by rfl) T.m_list (by decide +kernel) (pa_cons (pe_fld (pv 0) rfl) pa_nil))))))), ?_⟩
    refine ⟨_, rfl, _, _, _, _, _, rfl, fr.at0, T.cl_Pack, T.na_Pack_past, (pkF_past _ _), _, _, _, rfl, (SqL.of fr.at3), (pc_len2 (pk_past slf)), _, _, rfl, rfl, ?_, ?_⟩
    · intro h1
      exfalso
      omega
    · intro h1
      refine ⟨_, rfl, ?_⟩
      refine iteF ?_
      have hne_2 : slf.es ≠ [] := pc_ne (pk_past slf) (by omega)
      refine ⟨_, rfl, _, _, _, _, _, rfl, fr.at0, T.cl_Pack, T.na_Pack_past, (pkF_past _ _), (.inl ⟨rfl, _, (SqL.of fr.at3)⟩), _, _, (V.ref (List.getLast slf.es hne_2).t), rfl, rfl, fr.at3, (pe_last hne_2), ?_⟩
      have fr : Fr Hm _ ([(a_slf, (.ins T.C_Pack slf.dx (pkF slf.a slf.b) : HO)), (slf.dx, (.own a_slf : HO)), (slf.a, (.lst (List.map V.int slf.order) : HO)), (slf.b, (.lst (List.map peRef ((List.dropLast slf.es))) : HO))] ++ List.flatten [pesOwn slf.es]) := Fr.wrk fr 3 rfl lst_pe_pop
      have fr : Fr Hm _ ([((PE.t (List.getLast slf.es hne_2)), (.tup [V.ref (PE.m (List.getLast slf.es hne_2)), V.ref (PE.w (List.getLast slf.es hne_2))] : HO)), ((PE.m (List.getLast slf.es hne_2)), (.lst (List.map V.bl ((PE.marks (List.getLast slf.es hne_2)))) : HO)), ((PE.w (List.getLast slf.es hne_2)), (.lst (List.map V.int ((PE.word (List.getLast slf.es hne_2)))) : HO)), (a_slf, (.ins T.C_Pack slf.dx (pkF slf.a slf.b) : HO)), (slf.dx, (.own a_slf : HO)), (slf.a, (.lst (List.map V.int slf.order) : HO)), (slf.b, (.lst (List.map peRef ((List.dropLast slf.es))) : HO))] ++ List.flatten [pesOwn ((List.dropLast slf.es))]) := Fr.ppop (pre := [(a_slf, (.ins T.C_Pack slf.dx (pkF slf.a slf.b) : HO)), (slf.dx, (.own a_slf : HO)), (slf.a, (.lst (List.map V.int slf.order) : HO)), (slf.b, (.lst (List.map peRef ((List.dropLast slf.es))) : HO))]) (ts := []) fr hne_2
      refine ⟨_, _, rfl, (SqT.of fr.at0), rfl, _, _, rfl, _, _, rfl, rfl, ?_⟩
      have hlc := pc_last (pk_past slf) (by assumption) ([], [])
      have fr : Fr Hm _ ([((PE.m (List.getLast slf.es hne_2)), (.lst (List.map V.bl ((PE.marks (List.getLast slf.es hne_2)))) : HO)), ((PE.w (List.getLast slf.es hne_2)), (.lst (List.map V.int ((PE.word (List.getLast slf.es hne_2)))) : HO)), (a_slf, (.ins T.C_Pack slf.dx (pkF slf.a slf.b) : HO)), (slf.dx, (.own a_slf : HO)), (slf.a, (.lst (List.map V.int slf.order) : HO)), (slf.b, (.lst (List.map peRef ((List.dropLast slf.es))) : HO))] ++ List.flatten [pesOwn ((List.dropLast slf.es))]) := Fr.dk fr 0
      refine ⟨_, rfl, _, _, _, _, _, rfl, fr.at2, T.cl_Pack, T.na_Pack_cards, (pkF_cards _ _), _, rfl, _, rfl, slf.a, slf.order, (PE.m (List.getLast slf.es hne_2)), ((PE.marks (List.getLast slf.es hne_2))), (PE.w (List.getLast slf.es hne_2)), ((PE.word (List.getLast slf.es hne_2))), rfl, (Fr.atk fr 4 rfl), fr.at0, fr.at1, ?_, ?_, fun H_3 p_7 undone_4 hp_6 sm_5 np_8 ep_9 => ?_⟩
      · exact pk_lw hlc pre1
      · have hll := pk_ll hlc; omega
      have fr : Fr Hm _ ([(p_7, (.lst (List.map V.int undone_4) : HO)), ((PE.m (List.getLast slf.es hne_2)), (.lst (List.map V.bl ((PE.marks (List.getLast slf.es hne_2)))) : HO)), ((PE.w (List.getLast slf.es hne_2)), (.lst (List.map V.int ((PE.word (List.getLast slf.es hne_2)))) : HO)), (a_slf, (.ins T.C_Pack slf.dx (pkF slf.a slf.b) : HO)), (slf.dx, (.own a_slf : HO)), (slf.a, (.lst (List.map V.int slf.order) : HO)), (slf.b, (.lst (List.map peRef ((List.dropLast slf.es))) : HO))] ++ List.flatten [pesOwn ((List.dropLast slf.es))]) := fr.cnew sm_5 np_8 ep_9
      subst hp_6
      refine ⟨_, rfl, _, _, _, _, rfl, fr.at3, T.cl_Pack, T.na_Pack_cards, (pkF_len _ _), ?_⟩
      have fr : Fr Hm _ ([(p_7, (.lst (List.map V.int (((undoneI slf.order ((PE.marks (List.getLast slf.es hne_2))) ((PE.word (List.getLast slf.es hne_2))))))) : HO)), ((PE.m (List.getLast slf.es hne_2)), (.lst (List.map V.bl ((PE.marks (List.getLast slf.es hne_2)))) : HO)), ((PE.w (List.getLast slf.es hne_2)), (.lst (List.map V.int ((PE.word (List.getLast slf.es hne_2)))) : HO)), (a_slf, (.ins T.C_Pack slf.dx (pkF p_7 slf.b) : HO)), (slf.dx, (.own a_slf : HO)), (slf.a, (.lst (List.map V.int slf.order) : HO)), (slf.b, (.lst (List.map peRef ((List.dropLast slf.es))) : HO))] ++ List.flatten [pesOwn ((List.dropLast slf.es))]) := Fr.wrk fr 3 rfl (congrArg (HO.ins T.C_Pack slf.dx) (pkF_put slf.a slf.b p_7))
      have fr : Fr Hm _ ([(p_7, (.lst (List.map V.int (((undoneI slf.order ((PE.marks (List.getLast slf.es hne_2))) ((PE.word (List.getLast slf.es hne_2))))))) : HO)), ((PE.m (List.getLast slf.es hne_2)), (.lst (List.map V.bl ((PE.marks (List.getLast slf.es hne_2)))) : HO)), ((PE.w (List.getLast slf.es hne_2)), (.lst (List.map V.int ((PE.word (List.getLast slf.es hne_2)))) : HO)), (a_slf, (.ins T.C_Pack slf.dx (pkF p_7 slf.b) : HO)), (slf.dx, (.own a_slf : HO)), (slf.b, (.lst (List.map peRef ((List.dropLast slf.es))) : HO))] ++ List.flatten [pesOwn ((List.dropLast slf.es))]) := Fr.dk fr 5
      refine ⟨_, rfl, _, _, _, _, _, rfl, fr.at3, T.cl_Pack, T.na_Pack_cards, (pkF_cards _ _), _, _, rfl, (.inl (SqL.of fr.at0)), fun l_10 nl_11 => ?_⟩
      have fr : Fr Hm _ ([(l_10, (.lst (List.map V.int (((undoneI slf.order ((PE.marks (List.getLast slf.es hne_2))) ((PE.word (List.getLast slf.es hne_2))))))) : HO)), (p_7, (.lst (List.map V.int (((undoneI slf.order ((PE.marks (List.getLast slf.es hne_2))) ((PE.word (List.getLast slf.es hne_2))))))) : HO)), ((PE.m (List.getLast slf.es hne_2)), (.lst (List.map V.bl ((PE.marks (List.getLast slf.es hne_2)))) : HO)), ((PE.w (List.getLast slf.es hne_2)), (.lst (List.map V.int ((PE.word (List.getLast slf.es hne_2)))) : HO)), (a_slf, (.ins T.C_Pack slf.dx (pkF p_7 slf.b) : HO)), (slf.dx, (.own a_slf : HO)), (slf.b, (.lst (List.map peRef ((List.dropLast slf.es))) : HO))] ++ List.flatten [pesOwn ((List.dropLast slf.es))]) := fr.new nl_11
      have fr : Fr Hm _ ([(l_10, (.lst (List.map V.int (((undoneI slf.order ((PE.marks (List.getLast slf.es hne_2))) ((PE.word (List.getLast slf.es hne_2))))))) : HO)), (p_7, (.lst (List.map V.int (((undoneI slf.order ((PE.marks (List.getLast slf.es hne_2))) ((PE.word (List.getLast slf.es hne_2))))))) : HO)), ((PE.w (List.getLast slf.es hne_2)), (.lst (List.map V.int ((PE.word (List.getLast slf.es hne_2)))) : HO)), (a_slf, (.ins T.C_Pack slf.dx (pkF p_7 slf.b) : HO)), (slf.dx, (.own a_slf : HO)), (slf.b, (.lst (List.map peRef ((List.dropLast slf.es))) : HO))] ++ List.flatten [pesOwn ((List.dropLast slf.es))]) := Fr.dk fr 2
      have fr : Fr Hm _ ([(l_10, (.lst (List.map V.int (((undoneI slf.order ((PE.marks (List.getLast slf.es hne_2))) ((PE.word (List.getLast slf.es hne_2))))))) : HO)), (p_7, (.lst (List.map V.int (((undoneI slf.order ((PE.marks (List.getLast slf.es hne_2))) ((PE.word (List.getLast slf.es hne_2))))))) : HO)), (a_slf, (.ins T.C_Pack slf.dx (pkF p_7 slf.b) : HO)), (slf.dx, (.own a_slf : HO)), (slf.b, (.lst (List.map peRef ((List.dropLast slf.es))) : HO))] ++ List.flatten [pesOwn ((List.dropLast slf.es))]) := Fr.dk fr 2
      have fr : Fr Hm _ ([(slf.b, (.lst (List.map peRef ((List.dropLast slf.es))) : HO)), (l_10, (.lst (List.map V.int (((undoneI slf.order ((PE.marks (List.getLast slf.es hne_2))) ((PE.word (List.getLast slf.es hne_2))))))) : HO)), (p_7, (.lst (List.map V.int (((undoneI slf.order ((PE.marks (List.getLast slf.es hne_2))) ((PE.word (List.getLast slf.es hne_2))))))) : HO)), (a_slf, (.ins T.C_Pack slf.dx (pkF p_7 slf.b) : HO)), (slf.dx, (.own a_slf : HO))] ++ List.flatten [pesOwn ((List.dropLast slf.es))]) := Fr.upk fr 4 rfl
      have fr : Fr Hm _ ([(p_7, (.lst (List.map V.int (((undoneI slf.order ((PE.marks (List.getLast slf.es hne_2))) ((PE.word (List.getLast slf.es hne_2))))))) : HO)), (slf.b, (.lst (List.map peRef ((List.dropLast slf.es))) : HO)), (l_10, (.lst (List.map V.int (((undoneI slf.order ((PE.marks (List.getLast slf.es hne_2))) ((PE.word (List.getLast slf.es hne_2))))))) : HO)), (a_slf, (.ins T.C_Pack slf.dx (pkF p_7 slf.b) : HO)), (slf.dx, (.own a_slf : HO))] ++ List.flatten [pesOwn ((List.dropLast slf.es))]) := Fr.upk fr 2 rfl
      have fr : Fr Hm _ ([(slf.dx, (.own a_slf : HO)), (p_7, (.lst (List.map V.int (((undoneI slf.order ((PE.marks (List.getLast slf.es hne_2))) ((PE.word (List.getLast slf.es hne_2))))))) : HO)), (slf.b, (.lst (List.map peRef ((List.dropLast slf.es))) : HO)), (l_10, (.lst (List.map V.int (((undoneI slf.order ((PE.marks (List.getLast slf.es hne_2))) ((PE.word (List.getLast slf.es hne_2))))))) : HO)), (a_slf, (.ins T.C_Pack slf.dx (pkF p_7 slf.b) : HO))] ++ List.flatten [pesOwn ((List.dropLast slf.es))]) := Fr.upk fr 4 rfl
      have fr : Fr Hm _ ([(a_slf, (.ins T.C_Pack slf.dx (pkF p_7 slf.b) : HO)), (slf.dx, (.own a_slf : HO)), (p_7, (.lst (List.map V.int (((undoneI slf.order ((PE.marks (List.getLast slf.es hne_2))) ((PE.word (List.getLast slf.es hne_2))))))) : HO)), (slf.b, (.lst (List.map peRef ((List.dropLast slf.es))) : HO)), (l_10, (.lst (List.map V.int (((undoneI slf.order ((PE.marks (List.getLast slf.es hne_2))) ((PE.word (List.getLast slf.es hne_2))))))) : HO))] ++ List.flatten [pesOwn ((List.dropLast slf.es))]) := Fr.upk fr 4 rfl
      have fr : Fr Hm _ ([(l_10, (.lst (List.map V.int (((undoneI slf.order ((PE.marks (List.getLast slf.es hne_2))) ((PE.word (List.getLast slf.es hne_2))))))) : HO))] ++ List.flatten [pkOwn T.C_Pack a_slf ((⟨slf.dx, p_7, slf.b, (List.dropLast slf.es), ((undoneI slf.order ((PE.marks (List.getLast slf.es hne_2))) ((PE.word (List.getLast slf.es hne_2)))))⟩ : PK))]) := Fr.pkclose (pre := [(l_10, (.lst (List.map V.int (((undoneI slf.order ((PE.marks (List.getLast slf.es hne_2))) ((PE.word (List.getLast slf.es hne_2))))))) : HO))]) (ts := []) fr
      exact q _ (⟨slf.dx, p_7, slf.b, (List.dropLast slf.es), ((undoneI slf.order ((PE.marks (List.getLast slf.es hne_2))) ((PE.word (List.getLast slf.es hne_2)))))⟩ : PK) l_10 (((undoneI slf.order ((PE.marks (List.getLast slf.es hne_2))) ((PE.word (List.getLast slf.es hne_2)))))) (by exact pk_lu hlc) (by exact pk_pop (pk_past slf)) (by exact pk_lu hlc)  fr
def sp_check (K : PySem.W.Frag) : Sp := fun vs H Q _ => ∃ (a_marks : Addr) (marks : List Bool) (a_word : Addr) (word : List V) (n : Int), vs = [V.ref a_marks, V.ref a_word, V.int n] ∧ H a_marks = some (.lst (List.map V.bl marks)) ∧ H a_word = some (.lst word) ∧ (Sca word) ∧ (word.length ≤ 1000) ∧ (isWordV marks.length word n = true) ∧ (∀ (H1 : Hp), Same H H1 → Q V.non H1)
theorem sc_check : FnScope ["marks", "word", "n"] ["marks", "word", "n"] (defScope s_check) := ⟨rfl, rfl, rfl, by decide +kernel, rfl, by decide +kernel, by decide +kernel⟩
theorem ok_check (T : Txt K mg) : FnOk P w K mg base CX0 3 T.f_check T.fd_check ["marks", "word", "n"] (sp_check K) := by
  refine T.F_check.ok sc_check (fun vs H Q E h => ?_) (fun cdv A outer s H vs Q E hr h => ?_)
  · obtain ⟨a_marks, marks, a_word, word, n, rfl, _⟩ := h; rfl
  · obtain ⟨a_marks, marks, a_word, word, n, rfl, h_marks, h_word, pre0, pre1, pre2, q⟩ := h
    have fr := Fr.nil H
    refine ⟨_, (pss_one (ps_if (pt_not (pt_valS (pe_call (ok_is_word T) (hr.mono (by decide)) (by rfl) T.g_is_word T.F_is_word.kp T.b_is_word .nil pass0 (pa_cons (pv 0) (pa_cons (pv 1) (pa_cons (pv 2) pa_nil)))))) pss_never pss_nil)), ?_⟩
    refine ⟨_, rfl, _, rfl, _, rfl, a_marks, marks, a_word, word, n, rfl, (fr.same _ _ h_marks), (fr.same _ _ h_word), ?_, ?_, fun H_1 is_word_2 hp_4 sm_3 => ?_⟩
    · assumption
    · assumption
    have fr : Fr H _ [] := fr.call sm_3
    subst hp_4
    refine ⟨_, rfl, ?_, ?_⟩
    · intro h5
      refine iteF ?_
      exact q _  fr.same
    · intro h5
      exfalso
      rw [pre2] at h5; cases h5
def sp_turned_about (K : PySem.W.Frag) : Sp := fun vs H Q _ => ∃ (a_marks : Addr) (marks : List Bool) (a_others : Addr) (others : List Bool) (heap : Int) (other : Int), vs = [V.ref a_marks, V.ref a_others, V.int heap, V.int other] ∧ H a_marks = some (.lst (List.map V.bl marks)) ∧ H a_others = some (.lst (List.map V.bl others)) ∧ (0 ≤ heap ∧ heap < (marks.length : Int)) ∧ (∀ (H1 : Hp) (res : Int), (res = turnedI marks others heap other) → Same H H1 → Q (V.int res) H1)
theorem sc_turned_about : FnScope ["marks", "others", "heap", "other"] ["marks", "others", "heap", "other"] (defScope s_turned_about) := ⟨rfl, rfl, rfl, by decide +kernel, rfl, by decide +kernel, by decide +kernel⟩
theorem ok_turned_about (T : Txt K mg) : FnOk P w K mg base CX0 1 T.f_turned_about T.fd_turned_about ["marks", "others", "heap", "other"] (sp_turned_about K) := by
  refine T.F_turned_about.ok sc_turned_about (fun vs H Q E h => ?_) (fun cdv A outer s H vs Q E hr h => ?_)
  · obtain ⟨a_marks, marks, a_others, others, heap, other, rfl, _⟩ := h; rfl
  · obtain ⟨a_marks, marks, a_others, others, heap, other, rfl, h_marks, h_others, pre0, q⟩ := h
    have fr := Fr.nil H
    refine ⟨_, (pss_cons (ps_if (pt_valS (pe_ix (show IxR _ (rIxL K) from ix_list) (pv 0) (pv 2) (fun _ _ => rfl))) (pss_one (ps_ret (pe_op op_sub (pe_op op_sub (pe_callB (show CallR _ _ (rLenL K) from call_lenL) (by rfl) T.m_len (by decide +kernel) (pa_cons (pv 1) pa_nil)) pe_int) (pv 3)))) pss_nil)
          (pss_one (ps_ret (pv 3)))), ?_⟩
    refine ⟨_, rfl, _, rfl, _, _, _, _, rfl, rfl, (SqL.of (fr.same _ _ h_marks)), (atD false ?_ ?_), _, rfl, ?_, ?_⟩
    · walk_at "side"
    · walk_at "side"
    · intro h1
      refine iteT ?_
      refine ⟨_, rfl, _, _, _, rfl, (SqL.of (fr.same _ _ h_others)), (List.length_map _), _, _, rfl, rfl, _, rfl, _, _, rfl, rfl, ?_⟩
      exact q _ ((((others.length : Int) - 1) - other)) (by simp_all [turnedI]) fr.same
    · intro h1
      refine iteF ?_
      refine ⟨_, rfl, ?_⟩
      exact q _ other (by simp_all [turnedI]) fr.same
def sp_joined (K : PySem.W.Frag) : Sp := fun vs H Q _ => ∃ (a_marks : Addr) (marks : List Bool) (a_word : Addr) (word : List Int) (a_others : Addr) (others : List Bool) (a_more : Addr) (more : List Int), vs = [V.ref a_marks, V.ref a_word, V.ref a_others, V.ref a_more] ∧ H a_marks = some (.lst (List.map V.bl marks)) ∧ H a_word = some (.lst (List.map V.int word)) ∧ H a_others = some (.lst (List.map V.bl others)) ∧ H a_more = some (.lst (List.map V.int more)) ∧ (IsW marks.length word) ∧ (IsW others.length more) ∧ (word.length = more.length ∧ 1 ≤ word.length ∧ word.length ≤ 60) ∧ (marks.length ≤ 400 ∧ others.length ≤ 400 ∧ marks.length * others.length ≤ 400) ∧ (∀ (H1 : Hp) (rA : Addr) (res : List Int), (res = bothW marks word others more) → Same H H1 → H rA = none → H1 rA = some (.lst (List.map V.int res)) → Q (V.ref rA) H1)
theorem sc_joined : FnScope ["marks", "word", "others", "more", "row", "ahead", "other", "heap"] ["marks", "word", "others", "more"] (defScope s_joined) := ⟨rfl, rfl, rfl, by decide +kernel, rfl, by decide +kernel, by decide +kernel⟩
theorem ok_joined (T : Txt K mg) : FnOk P w K mg base CX0 5 T.f_joined T.fd_joined ["marks", "word", "others", "more"] (sp_joined K) := by
  refine T.F_joined.ok sc_joined (fun vs H Q E h => ?_) (fun cdv A outer s H vs Q E hr h => ?_)
  · obtain ⟨a_marks, marks, a_word, word, a_others, others, a_more, more, rfl, _⟩ := h; rfl
  · obtain ⟨a_marks, marks, a_word, word, a_others, others, a_more, more, rfl, h_marks, h_word, h_others, h_more, pre0, pre1, pre2, pre3, q⟩ := h
    have fr := Fr.nil H
    have hlu := upto_length (Int.toNat (word.length : Int))
    refine ⟨_, (pss_cons (ps_expr (pe_call (ok_check T) (hr.mono (by decide)) (by rfl) T.g_check T.F_check.kp T.b_check .nil pass0 (pa_cons (pv 0) (pa_cons (pv 1) (pa_cons (pe_callB (show CallR _ _ (rLenL K) from call_lenL) (by rfl) T.m_len (by decide +kernel) (pa_cons (pv 1) pa_nil)) pa_nil)))))
          (pss_cons (ps_expr (pe_call (ok_check T) (hr.mono (by decide)) (by rfl) T.g_check T.F_check.kp T.b_check .nil pass0 (pa_cons (pv 2) (pa_cons (pv 3) (pa_cons (pe_callB (show CallR _ _ (rLenL K) from call_lenL) (by rfl) T.m_len (by decide +kernel) (pa_cons (pv 1) pa_nil)) pa_nil)))))
          (pss_cons (ps_set (i := 4) sc_joined.nd rfl (Or.inl rfl) (pe_lst pa_nil))
          (pss_cons (ps_for PassesOwn.never rfl (pi_zip (by rfl) T.m_zip (pa_cons (pe_call (ok_riffled T) (hr.mono (by decide)) (by rfl) T.g_riffled T.F_riffled.kp T.b_riffled .nil pass0 (pa_cons (pe_call (ok_first T) (hr.mono (by decide)) (by rfl) T.g_first T.F_first.kp T.b_first .nil pass0 (pa_cons (pe_callB (show CallR _ _ (rLenL K) from call_lenL) (by rfl) T.m_len (by decide +kernel) (pa_cons (pv 1) pa_nil)) pa_nil)) (pa_cons (pv 2) (pa_cons (pv 3) pa_nil)))) (pa_cons (pv 3) pa_nil))) (pg_tup rfl (pgs_cons (pg_name (i := 5) sc_joined.nd rfl (Or.inl rfl)) (pgs_cons (pg_name (i := 6) sc_joined.nd rfl (Or.inl rfl)) pgs_nil))) (pss_cons (ps_set (i := 7) sc_joined.nd rfl (Or.inl rfl) (pe_ix (show IxR _ (rIxL K) from ix_list) (pv 1) (pv 5) (fun _ _ => rfl)))
          (pss_one (ps_expr (pe_bmK (K := K) (pe_bm PySem.F.plainAttrs_list PySem.F.slot_list_append PySem.F.type_list_append mt_append (pv 4) (pa_cons (pe_op op_add (pe_op op_mul (pv 7) (pe_callB (show CallR _ _ (rLenL K) from call_lenL) (by rfl) T.m_len (by decide +kernel) (pa_cons (pv 2) pa_nil))) (pe_call (ok_turned_about T) (hr.mono (by decide)) (by rfl) T.g_turned_about T.F_turned_about.kp T.b_turned_about .nil pass0 (pa_cons (pv 0) (pa_cons (pv 2) (pa_cons (pv 7) (pa_cons (pv 6) pa_nil)))))) pa_nil)))))))
          (pss_one (ps_ret (pv 4))))))), ?_⟩
    refine ⟨_, rfl, _, rfl, _, rfl, _, _, _, rfl, (SqL.of (fr.same _ _ h_word)), (List.length_map _), a_marks, marks, a_word, ((List.map V.int word)), ((word.length : Int)), rfl, (fr.same _ _ h_marks), (fr.same _ _ h_word), ?_, ?_, ?_, fun H_1  sm_3 => ?_⟩
    · exact Sca.ints _
    · simp; omega
    · first | exact isWordV_ints pre0 (by omega) | exact isWordV_ints pre1 (by omega)
    have fr : Fr H _ [] := fr.call sm_3
    refine ⟨_, rfl, _, rfl, _, rfl, _, _, _, rfl, (SqL.of (fr.same _ _ h_word)), (List.length_map _), a_others, others, a_more, ((List.map V.int more)), ((word.length : Int)), rfl, (fr.same _ _ h_others), (fr.same _ _ h_more), ?_, ?_, ?_, fun H_4  sm_6 => ?_⟩
    · exact Sca.ints _
    · simp; omega
    · first | exact isWordV_ints pre0 (by omega) | exact isWordV_ints pre1 (by omega)
    have fr : Fr H _ [] := fr.call sm_6
    refine ⟨(Evl.sz_of (show 0 ≤ 100000 by decide)), fun l_7 nl_8 => ?_⟩
    have fr : Fr H _ [(l_7, (.lst [] : HO))] := fr.new nl_8
    have fr : Fr H _ [(l_7, (.lst (List.map V.int ([])) : HO))] := fr
    refine ⟨_, rfl, _, _, _, rfl, (SqL.of (fr.same _ _ h_word)), (List.length_map _), ((word.length : Int)), rfl, ?_, fun H_9 p_13 first_10 hp_12 sm_11 np_14 ep_15 => ?_⟩
    · omega
    have fr : Fr H _ [(p_13, (.lst (List.map V.int first_10) : HO)), (l_7, (.lst (List.map V.int ([])) : HO))] := fr.cnew sm_11 np_14 ep_15
    subst hp_12
    refine ⟨_, rfl, _, rfl, p_13, (((upto word.length))), a_others, others, a_more, more, rfl, fr.at0, (fr.same _ _ h_others), (fr.same _ _ h_more), ?_, ?_, fun H_16 p_20 riffled_17 hp_19 sm_18 np_21 ep_22 => ?_⟩
    · exact pre1
    · first | (rw [hlu]; omega) | (rw [upto_length]; omega)
    have fr : Fr H _ [(p_20, (.lst (List.map V.int riffled_17) : HO)), (p_13, (.lst (List.map V.int (((upto word.length)))) : HO)), (l_7, (.lst (List.map V.int ([])) : HO))] := fr.cnew sm_18 np_21 ep_22
    subst hp_19
    have hrl := riffleI_length (upto (Int.toNat (word.length : Int))) others more
    refine ⟨_, rfl, _, _, _, _, rfl, (SqL.of fr.at0), (SqL.of (fr.same _ _ h_more)), ?_⟩
    have fr : Fr H _ [(p_20, (.lst (List.map V.int (((riffleI (((upto word.length))) others more)))) : HO)), (l_7, (.lst (List.map V.int ([])) : HO))] := Fr.dk fr 1
    refine for_it (walkZ V.int V.int (((riffleI (((upto word.length))) others more))) more) (fun (i : Nat) σ H1 => ∃ (row_23 : List Int) (y_24 : Option V) (y_25 : Option V) (y_26 : Option V), σ = [some (V.ref a_marks), some (V.ref a_word), some (V.ref a_others), some (V.ref a_more), some (V.ref l_7), y_24, y_25, y_26] ∧ Fr H H1 [(p_20, (.lst (List.map V.int (((riffleI (((upto word.length))) others more)))) : HO)), (l_7, (.lst (List.map V.int row_23) : HO))] ∧ (row_23 = bothTo marks word others more i)) ?_ ?_ ?_ ?_
    · refine ⟨[], _, _, _, rfl, fr, ?_⟩
      · rfl
    · rintro i σ H1 hi ⟨row_23, y_24, y_25, y_26, rfl, fr, hrow⟩
      exact ⟨fr.at0, (fr.same _ _ h_more)⟩
    · rintro i_27 x_29 s_32 H_30 H_31 hi_28 ⟨row_23, y_24, y_25, y_26, rfl, fr, hrow⟩ ⟨T_33, y_34, z_35, rfl, nT_36, rfl, hy_37, hz_38⟩
      have fr := fr.tmp (o := .tup [(V.int y_34), (V.int z_35)]) nT_36
      refine ⟨_, _, rfl, (SqT.of upd_same), rfl, _, _, rfl, _, _, rfl, rfl, ?_⟩
      have hah := ahead_eq pre1 (by omega) hy_37
      have hbb := both_bd pre0 pre1 pre2.1 hah.2
      rw [← hah.1] at hbb
      have hrwl : row_23.length = i_27 := by rw [hrow]; simp [bothTo]
      refine ⟨_, rfl, _, rfl, _, _, _, _, rfl, rfl, (SqL.of (fr.same _ _ h_word)), (atD 0 ?_ ?_), ?_⟩
      · omega
      · omega
      refine ⟨_, rfl, (.inl ⟨rfl, _, (SqL.of fr.at1)⟩), _, rfl, _, rfl, _, _, _, rfl, (SqL.of (fr.same _ _ h_others)), (List.length_map _), _, _, rfl, rfl, ?_, _, rfl, _, rfl, _, rfl, _, rfl, a_marks, marks, a_others, others, ((List.getD word (Int.toNat y_34) 0)), z_35, rfl, (fr.same _ _ h_marks), (fr.same _ _ h_others), ?_, fun H_39 turned_about_40 hp_42 sm_41 => ?_⟩
      · first | exact .inl (by omega) | exact .inr (by omega)
      · omega
      have fr : Fr H _ [(p_20, (.lst (List.map V.int (((riffleI (((upto word.length))) others more)))) : HO)), (l_7, (.lst (List.map V.int row_23) : HO))] := fr.call sm_41
      subst hp_42
      refine ⟨_, _, rfl, rfl, _, _, _, rfl, rfl, fr.at1, ?_, ?_⟩
      · walk_at "size"
      have fr : Fr H _ [(p_20, (.lst (List.map V.int (((riffleI (((upto word.length))) others more)))) : HO)), (l_7, (.lst (List.map V.int ((row_23 ++ [(((List.getD word (Int.toNat y_34) 0) * (others.length : Int)) + ((turnedI marks others ((List.getD word (Int.toNat y_34) 0)) z_35)))]))) : HO))] := Fr.wrk fr 1 rfl (lst_app V.int _ _)
      refine ⟨(row_23 ++ [(((List.getD word (Int.toNat y_34) 0) * (others.length : Int)) + ((turnedI marks others ((List.getD word (Int.toNat y_34) 0)) z_35)))]), _, _, _, rfl, fr, ?_⟩
      · rw [hrow]; exact bothTo_step hah.1 hz_38
    rintro s_44 H_43 ⟨row_23, y_24, y_25, y_26, rfl, fr, hrow⟩
    have fr : Fr H _ [(l_7, (.lst (List.map V.int row_23) : HO))] := Fr.dk fr 0
    refine ⟨_, rfl, ?_⟩
    exact q _ _ row_23 (by rw [hrow]; simp only [riffleI_length, upto_length]; unfold bothW; congr 1; omega) fr.same fr.n0 fr.at0
def sp_joined_marks (K : PySem.W.Frag) : Sp := fun vs H Q _ => ∃ (a_marks : Addr) (marks : List Bool) (a_others : Addr) (others : List Bool), vs = [V.ref a_marks, V.ref a_others] ∧ H a_marks = some (.lst (List.map V.bl marks)) ∧ H a_others = some (.lst (List.map V.bl others)) ∧ (marks.length ≤ 400 ∧ others.length ≤ 400 ∧ marks.length * others.length ≤ 400) ∧ (∀ (H1 : Hp) (rA : Addr) (res : List Bool), (res = joinedM marks others) → Same H H1 → H rA = none → H1 rA = some (.lst (List.map V.bl res)) → Q (V.ref rA) H1)
theorem sc_joined_marks : FnScope ["marks", "others", "row", "heap", "other"] ["marks", "others"] (defScope s_joined_marks) := ⟨rfl, rfl, rfl, by decide +kernel, rfl, by decide +kernel, by decide +kernel⟩
theorem ok_joined_marks (T : Txt K mg) : FnOk P w K mg base CX0 2 T.f_joined_marks T.fd_joined_marks ["marks", "others"] (sp_joined_marks K) := by
  refine T.F_joined_marks.ok sc_joined_marks (fun vs H Q E h => ?_) (fun cdv A outer s H vs Q E hr h => ?_)
  · obtain ⟨a_marks, marks, a_others, others, rfl, _⟩ := h; rfl
  · obtain ⟨a_marks, marks, a_others, others, rfl, h_marks, h_others, pre0, q⟩ := h
    have fr := Fr.nil H
    refine ⟨_, (pss_cons (ps_set (i := 2) sc_joined_marks.nd rfl (Or.inl rfl) (pe_lst pa_nil))
          (pss_cons (ps_for PassesOwn.never rfl (pi_range1 (by rfl) T.m_range (pa_cons (pe_callB (show CallR _ _ (rLenL K) from call_lenL) (by rfl) T.m_len (by decide +kernel) (pa_cons (pv 0) pa_nil)) pa_nil)) (pg_name (i := 3) sc_joined_marks.nd rfl (Or.inl rfl)) (pss_one (ps_for PassesOwn.never rfl (pi_range1 (by rfl) T.m_range (pa_cons (pe_callB (show CallR _ _ (rLenL K) from call_lenL) (by rfl) T.m_len (by decide +kernel) (pa_cons (pv 1) pa_nil)) pa_nil)) (pg_name (i := 4) sc_joined_marks.nd rfl (Or.inl rfl)) (pss_one (ps_expr (pe_bmK (K := K) (pe_bm PySem.F.plainAttrs_list PySem.F.slot_list_append PySem.F.type_list_append mt_append (pv 2) (pa_cons (pe_cmpR op_neB (pe_ix (show IxR _ (rIxL K) from ix_list) (pv 0) (pv 3) (fun _ _ => rfl)) (pe_ix (show IxR _ (rIxL K) from ix_list) (pv 1) (pe_call (ok_turned_about T) (hr.mono (by decide)) (by rfl) T.g_turned_about T.F_turned_about.kp T.b_turned_about .nil pass0 (pa_cons (pv 0) (pa_cons (pv 1) (pa_cons (pv 3) (pa_cons (pv 4) pa_nil))))) (fun _ _ => rfl)) (nomark _)) pa_nil))))))))
          (pss_one (ps_ret (pv 2))))), ?_⟩
    refine ⟨(Evl.sz_of (show 0 ≤ 100000 by decide)), fun l_1 nl_2 => ?_⟩
    have fr : Fr H _ [(l_1, (.lst [] : HO))] := fr.new nl_2
    have fr : Fr H _ [(l_1, (.lst (List.map V.bl ([])) : HO))] := fr
    refine ⟨_, rfl, _, _, _, rfl, (SqL.of (fr.same _ _ h_marks)), (List.length_map _), _, rfl, ?_, ?_, ?_⟩
    · walk_at "side"
    · walk_at "side"
    refine for_it (walkR (n := marks.length)) (fun (i : Nat) σ H1 => ∃ (row_3 : List Bool) (y_4 : Option V) (y_5 : Option V), σ = [some (V.ref a_marks), some (V.ref a_others), some (V.ref l_1), y_4, y_5] ∧ Fr H H1 [(l_1, (.lst (List.map V.bl row_3) : HO))] ∧ (row_3 = joinedTo marks others i)) ?_ ?_ ?_ ?_
    · refine ⟨[], _, _, rfl, fr, ?_⟩
      · rfl
    · rintro i σ H1 hi ⟨row_3, y_4, y_5, rfl, fr, hrow⟩
      exact trivial
    · rintro i_6 x_8 s_11 H_9 H_10 hi_7 ⟨row_3, y_4, y_5, rfl, fr, hrow⟩ ⟨rfl, rfl⟩
      refine ⟨_, rfl, _, _, _, rfl, (SqL.of (fr.same _ _ h_others)), (List.length_map _), _, rfl, ?_, ?_, ?_⟩
      · walk_at "side"
      · walk_at "side"
      refine for_it (walkR (n := others.length)) (fun (i : Nat) σ H1 => ∃ (row_12 : List Bool) (y_13 : Option V), σ = [some (V.ref a_marks), some (V.ref a_others), some (V.ref l_1), some (V.int ((i_6 : Int))), y_13] ∧ Fr H H1 [(l_1, (.lst (List.map V.bl row_12) : HO))] ∧ (row_12 = joinedTo marks others i_6 ++ joinedRow marks others i_6 i)) ?_ ?_ ?_ ?_
      · refine ⟨row_3, _, rfl, fr, ?_⟩
        · rw [hrow]; simp [joinedRow]
      · rintro i σ H1 hi ⟨row_12, y_13, rfl, fr, hrow⟩
        exact trivial
      · rintro i_14 x_16 s_19 H_17 H_18 hi_15 ⟨row_12, y_13, rfl, fr, hrow⟩ ⟨rfl, rfl⟩
        refine ⟨_, rfl, (.inl ⟨rfl, _, (SqL.of fr.at0)⟩), _, rfl, _, rfl, _, _, _, _, rfl, rfl, (SqL.of (fr.same _ _ h_marks)), (atD false ?_ ?_), _, rfl, _, rfl, _, rfl, _, rfl, _, rfl, a_marks, marks, a_others, others, ((i_6 : Int)), ((i_14 : Int)), rfl, (fr.same _ _ h_marks), (fr.same _ _ h_others), ?_, fun H_20 turned_about_21 hp_23 sm_22 => ?_⟩
        · walk_at "side"
        · walk_at "side"
        · omega
        have fr : Fr H _ [(l_1, (.lst (List.map V.bl row_12) : HO))] := fr.call sm_22
        subst hp_23
        refine ⟨_, _, _, _, rfl, rfl, (SqL.of (fr.same _ _ h_others)), (atD false ?_ ?_), _, _, rfl, rfl, _, _, _, rfl, rfl, fr.at0, ?_, ?_⟩
        · have := turnedI_bd marks others ((i_6 : Int)) ((i_14 : Int)) (by omega) (by omega); omega
        · have := turnedI_bd marks others ((i_6 : Int)) ((i_14 : Int)) (by omega) (by omega); omega
        · rw [hrow]; exact Evl.sz_lt (by rw [List.length_map]; exact joined_size hi_7 hi_15 pre0.2.2)
        have fr : Fr H _ [(l_1, (.lst (List.map V.bl ((row_12 ++ [((List.getD marks (Int.toNat ((i_6 : Int))) false) != (List.getD others (Int.toNat (((turnedI marks others ((i_6 : Int)) ((i_14 : Int)))))) false))]))) : HO))] := Fr.wrk fr 0 rfl (lst_app V.bl _ _)
        refine ⟨(row_12 ++ [((List.getD marks (Int.toNat ((i_6 : Int))) false) != (List.getD others (Int.toNat (((turnedI marks others ((i_6 : Int)) ((i_14 : Int)))))) false))]), _, rfl, fr, ?_⟩
        · rw [hrow]; exact joinedRow_next _ _ _ _ _
      rintro s_25 H_24 ⟨row_12, y_13, rfl, fr, hrow⟩
      refine ⟨row_12, _, _, rfl, fr, ?_⟩
      · rw [hrow]; exact joinedTo_next _ _ _
    rintro s_27 H_26 ⟨row_3, y_4, y_5, rfl, fr, hrow⟩
    refine ⟨_, rfl, ?_⟩
    exact q _ _ row_3 (by first | assumption | rfl) fr.same fr.n0 fr.at0
def sp_Pack_whole {K : PySem.W.Frag} {mg : Str → Option Value} (T : Txt K mg) : Sp := fun vs H Q _ => ∃ (a_slf : Addr) (slf : PK), vs = [V.ref a_slf] ∧ PkAt T.C_Pack H a_slf slf ∧ (PkOk slf.order.length slf.past) ∧ (1 ≤ slf.order.length ∧ slf.order.length ≤ 60) ∧ (heapsP slf.past ≤ 400) ∧ (∀ (H1 : Hp) (rA : Addr) (a0 : Addr) (res0 : List Bool) (a1 : Addr) (res1 : List Int), (res0 = (wholeP slf.order.length slf.past).1) → (res1 = (wholeP slf.order.length slf.past).2) → Fr H H1 [(rA, HO.tup [V.ref a0, V.ref a1]), (a0, .lst (List.map V.bl res0)), (a1, .lst (List.map V.int res1))] → Q (V.ref rA) H1)
theorem sc_Pack_whole : FnScope ["self", "marks", "word", "others", "more"] ["self"] (defScope s_Pack_whole) := ⟨rfl, rfl, rfl, by decide +kernel, rfl, by decide +kernel, by decide +kernel⟩
theorem ok_Pack_whole (T : Txt K mg) : FnOk P w K mg base CX0 6 T.f_Pack_whole T.fd_Pack_whole ["self"] (sp_Pack_whole T) := by
  refine T.F_Pack_whole.ok sc_Pack_whole (fun vs H Q E h => ?_) (fun cdv A outer s H vs Q E hr h => ?_)
  · obtain ⟨a_slf, slf, rfl, _⟩ := h; rfl
  · obtain ⟨a_slf, slf, rfl, h_slf, pre0, pre1, pre2, q⟩ := h
    have fr := Fr.nil H
    have hok := pre0
    have hnb := pre1
    refine ⟨_, (pss_cons (ps_set (i := 1) sc_Pack_whole.nd rfl (Or.inl rfl) (pe_lst (pa_cons pe_bl pa_nil)))
          (pss_cons (ps_set (i := 2) sc_Pack_whole.nd rfl (Or.inl rfl) (pe_op op_rep (pe_lst (pa_cons pe_int pa_nil)) (pe_callB (show CallR _ _ (rLenL K) from call_lenL) (by rfl) T.m_len (by decide +kernel) (pa_cons (pe_fld (pv 0) rfl) pa_nil))))
          (pss_cons (ps_for PassesOwn.never rfl (pi_list (pe_fld (pv 0) rfl)) (pg_tup rfl (pgs_cons (pg_name (i := 3) sc_Pack_whole.nd rfl (Or.inl rfl)) (pgs_cons (pg_name (i := 4) sc_Pack_whole.nd rfl (Or.inl rfl)) pgs_nil))) (pss_cons (ps_if (pt_cmpR op_gtS (pe_op op_mul (pe_callB (show CallR _ _ (rLenL K) from call_lenL) (by rfl) T.m_len (by decide +kernel) (pa_cons (pv 1) pa_nil)) (pe_callB (show CallR _ _ (rLenL K) from call_lenL) (by rfl) T.m_len (by decide +kernel) (pa_cons (pv 3) pa_nil))) (pe_glob rfl T.c_HEAPS T.r_HEAPS) (nomark _)) pss_never pss_nil)
          (pss_cons (ps_set (i := 2) sc_Pack_whole.nd rfl (Or.inl rfl) (pe_call (ok_joined T) (hr.mono (by decide)) (by rfl) T.g_joined T.F_joined.kp T.b_joined .nil pass0 (pa_cons (pv 1) (pa_cons (pv 2) (pa_cons (pv 3) (pa_cons (pv 4) pa_nil))))))
          (pss_one (ps_set (i := 1) sc_Pack_whole.nd rfl (Or.inl rfl) (pe_call (ok_joined_marks T) (hr.mono (by decide)) (by rfl) T.g_joined_marks T.F_joined_marks.kp T.b_joined_marks .nil pass0 (pa_cons (pv 1) (pa_cons (pv 3) pa_nil))))))))
          (pss_one (ps_ret (pe_tup (pa_cons (pv 1) (pa_cons (pv 2) pa_nil)))))))), ?_⟩
    refine ⟨(Evl.sz_of (show 1 ≤ 100000 by decide)), fun l_1 nl_2 => ?_⟩
    have fr : Fr H _ [(l_1, (.lst (List.map V.bl ([false])) : HO))] := fr.new nl_2
    refine ⟨(Evl.sz_of (show 1 ≤ 100000 by decide)), fun l_3 nl_4 => ?_⟩
    have fr : Fr H _ [(l_3, (.lst (List.map V.int ([0])) : HO)), (l_1, (.lst (List.map V.bl ([false])) : HO))] := fr.new nl_4
    refine ⟨_, rfl, _, _, _, _, _, rfl, (fr.same _ _ (PkAt.p h_slf)), T.cl_Pack, T.na_Pack_cards, (pkF_cards _ _), _, _, _, rfl, (SqL.of (fr.same _ _ (PkAt.a h_slf))), (List.length_map _), _, _, _, rfl, rfl, fr.at0, ?_, ?_, ?_, fun l_5 nl_6 => ?_⟩
    · walk_at "side"
    · walk_at "side"
    · walk_at "size"
    have fr : Fr H _ [(l_5, (.lst (List.map V.int ((List.replicate (Int.toNat ((slf.order.length : Int))) 0))) : HO)), (l_3, (.lst (List.map V.int ([0])) : HO)), (l_1, (.lst (List.map V.bl ([false])) : HO))] := (fr.new nl_6).cast (lst_rep1 _ _ _)
    have fr : Fr H _ [(l_5, (.lst (List.map V.int ((List.replicate (Int.toNat ((slf.order.length : Int))) 0))) : HO)), (l_1, (.lst (List.map V.bl ([false])) : HO))] := Fr.dk fr 1
    refine ⟨_, rfl, _, _, _, _, _, rfl, (fr.same _ _ (PkAt.p h_slf)), T.cl_Pack, T.na_Pack_past, (pkF_past _ _), _, rfl, ⟨_, (SqL.of (fr.same _ _ (PkAt.b h_slf)))⟩, ?_⟩
    refine for_it (walkP (K := K) (a := slf.b) (es := slf.es) (pk_past slf)) (fun (i : Nat) σ H1 => ∃ (amarks_7 : Addr) (marks_8 : List Bool) (aword_9 : Addr) (word_10 : List Int) (y_11 : Option V) (y_12 : Option V), σ = [some (V.ref a_slf), some (V.ref amarks_7), some (V.ref aword_9), y_11, y_12] ∧ Fr H H1 [(aword_9, (.lst (List.map V.int word_10) : HO)), (amarks_7, (.lst (List.map V.bl marks_8) : HO))] ∧ (marks_8 = (wholeP slf.order.length (slf.past.take i)).1) ∧ (word_10 = (wholeP slf.order.length (slf.past.take i)).2)) ?_ ?_ ?_ ?_
    · refine ⟨l_1, [false], l_5, (List.replicate (Int.toNat ((slf.order.length : Int))) 0), _, _, rfl, fr, ?_, ?_⟩
      · rfl
      · rfl
    · rintro i σ H1 hi ⟨amarks_7, marks_8, aword_9, word_10, y_11, y_12, rfl, fr, hm, hw⟩
      exact (fr.same _ _ (PkAt.b h_slf))
    · rintro i_13 x_15 s_18 H_16 H_17 hi_14 ⟨amarks_7, marks_8, aword_9, word_10, y_11, y_12, rfl, fr, hm, hw⟩ ⟨rfl, y_19, hr_20, hy_21, rfl⟩
      refine ⟨_, _, rfl, (SqT.of (PesAt.t (PesAt.same (PkAt.es h_slf) fr.same) (List.mem_of_getElem? hr_20))), rfl, _, _, rfl, _, _, rfl, rfl, ?_⟩
      have htn := hp_turn (n := slf.order.length) hok hy_21
      rw [← hm] at htn
      refine ⟨_, rfl, _, _, _, rfl, (SqL.of fr.at1), (List.length_map _), _, rfl, _, _, _, rfl, (SqL.of (PesAt.m (PesAt.same (PkAt.es h_slf) fr.same) (List.mem_of_getElem? hr_20))), (List.length_map _), _, _, rfl, rfl, ?_, _, _, rfl, rfl, ?_, ?_⟩
      · exact .inr (by omega)
      · intro h22
        exfalso
        have h2 := prod_iff.mp h22; rw [htn.2.2] at h2; omega
      · intro h22
        have hle := Nat.le_of_not_lt (fun z => h22 (prod_iff.mpr z))
        have hwt := wh_turn (n := slf.order.length) hok (by assumption) (by rw [← htn.2.2]; omega)
        rw [← hm, ← hw] at hwt
        refine ⟨_, rfl, ?_⟩
        refine iteF ?_
        refine ⟨_, rfl, _, rfl, _, rfl, _, rfl, amarks_7, marks_8, aword_9, word_10, (PE.m y_19), ((PE.marks y_19)), (PE.w y_19), ((PE.word y_19)), rfl, fr.at1, fr.at0, (PesAt.m (PesAt.same (PkAt.es h_slf) fr.same) (List.mem_of_getElem? hr_20)), (PesAt.w (PesAt.same (PkAt.es h_slf) fr.same) (List.mem_of_getElem? hr_20)), ?_, ?_, ?_, ?_, fun H_23 p_27 joined_24 hp_26 sm_25 np_28 ep_29 => ?_⟩
        · exact hwt.2.2.2.1
        · exact hwt.2.2.2.2.1
        · omega
        · omega
        have fr : Fr H _ [(p_27, (.lst (List.map V.int joined_24) : HO)), (aword_9, (.lst (List.map V.int word_10) : HO)), (amarks_7, (.lst (List.map V.bl marks_8) : HO))] := fr.cnew sm_25 np_28 ep_29
        subst hp_26
        have fr : Fr H _ [(p_27, (.lst (List.map V.int (((bothW marks_8 word_10 ((PE.marks y_19)) ((PE.word y_19)))))) : HO)), (amarks_7, (.lst (List.map V.bl marks_8) : HO))] := Fr.dk fr 1
        refine ⟨_, rfl, _, rfl, amarks_7, marks_8, (PE.m y_19), ((PE.marks y_19)), rfl, fr.at1, (PesAt.m (PesAt.same (PkAt.es h_slf) fr.same) (List.mem_of_getElem? hr_20)), ?_, fun H_30 p_34 joined_marks_31 hp_33 sm_32 np_35 ep_36 => ?_⟩
        · omega
        have fr : Fr H _ [(p_34, (.lst (List.map V.bl joined_marks_31) : HO)), (p_27, (.lst (List.map V.int (((bothW marks_8 word_10 ((PE.marks y_19)) ((PE.word y_19)))))) : HO)), (amarks_7, (.lst (List.map V.bl marks_8) : HO))] := fr.cnew sm_32 np_35 ep_36
        subst hp_33
        have fr : Fr H _ [(p_34, (.lst (List.map V.bl (((joinedM marks_8 ((PE.marks y_19)))))) : HO)), (p_27, (.lst (List.map V.int (((bothW marks_8 word_10 ((PE.marks y_19)) ((PE.word y_19)))))) : HO))] := Fr.dk fr 2
        have fr : Fr H _ [(p_27, (.lst (List.map V.int (((bothW marks_8 word_10 ((PE.marks y_19)) ((PE.word y_19)))))) : HO)), (p_34, (.lst (List.map V.bl (((joinedM marks_8 ((PE.marks y_19)))))) : HO))] := Fr.upk fr 1 rfl
        refine ⟨p_34, ((joinedM marks_8 ((PE.marks y_19)))), p_27, ((bothW marks_8 word_10 ((PE.marks y_19)) ((PE.word y_19)))), _, _, rfl, fr, ?_, ?_⟩
        · rw [wh_next hy_21, hm]; rfl
        · rw [wh_next hy_21, hm, hw]; rfl
    rintro s_38 H_37 ⟨amarks_7, marks_8, aword_9, word_10, y_11, y_12, rfl, fr, hm, hw⟩
    rw [List.take_length] at hm hw
    refine ⟨_, rfl, _, rfl, (Evl.sz_of (show 2 ≤ 100000 by decide)), fun t_39 nt_40 => ?_⟩
    have fr : Fr H _ [(t_39, (.tup [(V.ref amarks_7), (V.ref aword_9)] : HO)), (aword_9, (.lst (List.map V.int word_10) : HO)), (amarks_7, (.lst (List.map V.bl marks_8) : HO))] := fr.new nt_40
    have fr : Fr H _ [(aword_9, (.lst (List.map V.int word_10) : HO)), (t_39, (.tup [(V.ref amarks_7), (V.ref aword_9)] : HO)), (amarks_7, (.lst (List.map V.bl marks_8) : HO))] := Fr.upk fr 1 rfl
    have fr : Fr H _ [(amarks_7, (.lst (List.map V.bl marks_8) : HO)), (aword_9, (.lst (List.map V.int word_10) : HO)), (t_39, (.tup [(V.ref amarks_7), (V.ref aword_9)] : HO))] := Fr.upk fr 2 rfl
    have fr : Fr H _ [(t_39, (.tup [(V.ref amarks_7), (V.ref aword_9)] : HO)), (amarks_7, (.lst (List.map V.bl marks_8) : HO)), (aword_9, (.lst (List.map V.int word_10) : HO))] := Fr.upk fr 2 rfl
    exact q _ _ amarks_7 marks_8 aword_9 word_10 (by rw [hm]) (by rw [hw]) fr
def sp_law_bad_marks (K : PySem.W.Frag) : Sp := fun vs H Q _ => ∃ (cell : Int), vs = [V.int cell] ∧ (∀ (H1 : Hp) (rA : Addr) (rows : List (RO (List V))) (res : List (List V)), (∀ r ∈ res, Sca r ∧ r.length ≤ 1000 ∧ marksV r = false) → TabN H H1 gV rA rows res → Same H H1 → Q (V.ref rA) H1)
theorem sc_law_bad_marks : FnScope ["_law_cell", "_law_thing", "_law_good"] ["_law_cell"] (defScope s_law_bad_marks) := ⟨rfl, rfl, rfl, by decide +kernel, rfl, by decide +kernel, by decide +kernel⟩
theorem ok_law_bad_marks (T : Txt K mg) : FnOk P w K mg base CX0 1 T.f_law_bad_marks T.fd_law_bad_marks ["_law_cell"] (sp_law_bad_marks K) := by
  refine T.F_law_bad_marks.ok sc_law_bad_marks (fun vs H Q E h => ?_) (fun cdv A outer s H vs Q E hr h => ?_)
  · obtain ⟨cell, rfl, _⟩ := h; rfl
  · obtain ⟨cell, rfl, q⟩ := h
    have fr := Fr.nil H
    refine ⟨_, (pss_cons (ps_set (i := 1) sc_law_bad_marks.nd rfl (Or.inl rfl) (pe_ix (show IxR _ (rIxL K) from ix_list) (pe_lst (pa_cons pe_int (pa_cons pe_int (pa_cons pe_non (pa_cons pe_str (pa_cons (pe_un un_neg pe_int) pa_nil)))))) (pe_op op_mod (pv 0) pe_int) (fun _ _ => rfl)))
          (pss_cons (ps_set (i := 2) sc_law_bad_marks.nd rfl (Or.inl rfl) (pe_lst (pa_cons (pe_cmp (pc_eqI (pe_op op_mod (pe_op op_fdiv (pv 0) pe_int) pe_int) pe_int)) (pa_cons pe_bl pa_nil))))
          (pss_one (ps_ret (pe_lst (pa_cons (pe_lst pa_nil) (pa_cons (pe_op op_rep (pe_lst (pa_cons pe_bl pa_nil)) (pe_op op_add pe_int (pe_op op_mod (pv 0) pe_int))) (pa_cons (pe_op op_cat (pv 2) (pe_lst (pa_cons (pv 1) pa_nil))) (pa_cons (pe_op op_cat (pe_lst (pa_cons (pv 1) pa_nil)) (pv 2)) (pa_cons (pe_op op_cat (pe_op op_cat (pe_slice (show SlR _ (rSlL K) from sl_list) (pv 2) po_none (po_some pe_int)) (pe_lst (pa_cons (pv 1) pa_nil))) (pv 2)) pa_nil)))))))))), ?_⟩
    refine ⟨_, rfl, (Evl.sz_of (show 5 ≤ 100000 by decide)), fun l_1 nl_2 => ?_⟩
    have fr : Fr H _ [(l_1, (.lst ([(V.int 0), (V.int 1), V.non, (V.str ("t")), (V.int ((-1)))]) : HO))] := fr.new nl_2
    refine ⟨_, rfl, _, _, rfl, rfl, (show (0 : Int) < _ by decide), _, _, _, _, rfl, rfl, (SqL.of fr.at0), (atV V.non ?_ ?_), ?_⟩
    · walk_at "side"
    · walk_at "side"
    have hth : isBlV ((List.getD ([(V.int 0), (V.int 1), V.non, (V.str ("t")), (V.int ((-1)))]) (Int.toNat ((cell % 5))) V.non)) = false ∧ sca ((List.getD ([(V.int 0), (V.int 1), V.non, (V.str ("t")), (V.int ((-1)))]) (Int.toNat ((cell % 5))) V.non)) = true := bad5 (by omega)
    have fr : Fr H _ [] := Fr.dk fr 0
    refine ⟨_, rfl, _, _, rfl, rfl, ⟨by decide, by decide⟩, _, _, rfl, rfl, (show (0 : Int) < _ by decide), _, _, rfl, rfl, (Evl.sz_of (show 2 ≤ 100000 by decide)), fun l_3 nl_4 => ?_⟩
    have fr : Fr H _ [(l_3, (.lst (List.map V.bl ([decide (((cell / 5) % 2) = 0), true])) : HO))] := fr.new nl_4
    refine ⟨(Evl.sz_of (show 0 ≤ 100000 by decide)), fun l_5 nl_6 => ?_⟩
    have fr : Fr H _ [(l_5, (.lst ([]) : HO)), (l_3, (.lst (List.map V.bl ([decide (((cell / 5) % 2) = 0), true])) : HO))] := fr.new nl_6
    refine ⟨(Evl.sz_of (show 1 ≤ 100000 by decide)), fun l_7 nl_8 => ?_⟩
    have fr : Fr H _ [(l_7, (.lst (List.map V.bl ([false])) : HO)), (l_5, (.lst ([]) : HO)), (l_3, (.lst (List.map V.bl ([decide (((cell / 5) % 2) = 0), true])) : HO))] := fr.new nl_8
    refine ⟨_, rfl, _, _, rfl, rfl, (show (0 : Int) < _ by decide), _, _, rfl, rfl, _, _, _, rfl, rfl, fr.at0, ?_, ?_, ?_, fun l_9 nl_10 => ?_⟩
    · walk_at "side"
    · walk_at "side"
    · walk_at "size"
    have fr : Fr H _ [(l_9, (.lst (List.map V.bl ((List.replicate (Int.toNat ((401 + (cell % 90)))) false))) : HO)), (l_7, (.lst (List.map V.bl ([false])) : HO)), (l_5, (.lst ([]) : HO)), (l_3, (.lst (List.map V.bl ([decide (((cell / 5) % 2) = 0), true])) : HO))] := (fr.new nl_10).cast (lst_rep1 _ _ _)
    refine ⟨_, rfl, _, rfl, (Evl.sz_of (show 1 ≤ 100000 by decide)), fun l_11 nl_12 => ?_⟩
    have fr : Fr H _ [(l_11, (.lst ([(List.getD ([(V.int 0), (V.int 1), V.non, (V.str ("t")), (V.int ((-1)))]) (Int.toNat ((cell % 5))) V.non)]) : HO)), (l_9, (.lst (List.map V.bl ((List.replicate (Int.toNat ((401 + (cell % 90)))) false))) : HO)), (l_7, (.lst (List.map V.bl ([false])) : HO)), (l_5, (.lst ([]) : HO)), (l_3, (.lst (List.map V.bl ([decide (((cell / 5) % 2) = 0), true])) : HO))] := fr.new nl_12
    refine ⟨_, _, _, _, rfl, rfl, (Fr.atk fr 4 rfl), fr.at0, ?_, fun l_13 nl_14 => ?_⟩
    · walk_at "size"
    have fr : Fr H _ [(l_13, (.lst ((((List.map V.bl ([decide (((cell / 5) % 2) = 0), true]))) ++ ([(List.getD ([(V.int 0), (V.int 1), V.non, (V.str ("t")), (V.int ((-1)))]) (Int.toNat ((cell % 5))) V.non)]))) : HO)), (l_11, (.lst ([(List.getD ([(V.int 0), (V.int 1), V.non, (V.str ("t")), (V.int ((-1)))]) (Int.toNat ((cell % 5))) V.non)]) : HO)), (l_9, (.lst (List.map V.bl ((List.replicate (Int.toNat ((401 + (cell % 90)))) false))) : HO)), (l_7, (.lst (List.map V.bl ([false])) : HO)), (l_5, (.lst ([]) : HO)), (l_3, (.lst (List.map V.bl ([decide (((cell / 5) % 2) = 0), true])) : HO))] := (fr.new nl_14)
    refine ⟨_, rfl, (Evl.sz_of (show 1 ≤ 100000 by decide)), fun l_15 nl_16 => ?_⟩
    have fr : Fr H _ [(l_15, (.lst ([(List.getD ([(V.int 0), (V.int 1), V.non, (V.str ("t")), (V.int ((-1)))]) (Int.toNat ((cell % 5))) V.non)]) : HO)), (l_13, (.lst ((((List.map V.bl ([decide (((cell / 5) % 2) = 0), true]))) ++ ([(List.getD ([(V.int 0), (V.int 1), V.non, (V.str ("t")), (V.int ((-1)))]) (Int.toNat ((cell % 5))) V.non)]))) : HO)), (l_11, (.lst ([(List.getD ([(V.int 0), (V.int 1), V.non, (V.str ("t")), (V.int ((-1)))]) (Int.toNat ((cell % 5))) V.non)]) : HO)), (l_9, (.lst (List.map V.bl ((List.replicate (Int.toNat ((401 + (cell % 90)))) false))) : HO)), (l_7, (.lst (List.map V.bl ([false])) : HO)), (l_5, (.lst ([]) : HO)), (l_3, (.lst (List.map V.bl ([decide (((cell / 5) % 2) = 0), true])) : HO))] := fr.new nl_16
    refine ⟨_, rfl, _, _, _, _, rfl, rfl, fr.at0, (Fr.atk fr 6 rfl), ?_, fun l_17 nl_18 => ?_⟩
    · walk_at "size"
    have fr : Fr H _ [(l_17, (.lst ((([(List.getD ([(V.int 0), (V.int 1), V.non, (V.str ("t")), (V.int ((-1)))]) (Int.toNat ((cell % 5))) V.non)]) ++ ((List.map V.bl ([decide (((cell / 5) % 2) = 0), true]))))) : HO)), (l_15, (.lst ([(List.getD ([(V.int 0), (V.int 1), V.non, (V.str ("t")), (V.int ((-1)))]) (Int.toNat ((cell % 5))) V.non)]) : HO)), (l_13, (.lst ((((List.map V.bl ([decide (((cell / 5) % 2) = 0), true]))) ++ ([(List.getD ([(V.int 0), (V.int 1), V.non, (V.str ("t")), (V.int ((-1)))]) (Int.toNat ((cell % 5))) V.non)]))) : HO)), (l_11, (.lst ([(List.getD ([(V.int 0), (V.int 1), V.non, (V.str ("t")), (V.int ((-1)))]) (Int.toNat ((cell % 5))) V.non)]) : HO)), (l_9, (.lst (List.map V.bl ((List.replicate (Int.toNat ((401 + (cell % 90)))) false))) : HO)), (l_7, (.lst (List.map V.bl ([false])) : HO)), (l_5, (.lst ([]) : HO)), (l_3, (.lst (List.map V.bl ([decide (((cell / 5) % 2) = 0), true])) : HO))] := (fr.new nl_18)
    refine ⟨_, rfl, _, rfl, _, _, rfl, (SqL.of (Fr.atk fr 7 rfl)), fun l_19 nl_20 => ?_⟩
    have fr : Fr H _ [(l_19, (.lst (List.map V.bl ((cutL ([decide (((cell / 5) % 2) = 0), true]) none (some 1)))) : HO)), (l_17, (.lst ((([(List.getD ([(V.int 0), (V.int 1), V.non, (V.str ("t")), (V.int ((-1)))]) (Int.toNat ((cell % 5))) V.non)]) ++ ((List.map V.bl ([decide (((cell / 5) % 2) = 0), true]))))) : HO)), (l_15, (.lst ([(List.getD ([(V.int 0), (V.int 1), V.non, (V.str ("t")), (V.int ((-1)))]) (Int.toNat ((cell % 5))) V.non)]) : HO)), (l_13, (.lst ((((List.map V.bl ([decide (((cell / 5) % 2) = 0), true]))) ++ ([(List.getD ([(V.int 0), (V.int 1), V.non, (V.str ("t")), (V.int ((-1)))]) (Int.toNat ((cell % 5))) V.non)]))) : HO)), (l_11, (.lst ([(List.getD ([(V.int 0), (V.int 1), V.non, (V.str ("t")), (V.int ((-1)))]) (Int.toNat ((cell % 5))) V.non)]) : HO)), (l_9, (.lst (List.map V.bl ((List.replicate (Int.toNat ((401 + (cell % 90)))) false))) : HO)), (l_7, (.lst (List.map V.bl ([false])) : HO)), (l_5, (.lst ([]) : HO)), (l_3, (.lst (List.map V.bl ([decide (((cell / 5) % 2) = 0), true])) : HO))] := (fr.new nl_20).cast (lst_cut _ _ _ _)
    refine ⟨_, rfl, (Evl.sz_of (show 1 ≤ 100000 by decide)), fun l_21 nl_22 => ?_⟩
    have fr : Fr H _ [(l_21, (.lst ([(List.getD ([(V.int 0), (V.int 1), V.non, (V.str ("t")), (V.int ((-1)))]) (Int.toNat ((cell % 5))) V.non)]) : HO)), (l_19, (.lst (List.map V.bl ((cutL ([decide (((cell / 5) % 2) = 0), true]) none (some 1)))) : HO)), (l_17, (.lst ((([(List.getD ([(V.int 0), (V.int 1), V.non, (V.str ("t")), (V.int ((-1)))]) (Int.toNat ((cell % 5))) V.non)]) ++ ((List.map V.bl ([decide (((cell / 5) % 2) = 0), true]))))) : HO)), (l_15, (.lst ([(List.getD ([(V.int 0), (V.int 1), V.non, (V.str ("t")), (V.int ((-1)))]) (Int.toNat ((cell % 5))) V.non)]) : HO)), (l_13, (.lst ((((List.map V.bl ([decide (((cell / 5) % 2) = 0), true]))) ++ ([(List.getD ([(V.int 0), (V.int 1), V.non, (V.str ("t")), (V.int ((-1)))]) (Int.toNat ((cell % 5))) V.non)]))) : HO)), (l_11, (.lst ([(List.getD ([(V.int 0), (V.int 1), V.non, (V.str ("t")), (V.int ((-1)))]) (Int.toNat ((cell % 5))) V.non)]) : HO)), (l_9, (.lst (List.map V.bl ((List.replicate (Int.toNat ((401 + (cell % 90)))) false))) : HO)), (l_7, (.lst (List.map V.bl ([false])) : HO)), (l_5, (.lst ([]) : HO)), (l_3, (.lst (List.map V.bl ([decide (((cell / 5) % 2) = 0), true])) : HO))] := fr.new nl_22
    refine ⟨_, _, _, _, rfl, rfl, fr.at1, fr.at0, ?_, fun l_23 nl_24 => ?_⟩
    · walk_at "size"
    have fr : Fr H _ [(l_23, (.lst ((((List.map V.bl ((cutL ([decide (((cell / 5) % 2) = 0), true]) none (some 1))))) ++ ([(List.getD ([(V.int 0), (V.int 1), V.non, (V.str ("t")), (V.int ((-1)))]) (Int.toNat ((cell % 5))) V.non)]))) : HO)), (l_21, (.lst ([(List.getD ([(V.int 0), (V.int 1), V.non, (V.str ("t")), (V.int ((-1)))]) (Int.toNat ((cell % 5))) V.non)]) : HO)), (l_19, (.lst (List.map V.bl ((cutL ([decide (((cell / 5) % 2) = 0), true]) none (some 1)))) : HO)), (l_17, (.lst ((([(List.getD ([(V.int 0), (V.int 1), V.non, (V.str ("t")), (V.int ((-1)))]) (Int.toNat ((cell % 5))) V.non)]) ++ ((List.map V.bl ([decide (((cell / 5) % 2) = 0), true]))))) : HO)), (l_15, (.lst ([(List.getD ([(V.int 0), (V.int 1), V.non, (V.str ("t")), (V.int ((-1)))]) (Int.toNat ((cell % 5))) V.non)]) : HO)), (l_13, (.lst ((((List.map V.bl ([decide (((cell / 5) % 2) = 0), true]))) ++ ([(List.getD ([(V.int 0), (V.int 1), V.non, (V.str ("t")), (V.int ((-1)))]) (Int.toNat ((cell % 5))) V.non)]))) : HO)), (l_11, (.lst ([(List.getD ([(V.int 0), (V.int 1), V.non, (V.str ("t")), (V.int ((-1)))]) (Int.toNat ((cell % 5))) V.non)]) : HO)), (l_9, (.lst (List.map V.bl ((List.replicate (Int.toNat ((401 + (cell % 90)))) false))) : HO)), (l_7, (.lst (List.map V.bl ([false])) : HO)), (l_5, (.lst ([]) : HO)), (l_3, (.lst (List.map V.bl ([decide (((cell / 5) % 2) = 0), true])) : HO))] := (fr.new nl_24)
    refine ⟨_, rfl, _, _, _, _, rfl, rfl, fr.at0, (Fr.atk fr 10 rfl), ?_, fun l_25 nl_26 => ?_⟩
    · walk_at "size"
    have fr : Fr H _ [(l_25, (.lst ((((((List.map V.bl ((cutL ([decide (((cell / 5) % 2) = 0), true]) none (some 1))))) ++ ([(List.getD ([(V.int 0), (V.int 1), V.non, (V.str ("t")), (V.int ((-1)))]) (Int.toNat ((cell % 5))) V.non)]))) ++ ((List.map V.bl ([decide (((cell / 5) % 2) = 0), true]))))) : HO)), (l_23, (.lst ((((List.map V.bl ((cutL ([decide (((cell / 5) % 2) = 0), true]) none (some 1))))) ++ ([(List.getD ([(V.int 0), (V.int 1), V.non, (V.str ("t")), (V.int ((-1)))]) (Int.toNat ((cell % 5))) V.non)]))) : HO)), (l_21, (.lst ([(List.getD ([(V.int 0), (V.int 1), V.non, (V.str ("t")), (V.int ((-1)))]) (Int.toNat ((cell % 5))) V.non)]) : HO)), (l_19, (.lst (List.map V.bl ((cutL ([decide (((cell / 5) % 2) = 0), true]) none (some 1)))) : HO)), (l_17, (.lst ((([(List.getD ([(V.int 0), (V.int 1), V.non, (V.str ("t")), (V.int ((-1)))]) (Int.toNat ((cell % 5))) V.non)]) ++ ((List.map V.bl ([decide (((cell / 5) % 2) = 0), true]))))) : HO)), (l_15, (.lst ([(List.getD ([(V.int 0), (V.int 1), V.non, (V.str ("t")), (V.int ((-1)))]) (Int.toNat ((cell % 5))) V.non)]) : HO)), (l_13, (.lst ((((List.map V.bl ([decide (((cell / 5) % 2) = 0), true]))) ++ ([(List.getD ([(V.int 0), (V.int 1), V.non, (V.str ("t")), (V.int ((-1)))]) (Int.toNat ((cell % 5))) V.non)]))) : HO)), (l_11, (.lst ([(List.getD ([(V.int 0), (V.int 1), V.non, (V.str ("t")), (V.int ((-1)))]) (Int.toNat ((cell % 5))) V.non)]) : HO)), (l_9, (.lst (List.map V.bl ((List.replicate (Int.toNat ((401 + (cell % 90)))) false))) : HO)), (l_7, (.lst (List.map V.bl ([false])) : HO)), (l_5, (.lst ([]) : HO)), (l_3, (.lst (List.map V.bl ([decide (((cell / 5) % 2) = 0), true])) : HO))] := (fr.new nl_26)
    refine ⟨(Evl.sz_of (show 5 ≤ 100000 by decide)), fun l_27 nl_28 => ?_⟩
    have fr : Fr H _ [(l_27, (.lst [V.ref l_5, V.ref l_9, V.ref l_13, V.ref l_17, V.ref l_25] : HO)), (l_25, (.lst ((((((List.map V.bl ((cutL ([decide (((cell / 5) % 2) = 0), true]) none (some 1))))) ++ ([(List.getD ([(V.int 0), (V.int 1), V.non, (V.str ("t")), (V.int ((-1)))]) (Int.toNat ((cell % 5))) V.non)]))) ++ ((List.map V.bl ([decide (((cell / 5) % 2) = 0), true]))))) : HO)), (l_23, (.lst ((((List.map V.bl ((cutL ([decide (((cell / 5) % 2) = 0), true]) none (some 1))))) ++ ([(List.getD ([(V.int 0), (V.int 1), V.non, (V.str ("t")), (V.int ((-1)))]) (Int.toNat ((cell % 5))) V.non)]))) : HO)), (l_21, (.lst ([(List.getD ([(V.int 0), (V.int 1), V.non, (V.str ("t")), (V.int ((-1)))]) (Int.toNat ((cell % 5))) V.non)]) : HO)), (l_19, (.lst (List.map V.bl ((cutL ([decide (((cell / 5) % 2) = 0), true]) none (some 1)))) : HO)), (l_17, (.lst ((([(List.getD ([(V.int 0), (V.int 1), V.non, (V.str ("t")), (V.int ((-1)))]) (Int.toNat ((cell % 5))) V.non)]) ++ ((List.map V.bl ([decide (((cell / 5) % 2) = 0), true]))))) : HO)), (l_15, (.lst ([(List.getD ([(V.int 0), (V.int 1), V.non, (V.str ("t")), (V.int ((-1)))]) (Int.toNat ((cell % 5))) V.non)]) : HO)), (l_13, (.lst ((((List.map V.bl ([decide (((cell / 5) % 2) = 0), true]))) ++ ([(List.getD ([(V.int 0), (V.int 1), V.non, (V.str ("t")), (V.int ((-1)))]) (Int.toNat ((cell % 5))) V.non)]))) : HO)), (l_11, (.lst ([(List.getD ([(V.int 0), (V.int 1), V.non, (V.str ("t")), (V.int ((-1)))]) (Int.toNat ((cell % 5))) V.non)]) : HO)), (l_9, (.lst (List.map V.bl ((List.replicate (Int.toNat ((401 + (cell % 90)))) false))) : HO)), (l_7, (.lst (List.map V.bl ([false])) : HO)), (l_5, (.lst ([]) : HO)), (l_3, (.lst (List.map V.bl ([decide (((cell / 5) % 2) = 0), true])) : HO))] := fr.new nl_28
    have fr : Fr H _ [(l_5, (.lst ([]) : HO)), (l_27, (.lst [V.ref l_5, V.ref l_9, V.ref l_13, V.ref l_17, V.ref l_25] : HO)), (l_25, (.lst ((((((List.map V.bl ((cutL ([decide (((cell / 5) % 2) = 0), true]) none (some 1))))) ++ ([(List.getD ([(V.int 0), (V.int 1), V.non, (V.str ("t")), (V.int ((-1)))]) (Int.toNat ((cell % 5))) V.non)]))) ++ ((List.map V.bl ([decide (((cell / 5) % 2) = 0), true]))))) : HO)), (l_23, (.lst ((((List.map V.bl ((cutL ([decide (((cell / 5) % 2) = 0), true]) none (some 1))))) ++ ([(List.getD ([(V.int 0), (V.int 1), V.non, (V.str ("t")), (V.int ((-1)))]) (Int.toNat ((cell % 5))) V.non)]))) : HO)), (l_21, (.lst ([(List.getD ([(V.int 0), (V.int 1), V.non, (V.str ("t")), (V.int ((-1)))]) (Int.toNat ((cell % 5))) V.non)]) : HO)), (l_19, (.lst (List.map V.bl ((cutL ([decide (((cell / 5) % 2) = 0), true]) none (some 1)))) : HO)), (l_17, (.lst ((([(List.getD ([(V.int 0), (V.int 1), V.non, (V.str ("t")), (V.int ((-1)))]) (Int.toNat ((cell % 5))) V.non)]) ++ ((List.map V.bl ([decide (((cell / 5) % 2) = 0), true]))))) : HO)), (l_15, (.lst ([(List.getD ([(V.int 0), (V.int 1), V.non, (V.str ("t")), (V.int ((-1)))]) (Int.toNat ((cell % 5))) V.non)]) : HO)), (l_13, (.lst ((((List.map V.bl ([decide (((cell / 5) % 2) = 0), true]))) ++ ([(List.getD ([(V.int 0), (V.int 1), V.non, (V.str ("t")), (V.int ((-1)))]) (Int.toNat ((cell % 5))) V.non)]))) : HO)), (l_11, (.lst ([(List.getD ([(V.int 0), (V.int 1), V.non, (V.str ("t")), (V.int ((-1)))]) (Int.toNat ((cell % 5))) V.non)]) : HO)), (l_9, (.lst (List.map V.bl ((List.replicate (Int.toNat ((401 + (cell % 90)))) false))) : HO)), (l_7, (.lst (List.map V.bl ([false])) : HO)), (l_3, (.lst (List.map V.bl ([decide (((cell / 5) % 2) = 0), true])) : HO))] := Fr.upk fr 11 rfl
    have fr : Fr H _ ([(l_27, (.lst [V.ref l_5, V.ref l_9, V.ref l_13, V.ref l_17, V.ref l_25] : HO)), (l_25, (.lst ((((((List.map V.bl ((cutL ([decide (((cell / 5) % 2) = 0), true]) none (some 1))))) ++ ([(List.getD ([(V.int 0), (V.int 1), V.non, (V.str ("t")), (V.int ((-1)))]) (Int.toNat ((cell % 5))) V.non)]))) ++ ((List.map V.bl ([decide (((cell / 5) % 2) = 0), true]))))) : HO)), (l_23, (.lst ((((List.map V.bl ((cutL ([decide (((cell / 5) % 2) = 0), true]) none (some 1))))) ++ ([(List.getD ([(V.int 0), (V.int 1), V.non, (V.str ("t")), (V.int ((-1)))]) (Int.toNat ((cell % 5))) V.non)]))) : HO)), (l_21, (.lst ([(List.getD ([(V.int 0), (V.int 1), V.non, (V.str ("t")), (V.int ((-1)))]) (Int.toNat ((cell % 5))) V.non)]) : HO)), (l_19, (.lst (List.map V.bl ((cutL ([decide (((cell / 5) % 2) = 0), true]) none (some 1)))) : HO)), (l_17, (.lst ((([(List.getD ([(V.int 0), (V.int 1), V.non, (V.str ("t")), (V.int ((-1)))]) (Int.toNat ((cell % 5))) V.non)]) ++ ((List.map V.bl ([decide (((cell / 5) % 2) = 0), true]))))) : HO)), (l_15, (.lst ([(List.getD ([(V.int 0), (V.int 1), V.non, (V.str ("t")), (V.int ((-1)))]) (Int.toNat ((cell % 5))) V.non)]) : HO)), (l_13, (.lst ((((List.map V.bl ([decide (((cell / 5) % 2) = 0), true]))) ++ ([(List.getD ([(V.int 0), (V.int 1), V.non, (V.str ("t")), (V.int ((-1)))]) (Int.toNat ((cell % 5))) V.non)]))) : HO)), (l_11, (.lst ([(List.getD ([(V.int 0), (V.int 1), V.non, (V.str ("t")), (V.int ((-1)))]) (Int.toNat ((cell % 5))) V.non)]) : HO)), (l_9, (.lst (List.map V.bl ((List.replicate (Int.toNat ((401 + (cell % 90)))) false))) : HO)), (l_7, (.lst (List.map V.bl ([false])) : HO)), (l_3, (.lst (List.map V.bl ([decide (((cell / 5) % 2) = 0), true])) : HO))] ++ List.flatten [rosOwn gV (([(l_5, [])] : List (RO (List V))))]) := Fr.rnew (g := gV) (pre := [(l_27, (.lst [V.ref l_5, V.ref l_9, V.ref l_13, V.ref l_17, V.ref l_25] : HO)), (l_25, (.lst ((((((List.map V.bl ((cutL ([decide (((cell / 5) % 2) = 0), true]) none (some 1))))) ++ ([(List.getD ([(V.int 0), (V.int 1), V.non, (V.str ("t")), (V.int ((-1)))]) (Int.toNat ((cell % 5))) V.non)]))) ++ ((List.map V.bl ([decide (((cell / 5) % 2) = 0), true]))))) : HO)), (l_23, (.lst ((((List.map V.bl ((cutL ([decide (((cell / 5) % 2) = 0), true]) none (some 1))))) ++ ([(List.getD ([(V.int 0), (V.int 1), V.non, (V.str ("t")), (V.int ((-1)))]) (Int.toNat ((cell % 5))) V.non)]))) : HO)), (l_21, (.lst ([(List.getD ([(V.int 0), (V.int 1), V.non, (V.str ("t")), (V.int ((-1)))]) (Int.toNat ((cell % 5))) V.non)]) : HO)), (l_19, (.lst (List.map V.bl ((cutL ([decide (((cell / 5) % 2) = 0), true]) none (some 1)))) : HO)), (l_17, (.lst ((([(List.getD ([(V.int 0), (V.int 1), V.non, (V.str ("t")), (V.int ((-1)))]) (Int.toNat ((cell % 5))) V.non)]) ++ ((List.map V.bl ([decide (((cell / 5) % 2) = 0), true]))))) : HO)), (l_15, (.lst ([(List.getD ([(V.int 0), (V.int 1), V.non, (V.str ("t")), (V.int ((-1)))]) (Int.toNat ((cell % 5))) V.non)]) : HO)), (l_13, (.lst ((((List.map V.bl ([decide (((cell / 5) % 2) = 0), true]))) ++ ([(List.getD ([(V.int 0), (V.int 1), V.non, (V.str ("t")), (V.int ((-1)))]) (Int.toNat ((cell % 5))) V.non)]))) : HO)), (l_11, (.lst ([(List.getD ([(V.int 0), (V.int 1), V.non, (V.str ("t")), (V.int ((-1)))]) (Int.toNat ((cell % 5))) V.non)]) : HO)), (l_9, (.lst (List.map V.bl ((List.replicate (Int.toNat ((401 + (cell % 90)))) false))) : HO)), (l_7, (.lst (List.map V.bl ([false])) : HO)), (l_3, (.lst (List.map V.bl ([decide (((cell / 5) % 2) = 0), true])) : HO))]) (ts := []) (x := []) fr
    have fr : Fr H _ ([(l_27, (.lst [V.ref l_5, V.ref l_9, V.ref l_13, V.ref l_17, V.ref l_25] : HO)), (l_25, (.lst ((((((List.map V.bl ((cutL ([decide (((cell / 5) % 2) = 0), true]) none (some 1))))) ++ ([(List.getD ([(V.int 0), (V.int 1), V.non, (V.str ("t")), (V.int ((-1)))]) (Int.toNat ((cell % 5))) V.non)]))) ++ ((List.map V.bl ([decide (((cell / 5) % 2) = 0), true]))))) : HO)), (l_23, (.lst ((((List.map V.bl ((cutL ([decide (((cell / 5) % 2) = 0), true]) none (some 1))))) ++ ([(List.getD ([(V.int 0), (V.int 1), V.non, (V.str ("t")), (V.int ((-1)))]) (Int.toNat ((cell % 5))) V.non)]))) : HO)), (l_21, (.lst ([(List.getD ([(V.int 0), (V.int 1), V.non, (V.str ("t")), (V.int ((-1)))]) (Int.toNat ((cell % 5))) V.non)]) : HO)), (l_19, (.lst (List.map V.bl ((cutL ([decide (((cell / 5) % 2) = 0), true]) none (some 1)))) : HO)), (l_17, (.lst ((([(List.getD ([(V.int 0), (V.int 1), V.non, (V.str ("t")), (V.int ((-1)))]) (Int.toNat ((cell % 5))) V.non)]) ++ ((List.map V.bl ([decide (((cell / 5) % 2) = 0), true]))))) : HO)), (l_15, (.lst ([(List.getD ([(V.int 0), (V.int 1), V.non, (V.str ("t")), (V.int ((-1)))]) (Int.toNat ((cell % 5))) V.non)]) : HO)), (l_13, (.lst ((((List.map V.bl ([decide (((cell / 5) % 2) = 0), true]))) ++ ([(List.getD ([(V.int 0), (V.int 1), V.non, (V.str ("t")), (V.int ((-1)))]) (Int.toNat ((cell % 5))) V.non)]))) : HO)), (l_11, (.lst ([(List.getD ([(V.int 0), (V.int 1), V.non, (V.str ("t")), (V.int ((-1)))]) (Int.toNat ((cell % 5))) V.non)]) : HO)), (l_9, (.lst ((List.map V.bl ((List.replicate (Int.toNat ((401 + (cell % 90)))) false)))) : HO)), (l_7, (.lst (List.map V.bl ([false])) : HO)), (l_3, (.lst (List.map V.bl ([decide (((cell / 5) % 2) = 0), true])) : HO))] ++ List.flatten [rosOwn gV (([(l_5, [])] : List (RO (List V))))]) := fr
    have fr : Fr H _ ([(l_9, (.lst ((List.map V.bl ((List.replicate (Int.toNat ((401 + (cell % 90)))) false)))) : HO)), (l_27, (.lst [V.ref l_5, V.ref l_9, V.ref l_13, V.ref l_17, V.ref l_25] : HO)), (l_25, (.lst ((((((List.map V.bl ((cutL ([decide (((cell / 5) % 2) = 0), true]) none (some 1))))) ++ ([(List.getD ([(V.int 0), (V.int 1), V.non, (V.str ("t")), (V.int ((-1)))]) (Int.toNat ((cell % 5))) V.non)]))) ++ ((List.map V.bl ([decide (((cell / 5) % 2) = 0), true]))))) : HO)), (l_23, (.lst ((((List.map V.bl ((cutL ([decide (((cell / 5) % 2) = 0), true]) none (some 1))))) ++ ([(List.getD ([(V.int 0), (V.int 1), V.non, (V.str ("t")), (V.int ((-1)))]) (Int.toNat ((cell % 5))) V.non)]))) : HO)), (l_21, (.lst ([(List.getD ([(V.int 0), (V.int 1), V.non, (V.str ("t")), (V.int ((-1)))]) (Int.toNat ((cell % 5))) V.non)]) : HO)), (l_19, (.lst (List.map V.bl ((cutL ([decide (((cell / 5) % 2) = 0), true]) none (some 1)))) : HO)), (l_17, (.lst ((([(List.getD ([(V.int 0), (V.int 1), V.non, (V.str ("t")), (V.int ((-1)))]) (Int.toNat ((cell % 5))) V.non)]) ++ ((List.map V.bl ([decide (((cell / 5) % 2) = 0), true]))))) : HO)), (l_15, (.lst ([(List.getD ([(V.int 0), (V.int 1), V.non, (V.str ("t")), (V.int ((-1)))]) (Int.toNat ((cell % 5))) V.non)]) : HO)), (l_13, (.lst ((((List.map V.bl ([decide (((cell / 5) % 2) = 0), true]))) ++ ([(List.getD ([(V.int 0), (V.int 1), V.non, (V.str ("t")), (V.int ((-1)))]) (Int.toNat ((cell % 5))) V.non)]))) : HO)), (l_11, (.lst ([(List.getD ([(V.int 0), (V.int 1), V.non, (V.str ("t")), (V.int ((-1)))]) (Int.toNat ((cell % 5))) V.non)]) : HO)), (l_7, (.lst (List.map V.bl ([false])) : HO)), (l_3, (.lst (List.map V.bl ([decide (((cell / 5) % 2) = 0), true])) : HO))] ++ List.flatten [rosOwn gV (([(l_5, [])] : List (RO (List V))))]) := Fr.upk fr 9 rfl
    have fr : Fr H _ ([(l_27, (.lst [V.ref l_5, V.ref l_9, V.ref l_13, V.ref l_17, V.ref l_25] : HO)), (l_25, (.lst ((((((List.map V.bl ((cutL ([decide (((cell / 5) % 2) = 0), true]) none (some 1))))) ++ ([(List.getD ([(V.int 0), (V.int 1), V.non, (V.str ("t")), (V.int ((-1)))]) (Int.toNat ((cell % 5))) V.non)]))) ++ ((List.map V.bl ([decide (((cell / 5) % 2) = 0), true]))))) : HO)), (l_23, (.lst ((((List.map V.bl ((cutL ([decide (((cell / 5) % 2) = 0), true]) none (some 1))))) ++ ([(List.getD ([(V.int 0), (V.int 1), V.non, (V.str ("t")), (V.int ((-1)))]) (Int.toNat ((cell % 5))) V.non)]))) : HO)), (l_21, (.lst ([(List.getD ([(V.int 0), (V.int 1), V.non, (V.str ("t")), (V.int ((-1)))]) (Int.toNat ((cell % 5))) V.non)]) : HO)), (l_19, (.lst (List.map V.bl ((cutL ([decide (((cell / 5) % 2) = 0), true]) none (some 1)))) : HO)), (l_17, (.lst ((([(List.getD ([(V.int 0), (V.int 1), V.non, (V.str ("t")), (V.int ((-1)))]) (Int.toNat ((cell % 5))) V.non)]) ++ ((List.map V.bl ([decide (((cell / 5) % 2) = 0), true]))))) : HO)), (l_15, (.lst ([(List.getD ([(V.int 0), (V.int 1), V.non, (V.str ("t")), (V.int ((-1)))]) (Int.toNat ((cell % 5))) V.non)]) : HO)), (l_13, (.lst ((((List.map V.bl ([decide (((cell / 5) % 2) = 0), true]))) ++ ([(List.getD ([(V.int 0), (V.int 1), V.non, (V.str ("t")), (V.int ((-1)))]) (Int.toNat ((cell % 5))) V.non)]))) : HO)), (l_11, (.lst ([(List.getD ([(V.int 0), (V.int 1), V.non, (V.str ("t")), (V.int ((-1)))]) (Int.toNat ((cell % 5))) V.non)]) : HO)), (l_7, (.lst (List.map V.bl ([false])) : HO)), (l_3, (.lst (List.map V.bl ([decide (((cell / 5) % 2) = 0), true])) : HO))] ++ List.flatten [rosOwn gV (([(l_5, []), (l_9, (List.map V.bl ((List.replicate (Int.toNat ((401 + (cell % 90)))) false))))] : List (RO (List V))))]) := Fr.radd (g := gV) (pre := [(l_27, (.lst [V.ref l_5, V.ref l_9, V.ref l_13, V.ref l_17, V.ref l_25] : HO)), (l_25, (.lst ((((((List.map V.bl ((cutL ([decide (((cell / 5) % 2) = 0), true]) none (some 1))))) ++ ([(List.getD ([(V.int 0), (V.int 1), V.non, (V.str ("t")), (V.int ((-1)))]) (Int.toNat ((cell % 5))) V.non)]))) ++ ((List.map V.bl ([decide (((cell / 5) % 2) = 0), true]))))) : HO)), (l_23, (.lst ((((List.map V.bl ((cutL ([decide (((cell / 5) % 2) = 0), true]) none (some 1))))) ++ ([(List.getD ([(V.int 0), (V.int 1), V.non, (V.str ("t")), (V.int ((-1)))]) (Int.toNat ((cell % 5))) V.non)]))) : HO)), (l_21, (.lst ([(List.getD ([(V.int 0), (V.int 1), V.non, (V.str ("t")), (V.int ((-1)))]) (Int.toNat ((cell % 5))) V.non)]) : HO)), (l_19, (.lst (List.map V.bl ((cutL ([decide (((cell / 5) % 2) = 0), true]) none (some 1)))) : HO)), (l_17, (.lst ((([(List.getD ([(V.int 0), (V.int 1), V.non, (V.str ("t")), (V.int ((-1)))]) (Int.toNat ((cell % 5))) V.non)]) ++ ((List.map V.bl ([decide (((cell / 5) % 2) = 0), true]))))) : HO)), (l_15, (.lst ([(List.getD ([(V.int 0), (V.int 1), V.non, (V.str ("t")), (V.int ((-1)))]) (Int.toNat ((cell % 5))) V.non)]) : HO)), (l_13, (.lst ((((List.map V.bl ([decide (((cell / 5) % 2) = 0), true]))) ++ ([(List.getD ([(V.int 0), (V.int 1), V.non, (V.str ("t")), (V.int ((-1)))]) (Int.toNat ((cell % 5))) V.non)]))) : HO)), (l_11, (.lst ([(List.getD ([(V.int 0), (V.int 1), V.non, (V.str ("t")), (V.int ((-1)))]) (Int.toNat ((cell % 5))) V.non)]) : HO)), (l_7, (.lst (List.map V.bl ([false])) : HO)), (l_3, (.lst (List.map V.bl ([decide (((cell / 5) % 2) = 0), true])) : HO))]) (ts := []) (rows := ([(l_5, [])] : List (RO (List V)))) (x := (List.map V.bl ((List.replicate (Int.toNat ((401 + (cell % 90)))) false)))) fr
    have fr : Fr H _ ([(l_13, (.lst ((((List.map V.bl ([decide (((cell / 5) % 2) = 0), true]))) ++ ([(List.getD ([(V.int 0), (V.int 1), V.non, (V.str ("t")), (V.int ((-1)))]) (Int.toNat ((cell % 5))) V.non)]))) : HO)), (l_27, (.lst [V.ref l_5, V.ref l_9, V.ref l_13, V.ref l_17, V.ref l_25] : HO)), (l_25, (.lst ((((((List.map V.bl ((cutL ([decide (((cell / 5) % 2) = 0), true]) none (some 1))))) ++ ([(List.getD ([(V.int 0), (V.int 1), V.non, (V.str ("t")), (V.int ((-1)))]) (Int.toNat ((cell % 5))) V.non)]))) ++ ((List.map V.bl ([decide (((cell / 5) % 2) = 0), true]))))) : HO)), (l_23, (.lst ((((List.map V.bl ((cutL ([decide (((cell / 5) % 2) = 0), true]) none (some 1))))) ++ ([(List.getD ([(V.int 0), (V.int 1), V.non, (V.str ("t")), (V.int ((-1)))]) (Int.toNat ((cell % 5))) V.non)]))) : HO)), (l_21, (.lst ([(List.getD ([(V.int 0), (V.int 1), V.non, (V.str ("t")), (V.int ((-1)))]) (Int.toNat ((cell % 5))) V.non)]) : HO)), (l_19, (.lst (List.map V.bl ((cutL ([decide (((cell / 5) % 2) = 0), true]) none (some 1)))) : HO)), (l_17, (.lst ((([(List.getD ([(V.int 0), (V.int 1), V.non, (V.str ("t")), (V.int ((-1)))]) (Int.toNat ((cell % 5))) V.non)]) ++ ((List.map V.bl ([decide (((cell / 5) % 2) = 0), true]))))) : HO)), (l_15, (.lst ([(List.getD ([(V.int 0), (V.int 1), V.non, (V.str ("t")), (V.int ((-1)))]) (Int.toNat ((cell % 5))) V.non)]) : HO)), (l_11, (.lst ([(List.getD ([(V.int 0), (V.int 1), V.non, (V.str ("t")), (V.int ((-1)))]) (Int.toNat ((cell % 5))) V.non)]) : HO)), (l_7, (.lst (List.map V.bl ([false])) : HO)), (l_3, (.lst (List.map V.bl ([decide (((cell / 5) % 2) = 0), true])) : HO))] ++ List.flatten [rosOwn gV (([(l_5, []), (l_9, (List.map V.bl ((List.replicate (Int.toNat ((401 + (cell % 90)))) false))))] : List (RO (List V))))]) := Fr.upk fr 7 rfl
    have fr : Fr H _ ([(l_27, (.lst [V.ref l_5, V.ref l_9, V.ref l_13, V.ref l_17, V.ref l_25] : HO)), (l_25, (.lst ((((((List.map V.bl ((cutL ([decide (((cell / 5) % 2) = 0), true]) none (some 1))))) ++ ([(List.getD ([(V.int 0), (V.int 1), V.non, (V.str ("t")), (V.int ((-1)))]) (Int.toNat ((cell % 5))) V.non)]))) ++ ((List.map V.bl ([decide (((cell / 5) % 2) = 0), true]))))) : HO)), (l_23, (.lst ((((List.map V.bl ((cutL ([decide (((cell / 5) % 2) = 0), true]) none (some 1))))) ++ ([(List.getD ([(V.int 0), (V.int 1), V.non, (V.str ("t")), (V.int ((-1)))]) (Int.toNat ((cell % 5))) V.non)]))) : HO)), (l_21, (.lst ([(List.getD ([(V.int 0), (V.int 1), V.non, (V.str ("t")), (V.int ((-1)))]) (Int.toNat ((cell % 5))) V.non)]) : HO)), (l_19, (.lst (List.map V.bl ((cutL ([decide (((cell / 5) % 2) = 0), true]) none (some 1)))) : HO)), (l_17, (.lst ((([(List.getD ([(V.int 0), (V.int 1), V.non, (V.str ("t")), (V.int ((-1)))]) (Int.toNat ((cell % 5))) V.non)]) ++ ((List.map V.bl ([decide (((cell / 5) % 2) = 0), true]))))) : HO)), (l_15, (.lst ([(List.getD ([(V.int 0), (V.int 1), V.non, (V.str ("t")), (V.int ((-1)))]) (Int.toNat ((cell % 5))) V.non)]) : HO)), (l_11, (.lst ([(List.getD ([(V.int 0), (V.int 1), V.non, (V.str ("t")), (V.int ((-1)))]) (Int.toNat ((cell % 5))) V.non)]) : HO)), (l_7, (.lst (List.map V.bl ([false])) : HO)), (l_3, (.lst (List.map V.bl ([decide (((cell / 5) % 2) = 0), true])) : HO))] ++ List.flatten [rosOwn gV (([(l_5, []), (l_9, (List.map V.bl ((List.replicate (Int.toNat ((401 + (cell % 90)))) false)))), (l_13, (((List.map V.bl ([decide (((cell / 5) % 2) = 0), true]))) ++ ([(List.getD ([(V.int 0), (V.int 1), V.non, (V.str ("t")), (V.int ((-1)))]) (Int.toNat ((cell % 5))) V.non)])))] : List (RO (List V))))]) := Fr.radd (g := gV) (pre := [(l_27, (.lst [V.ref l_5, V.ref l_9, V.ref l_13, V.ref l_17, V.ref l_25] : HO)), (l_25, (.lst ((((((List.map V.bl ((cutL ([decide (((cell / 5) % 2) = 0), true]) none (some 1))))) ++ ([(List.getD ([(V.int 0), (V.int 1), V.non, (V.str ("t")), (V.int ((-1)))]) (Int.toNat ((cell % 5))) V.non)]))) ++ ((List.map V.bl ([decide (((cell / 5) % 2) = 0), true]))))) : HO)), (l_23, (.lst ((((List.map V.bl ((cutL ([decide (((cell / 5) % 2) = 0), true]) none (some 1))))) ++ ([(List.getD ([(V.int 0), (V.int 1), V.non, (V.str ("t")), (V.int ((-1)))]) (Int.toNat ((cell % 5))) V.non)]))) : HO)), (l_21, (.lst ([(List.getD ([(V.int 0), (V.int 1), V.non, (V.str ("t")), (V.int ((-1)))]) (Int.toNat ((cell % 5))) V.non)]) : HO)), (l_19, (.lst (List.map V.bl ((cutL ([decide (((cell / 5) % 2) = 0), true]) none (some 1)))) : HO)), (l_17, (.lst ((([(List.getD ([(V.int 0), (V.int 1), V.non, (V.str ("t")), (V.int ((-1)))]) (Int.toNat ((cell % 5))) V.non)]) ++ ((List.map V.bl ([decide (((cell / 5) % 2) = 0), true]))))) : HO)), (l_15, (.lst ([(List.getD ([(V.int 0), (V.int 1), V.non, (V.str ("t")), (V.int ((-1)))]) (Int.toNat ((cell % 5))) V.non)]) : HO)), (l_11, (.lst ([(List.getD ([(V.int 0), (V.int 1), V.non, (V.str ("t")), (V.int ((-1)))]) (Int.toNat ((cell % 5))) V.non)]) : HO)), (l_7, (.lst (List.map V.bl ([false])) : HO)), (l_3, (.lst (List.map V.bl ([decide (((cell / 5) % 2) = 0), true])) : HO))]) (ts := []) (rows := ([(l_5, []), (l_9, (List.map V.bl ((List.replicate (Int.toNat ((401 + (cell % 90)))) false))))] : List (RO (List V)))) (x := (((List.map V.bl ([decide (((cell / 5) % 2) = 0), true]))) ++ ([(List.getD ([(V.int 0), (V.int 1), V.non, (V.str ("t")), (V.int ((-1)))]) (Int.toNat ((cell % 5))) V.non)]))) fr
    have fr : Fr H _ ([(l_17, (.lst ((([(List.getD ([(V.int 0), (V.int 1), V.non, (V.str ("t")), (V.int ((-1)))]) (Int.toNat ((cell % 5))) V.non)]) ++ ((List.map V.bl ([decide (((cell / 5) % 2) = 0), true]))))) : HO)), (l_27, (.lst [V.ref l_5, V.ref l_9, V.ref l_13, V.ref l_17, V.ref l_25] : HO)), (l_25, (.lst ((((((List.map V.bl ((cutL ([decide (((cell / 5) % 2) = 0), true]) none (some 1))))) ++ ([(List.getD ([(V.int 0), (V.int 1), V.non, (V.str ("t")), (V.int ((-1)))]) (Int.toNat ((cell % 5))) V.non)]))) ++ ((List.map V.bl ([decide (((cell / 5) % 2) = 0), true]))))) : HO)), (l_23, (.lst ((((List.map V.bl ((cutL ([decide (((cell / 5) % 2) = 0), true]) none (some 1))))) ++ ([(List.getD ([(V.int 0), (V.int 1), V.non, (V.str ("t")), (V.int ((-1)))]) (Int.toNat ((cell % 5))) V.non)]))) : HO)), (l_21, (.lst ([(List.getD ([(V.int 0), (V.int 1), V.non, (V.str ("t")), (V.int ((-1)))]) (Int.toNat ((cell % 5))) V.non)]) : HO)), (l_19, (.lst (List.map V.bl ((cutL ([decide (((cell / 5) % 2) = 0), true]) none (some 1)))) : HO)), (l_15, (.lst ([(List.getD ([(V.int 0), (V.int 1), V.non, (V.str ("t")), (V.int ((-1)))]) (Int.toNat ((cell % 5))) V.non)]) : HO)), (l_11, (.lst ([(List.getD ([(V.int 0), (V.int 1), V.non, (V.str ("t")), (V.int ((-1)))]) (Int.toNat ((cell % 5))) V.non)]) : HO)), (l_7, (.lst (List.map V.bl ([false])) : HO)), (l_3, (.lst (List.map V.bl ([decide (((cell / 5) % 2) = 0), true])) : HO))] ++ List.flatten [rosOwn gV (([(l_5, []), (l_9, (List.map V.bl ((List.replicate (Int.toNat ((401 + (cell % 90)))) false)))), (l_13, (((List.map V.bl ([decide (((cell / 5) % 2) = 0), true]))) ++ ([(List.getD ([(V.int 0), (V.int 1), V.non, (V.str ("t")), (V.int ((-1)))]) (Int.toNat ((cell % 5))) V.non)])))] : List (RO (List V))))]) := Fr.upk fr 5 rfl
    have fr : Fr H _ ([(l_27, (.lst [V.ref l_5, V.ref l_9, V.ref l_13, V.ref l_17, V.ref l_25] : HO)), (l_25, (.lst ((((((List.map V.bl ((cutL ([decide (((cell / 5) % 2) = 0), true]) none (some 1))))) ++ ([(List.getD ([(V.int 0), (V.int 1), V.non, (V.str ("t")), (V.int ((-1)))]) (Int.toNat ((cell % 5))) V.non)]))) ++ ((List.map V.bl ([decide (((cell / 5) % 2) = 0), true]))))) : HO)), (l_23, (.lst ((((List.map V.bl ((cutL ([decide (((cell / 5) % 2) = 0), true]) none (some 1))))) ++ ([(List.getD ([(V.int 0), (V.int 1), V.non, (V.str ("t")), (V.int ((-1)))]) (Int.toNat ((cell % 5))) V.non)]))) : HO)), (l_21, (.lst ([(List.getD ([(V.int 0), (V.int 1), V.non, (V.str ("t")), (V.int ((-1)))]) (Int.toNat ((cell % 5))) V.non)]) : HO)), (l_19, (.lst (List.map V.bl ((cutL ([decide (((cell / 5) % 2) = 0), true]) none (some 1)))) : HO)), (l_15, (.lst ([(List.getD ([(V.int 0), (V.int 1), V.non, (V.str ("t")), (V.int ((-1)))]) (Int.toNat ((cell % 5))) V.non)]) : HO)), (l_11, (.lst ([(List.getD ([(V.int 0), (V.int 1), V.non, (V.str ("t")), (V.int ((-1)))]) (Int.toNat ((cell % 5))) V.non)]) : HO)), (l_7, (.lst (List.map V.bl ([false])) : HO)), (l_3, (.lst (List.map V.bl ([decide (((cell / 5) % 2) = 0), true])) : HO))] ++ List.flatten [rosOwn gV (([(l_5, []), (l_9, (List.map V.bl ((List.replicate (Int.toNat ((401 + (cell % 90)))) false)))), (l_13, (((List.map V.bl ([decide (((cell / 5) % 2) = 0), true]))) ++ ([(List.getD ([(V.int 0), (V.int 1), V.non, (V.str ("t")), (V.int ((-1)))]) (Int.toNat ((cell % 5))) V.non)]))), (l_17, (([(List.getD ([(V.int 0), (V.int 1), V.non, (V.str ("t")), (V.int ((-1)))]) (Int.toNat ((cell % 5))) V.non)]) ++ ((List.map V.bl ([decide (((cell / 5) % 2) = 0), true])))))] : List (RO (List V))))]) := Fr.radd (g := gV) (pre := [(l_27, (.lst [V.ref l_5, V.ref l_9, V.ref l_13, V.ref l_17, V.ref l_25] : HO)), (l_25, (.lst ((((((List.map V.bl ((cutL ([decide (((cell / 5) % 2) = 0), true]) none (some 1))))) ++ ([(List.getD ([(V.int 0), (V.int 1), V.non, (V.str ("t")), (V.int ((-1)))]) (Int.toNat ((cell % 5))) V.non)]))) ++ ((List.map V.bl ([decide (((cell / 5) % 2) = 0), true]))))) : HO)), (l_23, (.lst ((((List.map V.bl ((cutL ([decide (((cell / 5) % 2) = 0), true]) none (some 1))))) ++ ([(List.getD ([(V.int 0), (V.int 1), V.non, (V.str ("t")), (V.int ((-1)))]) (Int.toNat ((cell % 5))) V.non)]))) : HO)), (l_21, (.lst ([(List.getD ([(V.int 0), (V.int 1), V.non, (V.str ("t")), (V.int ((-1)))]) (Int.toNat ((cell % 5))) V.non)]) : HO)), (l_19, (.lst (List.map V.bl ((cutL ([decide (((cell / 5) % 2) = 0), true]) none (some 1)))) : HO)), (l_15, (.lst ([(List.getD ([(V.int 0), (V.int 1), V.non, (V.str ("t")), (V.int ((-1)))]) (Int.toNat ((cell % 5))) V.non)]) : HO)), (l_11, (.lst ([(List.getD ([(V.int 0), (V.int 1), V.non, (V.str ("t")), (V.int ((-1)))]) (Int.toNat ((cell % 5))) V.non)]) : HO)), (l_7, (.lst (List.map V.bl ([false])) : HO)), (l_3, (.lst (List.map V.bl ([decide (((cell / 5) % 2) = 0), true])) : HO))]) (ts := []) (rows := ([(l_5, []), (l_9, (List.map V.bl ((List.replicate (Int.toNat ((401 + (cell % 90)))) false)))), (l_13, (((List.map V.bl ([decide (((cell / 5) % 2) = 0), true]))) ++ ([(List.getD ([(V.int 0), (V.int 1), V.non, (V.str ("t")), (V.int ((-1)))]) (Int.toNat ((cell % 5))) V.non)])))] : List (RO (List V)))) (x := (([(List.getD ([(V.int 0), (V.int 1), V.non, (V.str ("t")), (V.int ((-1)))]) (Int.toNat ((cell % 5))) V.non)]) ++ ((List.map V.bl ([decide (((cell / 5) % 2) = 0), true]))))) fr
    have fr : Fr H _ ([(l_25, (.lst ((((((List.map V.bl ((cutL ([decide (((cell / 5) % 2) = 0), true]) none (some 1))))) ++ ([(List.getD ([(V.int 0), (V.int 1), V.non, (V.str ("t")), (V.int ((-1)))]) (Int.toNat ((cell % 5))) V.non)]))) ++ ((List.map V.bl ([decide (((cell / 5) % 2) = 0), true]))))) : HO)), (l_27, (.lst [V.ref l_5, V.ref l_9, V.ref l_13, V.ref l_17, V.ref l_25] : HO)), (l_23, (.lst ((((List.map V.bl ((cutL ([decide (((cell / 5) % 2) = 0), true]) none (some 1))))) ++ ([(List.getD ([(V.int 0), (V.int 1), V.non, (V.str ("t")), (V.int ((-1)))]) (Int.toNat ((cell % 5))) V.non)]))) : HO)), (l_21, (.lst ([(List.getD ([(V.int 0), (V.int 1), V.non, (V.str ("t")), (V.int ((-1)))]) (Int.toNat ((cell % 5))) V.non)]) : HO)), (l_19, (.lst (List.map V.bl ((cutL ([decide (((cell / 5) % 2) = 0), true]) none (some 1)))) : HO)), (l_15, (.lst ([(List.getD ([(V.int 0), (V.int 1), V.non, (V.str ("t")), (V.int ((-1)))]) (Int.toNat ((cell % 5))) V.non)]) : HO)), (l_11, (.lst ([(List.getD ([(V.int 0), (V.int 1), V.non, (V.str ("t")), (V.int ((-1)))]) (Int.toNat ((cell % 5))) V.non)]) : HO)), (l_7, (.lst (List.map V.bl ([false])) : HO)), (l_3, (.lst (List.map V.bl ([decide (((cell / 5) % 2) = 0), true])) : HO))] ++ List.flatten [rosOwn gV (([(l_5, []), (l_9, (List.map V.bl ((List.replicate (Int.toNat ((401 + (cell % 90)))) false)))), (l_13, (((List.map V.bl ([decide (((cell / 5) % 2) = 0), true]))) ++ ([(List.getD ([(V.int 0), (V.int 1), V.non, (V.str ("t")), (V.int ((-1)))]) (Int.toNat ((cell % 5))) V.non)]))), (l_17, (([(List.getD ([(V.int 0), (V.int 1), V.non, (V.str ("t")), (V.int ((-1)))]) (Int.toNat ((cell % 5))) V.non)]) ++ ((List.map V.bl ([decide (((cell / 5) % 2) = 0), true])))))] : List (RO (List V))))]) := Fr.upk fr 1 rfl
    have fr : Fr H _ ([(l_27, (.lst [V.ref l_5, V.ref l_9, V.ref l_13, V.ref l_17, V.ref l_25] : HO)), (l_23, (.lst ((((List.map V.bl ((cutL ([decide (((cell / 5) % 2) = 0), true]) none (some 1))))) ++ ([(List.getD ([(V.int 0), (V.int 1), V.non, (V.str ("t")), (V.int ((-1)))]) (Int.toNat ((cell % 5))) V.non)]))) : HO)), (l_21, (.lst ([(List.getD ([(V.int 0), (V.int 1), V.non, (V.str ("t")), (V.int ((-1)))]) (Int.toNat ((cell % 5))) V.non)]) : HO)), (l_19, (.lst (List.map V.bl ((cutL ([decide (((cell / 5) % 2) = 0), true]) none (some 1)))) : HO)), (l_15, (.lst ([(List.getD ([(V.int 0), (V.int 1), V.non, (V.str ("t")), (V.int ((-1)))]) (Int.toNat ((cell % 5))) V.non)]) : HO)), (l_11, (.lst ([(List.getD ([(V.int 0), (V.int 1), V.non, (V.str ("t")), (V.int ((-1)))]) (Int.toNat ((cell % 5))) V.non)]) : HO)), (l_7, (.lst (List.map V.bl ([false])) : HO)), (l_3, (.lst (List.map V.bl ([decide (((cell / 5) % 2) = 0), true])) : HO))] ++ List.flatten [rosOwn gV (([(l_5, []), (l_9, (List.map V.bl ((List.replicate (Int.toNat ((401 + (cell % 90)))) false)))), (l_13, (((List.map V.bl ([decide (((cell / 5) % 2) = 0), true]))) ++ ([(List.getD ([(V.int 0), (V.int 1), V.non, (V.str ("t")), (V.int ((-1)))]) (Int.toNat ((cell % 5))) V.non)]))), (l_17, (([(List.getD ([(V.int 0), (V.int 1), V.non, (V.str ("t")), (V.int ((-1)))]) (Int.toNat ((cell % 5))) V.non)]) ++ ((List.map V.bl ([decide (((cell / 5) % 2) = 0), true]))))), (l_25, (((((List.map V.bl ((cutL ([decide (((cell / 5) % 2) = 0), true]) none (some 1))))) ++ ([(List.getD ([(V.int 0), (V.int 1), V.non, (V.str ("t")), (V.int ((-1)))]) (Int.toNat ((cell % 5))) V.non)]))) ++ ((List.map V.bl ([decide (((cell / 5) % 2) = 0), true])))))] : List (RO (List V))))]) := Fr.radd (g := gV) (pre := [(l_27, (.lst [V.ref l_5, V.ref l_9, V.ref l_13, V.ref l_17, V.ref l_25] : HO)), (l_23, (.lst ((((List.map V.bl ((cutL ([decide (((cell / 5) % 2) = 0), true]) none (some 1))))) ++ ([(List.getD ([(V.int 0), (V.int 1), V.non, (V.str ("t")), (V.int ((-1)))]) (Int.toNat ((cell % 5))) V.non)]))) : HO)), (l_21, (.lst ([(List.getD ([(V.int 0), (V.int 1), V.non, (V.str ("t")), (V.int ((-1)))]) (Int.toNat ((cell % 5))) V.non)]) : HO)), (l_19, (.lst (List.map V.bl ((cutL ([decide (((cell / 5) % 2) = 0), true]) none (some 1)))) : HO)), (l_15, (.lst ([(List.getD ([(V.int 0), (V.int 1), V.non, (V.str ("t")), (V.int ((-1)))]) (Int.toNat ((cell % 5))) V.non)]) : HO)), (l_11, (.lst ([(List.getD ([(V.int 0), (V.int 1), V.non, (V.str ("t")), (V.int ((-1)))]) (Int.toNat ((cell % 5))) V.non)]) : HO)), (l_7, (.lst (List.map V.bl ([false])) : HO)), (l_3, (.lst (List.map V.bl ([decide (((cell / 5) % 2) = 0), true])) : HO))]) (ts := []) (rows := ([(l_5, []), (l_9, (List.map V.bl ((List.replicate (Int.toNat ((401 + (cell % 90)))) false)))), (l_13, (((List.map V.bl ([decide (((cell / 5) % 2) = 0), true]))) ++ ([(List.getD ([(V.int 0), (V.int 1), V.non, (V.str ("t")), (V.int ((-1)))]) (Int.toNat ((cell % 5))) V.non)]))), (l_17, (([(List.getD ([(V.int 0), (V.int 1), V.non, (V.str ("t")), (V.int ((-1)))]) (Int.toNat ((cell % 5))) V.non)]) ++ ((List.map V.bl ([decide (((cell / 5) % 2) = 0), true])))))] : List (RO (List V)))) (x := (((((List.map V.bl ((cutL ([decide (((cell / 5) % 2) = 0), true]) none (some 1))))) ++ ([(List.getD ([(V.int 0), (V.int 1), V.non, (V.str ("t")), (V.int ((-1)))]) (Int.toNat ((cell % 5))) V.non)]))) ++ ((List.map V.bl ([decide (((cell / 5) % 2) = 0), true]))))) fr
    have fr : Fr H _ ([(l_27, (.lst (List.map rref (([(l_5, []), (l_9, (List.map V.bl ((List.replicate (Int.toNat ((401 + (cell % 90)))) false)))), (l_13, (((List.map V.bl ([decide (((cell / 5) % 2) = 0), true]))) ++ ([(List.getD ([(V.int 0), (V.int 1), V.non, (V.str ("t")), (V.int ((-1)))]) (Int.toNat ((cell % 5))) V.non)]))), (l_17, (([(List.getD ([(V.int 0), (V.int 1), V.non, (V.str ("t")), (V.int ((-1)))]) (Int.toNat ((cell % 5))) V.non)]) ++ ((List.map V.bl ([decide (((cell / 5) % 2) = 0), true]))))), (l_25, (((((List.map V.bl ((cutL ([decide (((cell / 5) % 2) = 0), true]) none (some 1))))) ++ ([(List.getD ([(V.int 0), (V.int 1), V.non, (V.str ("t")), (V.int ((-1)))]) (Int.toNat ((cell % 5))) V.non)]))) ++ ((List.map V.bl ([decide (((cell / 5) % 2) = 0), true])))))] : List (RO (List V))))) : HO)), (l_23, (.lst ((((List.map V.bl ((cutL ([decide (((cell / 5) % 2) = 0), true]) none (some 1))))) ++ ([(List.getD ([(V.int 0), (V.int 1), V.non, (V.str ("t")), (V.int ((-1)))]) (Int.toNat ((cell % 5))) V.non)]))) : HO)), (l_21, (.lst ([(List.getD ([(V.int 0), (V.int 1), V.non, (V.str ("t")), (V.int ((-1)))]) (Int.toNat ((cell % 5))) V.non)]) : HO)), (l_19, (.lst (List.map V.bl ((cutL ([decide (((cell / 5) % 2) = 0), true]) none (some 1)))) : HO)), (l_15, (.lst ([(List.getD ([(V.int 0), (V.int 1), V.non, (V.str ("t")), (V.int ((-1)))]) (Int.toNat ((cell % 5))) V.non)]) : HO)), (l_11, (.lst ([(List.getD ([(V.int 0), (V.int 1), V.non, (V.str ("t")), (V.int ((-1)))]) (Int.toNat ((cell % 5))) V.non)]) : HO)), (l_7, (.lst (List.map V.bl ([false])) : HO)), (l_3, (.lst (List.map V.bl ([decide (((cell / 5) % 2) = 0), true])) : HO))] ++ List.flatten [rosOwn gV (([(l_5, []), (l_9, (List.map V.bl ((List.replicate (Int.toNat ((401 + (cell % 90)))) false)))), (l_13, (((List.map V.bl ([decide (((cell / 5) % 2) = 0), true]))) ++ ([(List.getD ([(V.int 0), (V.int 1), V.non, (V.str ("t")), (V.int ((-1)))]) (Int.toNat ((cell % 5))) V.non)]))), (l_17, (([(List.getD ([(V.int 0), (V.int 1), V.non, (V.str ("t")), (V.int ((-1)))]) (Int.toNat ((cell % 5))) V.non)]) ++ ((List.map V.bl ([decide (((cell / 5) % 2) = 0), true]))))), (l_25, (((((List.map V.bl ((cutL ([decide (((cell / 5) % 2) = 0), true]) none (some 1))))) ++ ([(List.getD ([(V.int 0), (V.int 1), V.non, (V.str ("t")), (V.int ((-1)))]) (Int.toNat ((cell % 5))) V.non)]))) ++ ((List.map V.bl ([decide (((cell / 5) % 2) = 0), true])))))] : List (RO (List V))))]) := fr
    have fr : Fr H _ ([(l_27, (.lst (List.map rref (([(l_5, []), (l_9, (List.map V.bl ((List.replicate (Int.toNat ((401 + (cell % 90)))) false)))), (l_13, (((List.map V.bl ([decide (((cell / 5) % 2) = 0), true]))) ++ ([(List.getD ([(V.int 0), (V.int 1), V.non, (V.str ("t")), (V.int ((-1)))]) (Int.toNat ((cell % 5))) V.non)]))), (l_17, (([(List.getD ([(V.int 0), (V.int 1), V.non, (V.str ("t")), (V.int ((-1)))]) (Int.toNat ((cell % 5))) V.non)]) ++ ((List.map V.bl ([decide (((cell / 5) % 2) = 0), true]))))), (l_25, (((((List.map V.bl ((cutL ([decide (((cell / 5) % 2) = 0), true]) none (some 1))))) ++ ([(List.getD ([(V.int 0), (V.int 1), V.non, (V.str ("t")), (V.int ((-1)))]) (Int.toNat ((cell % 5))) V.non)]))) ++ ((List.map V.bl ([decide (((cell / 5) % 2) = 0), true])))))] : List (RO (List V))))) : HO)), (l_21, (.lst ([(List.getD ([(V.int 0), (V.int 1), V.non, (V.str ("t")), (V.int ((-1)))]) (Int.toNat ((cell % 5))) V.non)]) : HO)), (l_19, (.lst (List.map V.bl ((cutL ([decide (((cell / 5) % 2) = 0), true]) none (some 1)))) : HO)), (l_15, (.lst ([(List.getD ([(V.int 0), (V.int 1), V.non, (V.str ("t")), (V.int ((-1)))]) (Int.toNat ((cell % 5))) V.non)]) : HO)), (l_11, (.lst ([(List.getD ([(V.int 0), (V.int 1), V.non, (V.str ("t")), (V.int ((-1)))]) (Int.toNat ((cell % 5))) V.non)]) : HO)), (l_7, (.lst (List.map V.bl ([false])) : HO)), (l_3, (.lst (List.map V.bl ([decide (((cell / 5) % 2) = 0), true])) : HO))] ++ List.flatten [rosOwn gV (([(l_5, []), (l_9, (List.map V.bl ((List.replicate (Int.toNat ((401 + (cell % 90)))) false)))), (l_13, (((List.map V.bl ([decide (((cell / 5) % 2) = 0), true]))) ++ ([(List.getD ([(V.int 0), (V.int 1), V.non, (V.str ("t")), (V.int ((-1)))]) (Int.toNat ((cell % 5))) V.non)]))), (l_17, (([(List.getD ([(V.int 0), (V.int 1), V.non, (V.str ("t")), (V.int ((-1)))]) (Int.toNat ((cell % 5))) V.non)]) ++ ((List.map V.bl ([decide (((cell / 5) % 2) = 0), true]))))), (l_25, (((((List.map V.bl ((cutL ([decide (((cell / 5) % 2) = 0), true]) none (some 1))))) ++ ([(List.getD ([(V.int 0), (V.int 1), V.non, (V.str ("t")), (V.int ((-1)))]) (Int.toNat ((cell % 5))) V.non)]))) ++ ((List.map V.bl ([decide (((cell / 5) % 2) = 0), true])))))] : List (RO (List V))))]) := Fr.dk fr 1
    have fr : Fr H _ ([(l_27, (.lst (List.map rref (([(l_5, []), (l_9, (List.map V.bl ((List.replicate (Int.toNat ((401 + (cell % 90)))) false)))), (l_13, (((List.map V.bl ([decide (((cell / 5) % 2) = 0), true]))) ++ ([(List.getD ([(V.int 0), (V.int 1), V.non, (V.str ("t")), (V.int ((-1)))]) (Int.toNat ((cell % 5))) V.non)]))), (l_17, (([(List.getD ([(V.int 0), (V.int 1), V.non, (V.str ("t")), (V.int ((-1)))]) (Int.toNat ((cell % 5))) V.non)]) ++ ((List.map V.bl ([decide (((cell / 5) % 2) = 0), true]))))), (l_25, (((((List.map V.bl ((cutL ([decide (((cell / 5) % 2) = 0), true]) none (some 1))))) ++ ([(List.getD ([(V.int 0), (V.int 1), V.non, (V.str ("t")), (V.int ((-1)))]) (Int.toNat ((cell % 5))) V.non)]))) ++ ((List.map V.bl ([decide (((cell / 5) % 2) = 0), true])))))] : List (RO (List V))))) : HO)), (l_19, (.lst (List.map V.bl ((cutL ([decide (((cell / 5) % 2) = 0), true]) none (some 1)))) : HO)), (l_15, (.lst ([(List.getD ([(V.int 0), (V.int 1), V.non, (V.str ("t")), (V.int ((-1)))]) (Int.toNat ((cell % 5))) V.non)]) : HO)), (l_11, (.lst ([(List.getD ([(V.int 0), (V.int 1), V.non, (V.str ("t")), (V.int ((-1)))]) (Int.toNat ((cell % 5))) V.non)]) : HO)), (l_7, (.lst (List.map V.bl ([false])) : HO)), (l_3, (.lst (List.map V.bl ([decide (((cell / 5) % 2) = 0), true])) : HO))] ++ List.flatten [rosOwn gV (([(l_5, []), (l_9, (List.map V.bl ((List.replicate (Int.toNat ((401 + (cell % 90)))) false)))), (l_13, (((List.map V.bl ([decide (((cell / 5) % 2) = 0), true]))) ++ ([(List.getD ([(V.int 0), (V.int 1), V.non, (V.str ("t")), (V.int ((-1)))]) (Int.toNat ((cell % 5))) V.non)]))), (l_17, (([(List.getD ([(V.int 0), (V.int 1), V.non, (V.str ("t")), (V.int ((-1)))]) (Int.toNat ((cell % 5))) V.non)]) ++ ((List.map V.bl ([decide (((cell / 5) % 2) = 0), true]))))), (l_25, (((((List.map V.bl ((cutL ([decide (((cell / 5) % 2) = 0), true]) none (some 1))))) ++ ([(List.getD ([(V.int 0), (V.int 1), V.non, (V.str ("t")), (V.int ((-1)))]) (Int.toNat ((cell % 5))) V.non)]))) ++ ((List.map V.bl ([decide (((cell / 5) % 2) = 0), true])))))] : List (RO (List V))))]) := Fr.dk fr 1
    have fr : Fr H _ ([(l_27, (.lst (List.map rref (([(l_5, []), (l_9, (List.map V.bl ((List.replicate (Int.toNat ((401 + (cell % 90)))) false)))), (l_13, (((List.map V.bl ([decide (((cell / 5) % 2) = 0), true]))) ++ ([(List.getD ([(V.int 0), (V.int 1), V.non, (V.str ("t")), (V.int ((-1)))]) (Int.toNat ((cell % 5))) V.non)]))), (l_17, (([(List.getD ([(V.int 0), (V.int 1), V.non, (V.str ("t")), (V.int ((-1)))]) (Int.toNat ((cell % 5))) V.non)]) ++ ((List.map V.bl ([decide (((cell / 5) % 2) = 0), true]))))), (l_25, (((((List.map V.bl ((cutL ([decide (((cell / 5) % 2) = 0), true]) none (some 1))))) ++ ([(List.getD ([(V.int 0), (V.int 1), V.non, (V.str ("t")), (V.int ((-1)))]) (Int.toNat ((cell % 5))) V.non)]))) ++ ((List.map V.bl ([decide (((cell / 5) % 2) = 0), true])))))] : List (RO (List V))))) : HO)), (l_15, (.lst ([(List.getD ([(V.int 0), (V.int 1), V.non, (V.str ("t")), (V.int ((-1)))]) (Int.toNat ((cell % 5))) V.non)]) : HO)), (l_11, (.lst ([(List.getD ([(V.int 0), (V.int 1), V.non, (V.str ("t")), (V.int ((-1)))]) (Int.toNat ((cell % 5))) V.non)]) : HO)), (l_7, (.lst (List.map V.bl ([false])) : HO)), (l_3, (.lst (List.map V.bl ([decide (((cell / 5) % 2) = 0), true])) : HO))] ++ List.flatten [rosOwn gV (([(l_5, []), (l_9, (List.map V.bl ((List.replicate (Int.toNat ((401 + (cell % 90)))) false)))), (l_13, (((List.map V.bl ([decide (((cell / 5) % 2) = 0), true]))) ++ ([(List.getD ([(V.int 0), (V.int 1), V.non, (V.str ("t")), (V.int ((-1)))]) (Int.toNat ((cell % 5))) V.non)]))), (l_17, (([(List.getD ([(V.int 0), (V.int 1), V.non, (V.str ("t")), (V.int ((-1)))]) (Int.toNat ((cell % 5))) V.non)]) ++ ((List.map V.bl ([decide (((cell / 5) % 2) = 0), true]))))), (l_25, (((((List.map V.bl ((cutL ([decide (((cell / 5) % 2) = 0), true]) none (some 1))))) ++ ([(List.getD ([(V.int 0), (V.int 1), V.non, (V.str ("t")), (V.int ((-1)))]) (Int.toNat ((cell % 5))) V.non)]))) ++ ((List.map V.bl ([decide (((cell / 5) % 2) = 0), true])))))] : List (RO (List V))))]) := Fr.dk fr 1
    have fr : Fr H _ ([(l_27, (.lst (List.map rref (([(l_5, []), (l_9, (List.map V.bl ((List.replicate (Int.toNat ((401 + (cell % 90)))) false)))), (l_13, (((List.map V.bl ([decide (((cell / 5) % 2) = 0), true]))) ++ ([(List.getD ([(V.int 0), (V.int 1), V.non, (V.str ("t")), (V.int ((-1)))]) (Int.toNat ((cell % 5))) V.non)]))), (l_17, (([(List.getD ([(V.int 0), (V.int 1), V.non, (V.str ("t")), (V.int ((-1)))]) (Int.toNat ((cell % 5))) V.non)]) ++ ((List.map V.bl ([decide (((cell / 5) % 2) = 0), true]))))), (l_25, (((((List.map V.bl ((cutL ([decide (((cell / 5) % 2) = 0), true]) none (some 1))))) ++ ([(List.getD ([(V.int 0), (V.int 1), V.non, (V.str ("t")), (V.int ((-1)))]) (Int.toNat ((cell % 5))) V.non)]))) ++ ((List.map V.bl ([decide (((cell / 5) % 2) = 0), true])))))] : List (RO (List V))))) : HO)), (l_11, (.lst ([(List.getD ([(V.int 0), (V.int 1), V.non, (V.str ("t")), (V.int ((-1)))]) (Int.toNat ((cell % 5))) V.non)]) : HO)), (l_7, (.lst (List.map V.bl ([false])) : HO)), (l_3, (.lst (List.map V.bl ([decide (((cell / 5) % 2) = 0), true])) : HO))] ++ List.flatten [rosOwn gV (([(l_5, []), (l_9, (List.map V.bl ((List.replicate (Int.toNat ((401 + (cell % 90)))) false)))), (l_13, (((List.map V.bl ([decide (((cell / 5) % 2) = 0), true]))) ++ ([(List.getD ([(V.int 0), (V.int 1), V.non, (V.str ("t")), (V.int ((-1)))]) (Int.toNat ((cell % 5))) V.non)]))), (l_17, (([(List.getD ([(V.int 0), (V.int 1), V.non, (V.str ("t")), (V.int ((-1)))]) (Int.toNat ((cell % 5))) V.non)]) ++ ((List.map V.bl ([decide (((cell / 5) % 2) = 0), true]))))), (l_25, (((((List.map V.bl ((cutL ([decide (((cell / 5) % 2) = 0), true]) none (some 1))))) ++ ([(List.getD ([(V.int 0), (V.int 1), V.non, (V.str ("t")), (V.int ((-1)))]) (Int.toNat ((cell % 5))) V.non)]))) ++ ((List.map V.bl ([decide (((cell / 5) % 2) = 0), true])))))] : List (RO (List V))))]) := Fr.dk fr 1
    have fr : Fr H _ ([(l_27, (.lst (List.map rref (([(l_5, []), (l_9, (List.map V.bl ((List.replicate (Int.toNat ((401 + (cell % 90)))) false)))), (l_13, (((List.map V.bl ([decide (((cell / 5) % 2) = 0), true]))) ++ ([(List.getD ([(V.int 0), (V.int 1), V.non, (V.str ("t")), (V.int ((-1)))]) (Int.toNat ((cell % 5))) V.non)]))), (l_17, (([(List.getD ([(V.int 0), (V.int 1), V.non, (V.str ("t")), (V.int ((-1)))]) (Int.toNat ((cell % 5))) V.non)]) ++ ((List.map V.bl ([decide (((cell / 5) % 2) = 0), true]))))), (l_25, (((((List.map V.bl ((cutL ([decide (((cell / 5) % 2) = 0), true]) none (some 1))))) ++ ([(List.getD ([(V.int 0), (V.int 1), V.non, (V.str ("t")), (V.int ((-1)))]) (Int.toNat ((cell % 5))) V.non)]))) ++ ((List.map V.bl ([decide (((cell / 5) % 2) = 0), true])))))] : List (RO (List V))))) : HO)), (l_7, (.lst (List.map V.bl ([false])) : HO)), (l_3, (.lst (List.map V.bl ([decide (((cell / 5) % 2) = 0), true])) : HO))] ++ List.flatten [rosOwn gV (([(l_5, []), (l_9, (List.map V.bl ((List.replicate (Int.toNat ((401 + (cell % 90)))) false)))), (l_13, (((List.map V.bl ([decide (((cell / 5) % 2) = 0), true]))) ++ ([(List.getD ([(V.int 0), (V.int 1), V.non, (V.str ("t")), (V.int ((-1)))]) (Int.toNat ((cell % 5))) V.non)]))), (l_17, (([(List.getD ([(V.int 0), (V.int 1), V.non, (V.str ("t")), (V.int ((-1)))]) (Int.toNat ((cell % 5))) V.non)]) ++ ((List.map V.bl ([decide (((cell / 5) % 2) = 0), true]))))), (l_25, (((((List.map V.bl ((cutL ([decide (((cell / 5) % 2) = 0), true]) none (some 1))))) ++ ([(List.getD ([(V.int 0), (V.int 1), V.non, (V.str ("t")), (V.int ((-1)))]) (Int.toNat ((cell % 5))) V.non)]))) ++ ((List.map V.bl ([decide (((cell / 5) % 2) = 0), true])))))] : List (RO (List V))))]) := Fr.dk fr 1
    have fr : Fr H _ ([(l_27, (.lst (List.map rref (([(l_5, []), (l_9, (List.map V.bl ((List.replicate (Int.toNat ((401 + (cell % 90)))) false)))), (l_13, (((List.map V.bl ([decide (((cell / 5) % 2) = 0), true]))) ++ ([(List.getD ([(V.int 0), (V.int 1), V.non, (V.str ("t")), (V.int ((-1)))]) (Int.toNat ((cell % 5))) V.non)]))), (l_17, (([(List.getD ([(V.int 0), (V.int 1), V.non, (V.str ("t")), (V.int ((-1)))]) (Int.toNat ((cell % 5))) V.non)]) ++ ((List.map V.bl ([decide (((cell / 5) % 2) = 0), true]))))), (l_25, (((((List.map V.bl ((cutL ([decide (((cell / 5) % 2) = 0), true]) none (some 1))))) ++ ([(List.getD ([(V.int 0), (V.int 1), V.non, (V.str ("t")), (V.int ((-1)))]) (Int.toNat ((cell % 5))) V.non)]))) ++ ((List.map V.bl ([decide (((cell / 5) % 2) = 0), true])))))] : List (RO (List V))))) : HO)), (l_3, (.lst (List.map V.bl ([decide (((cell / 5) % 2) = 0), true])) : HO))] ++ List.flatten [rosOwn gV (([(l_5, []), (l_9, (List.map V.bl ((List.replicate (Int.toNat ((401 + (cell % 90)))) false)))), (l_13, (((List.map V.bl ([decide (((cell / 5) % 2) = 0), true]))) ++ ([(List.getD ([(V.int 0), (V.int 1), V.non, (V.str ("t")), (V.int ((-1)))]) (Int.toNat ((cell % 5))) V.non)]))), (l_17, (([(List.getD ([(V.int 0), (V.int 1), V.non, (V.str ("t")), (V.int ((-1)))]) (Int.toNat ((cell % 5))) V.non)]) ++ ((List.map V.bl ([decide (((cell / 5) % 2) = 0), true]))))), (l_25, (((((List.map V.bl ((cutL ([decide (((cell / 5) % 2) = 0), true]) none (some 1))))) ++ ([(List.getD ([(V.int 0), (V.int 1), V.non, (V.str ("t")), (V.int ((-1)))]) (Int.toNat ((cell % 5))) V.non)]))) ++ ((List.map V.bl ([decide (((cell / 5) % 2) = 0), true])))))] : List (RO (List V))))]) := Fr.dk fr 1
    have fr : Fr H _ ([(l_27, (.lst (List.map rref (([(l_5, []), (l_9, (List.map V.bl ((List.replicate (Int.toNat ((401 + (cell % 90)))) false)))), (l_13, (((List.map V.bl ([decide (((cell / 5) % 2) = 0), true]))) ++ ([(List.getD ([(V.int 0), (V.int 1), V.non, (V.str ("t")), (V.int ((-1)))]) (Int.toNat ((cell % 5))) V.non)]))), (l_17, (([(List.getD ([(V.int 0), (V.int 1), V.non, (V.str ("t")), (V.int ((-1)))]) (Int.toNat ((cell % 5))) V.non)]) ++ ((List.map V.bl ([decide (((cell / 5) % 2) = 0), true]))))), (l_25, (((((List.map V.bl ((cutL ([decide (((cell / 5) % 2) = 0), true]) none (some 1))))) ++ ([(List.getD ([(V.int 0), (V.int 1), V.non, (V.str ("t")), (V.int ((-1)))]) (Int.toNat ((cell % 5))) V.non)]))) ++ ((List.map V.bl ([decide (((cell / 5) % 2) = 0), true])))))] : List (RO (List V))))) : HO))] ++ List.flatten [rosOwn gV (([(l_5, []), (l_9, (List.map V.bl ((List.replicate (Int.toNat ((401 + (cell % 90)))) false)))), (l_13, (((List.map V.bl ([decide (((cell / 5) % 2) = 0), true]))) ++ ([(List.getD ([(V.int 0), (V.int 1), V.non, (V.str ("t")), (V.int ((-1)))]) (Int.toNat ((cell % 5))) V.non)]))), (l_17, (([(List.getD ([(V.int 0), (V.int 1), V.non, (V.str ("t")), (V.int ((-1)))]) (Int.toNat ((cell % 5))) V.non)]) ++ ((List.map V.bl ([decide (((cell / 5) % 2) = 0), true]))))), (l_25, (((((List.map V.bl ((cutL ([decide (((cell / 5) % 2) = 0), true]) none (some 1))))) ++ ([(List.getD ([(V.int 0), (V.int 1), V.non, (V.str ("t")), (V.int ((-1)))]) (Int.toNat ((cell % 5))) V.non)]))) ++ ((List.map V.bl ([decide (((cell / 5) % 2) = 0), true])))))] : List (RO (List V))))]) := Fr.dk fr 1
    exact q _ _ _ (([[], (List.map V.bl ((List.replicate (Int.toNat ((401 + (cell % 90)))) false))), (((List.map V.bl ([decide (((cell / 5) % 2) = 0), true]))) ++ ([(List.getD ([(V.int 0), (V.int 1), V.non, (V.str ("t")), (V.int ((-1)))]) (Int.toNat ((cell % 5))) V.non)])), (([(List.getD ([(V.int 0), (V.int 1), V.non, (V.str ("t")), (V.int ((-1)))]) (Int.toNat ((cell % 5))) V.non)]) ++ ((List.map V.bl ([decide (((cell / 5) % 2) = 0), true])))), (((((List.map V.bl ((cutL ([decide (((cell / 5) % 2) = 0), true]) none (some 1))))) ++ ([(List.getD ([(V.int 0), (V.int 1), V.non, (V.str ("t")), (V.int ((-1)))]) (Int.toNat ((cell % 5))) V.non)]))) ++ ((List.map V.bl ([decide (((cell / 5) % 2) = 0), true]))))] : List (List V))) (by exact badMarks hth (by omega)) (Fr.tabback (g := gV) (pre := []) (ts := []) (rows := (([(l_5, []), (l_9, (List.map V.bl ((List.replicate (Int.toNat ((401 + (cell % 90)))) false)))), (l_13, (((List.map V.bl ([decide (((cell / 5) % 2) = 0), true]))) ++ ([(List.getD ([(V.int 0), (V.int 1), V.non, (V.str ("t")), (V.int ((-1)))]) (Int.toNat ((cell % 5))) V.non)]))), (l_17, (([(List.getD ([(V.int 0), (V.int 1), V.non, (V.str ("t")), (V.int ((-1)))]) (Int.toNat ((cell % 5))) V.non)]) ++ ((List.map V.bl ([decide (((cell / 5) % 2) = 0), true]))))), (l_25, (((((List.map V.bl ((cutL ([decide (((cell / 5) % 2) = 0), true]) none (some 1))))) ++ ([(List.getD ([(V.int 0), (V.int 1), V.non, (V.str ("t")), (V.int ((-1)))]) (Int.toNat ((cell % 5))) V.non)]))) ++ ((List.map V.bl ([decide (((cell / 5) % 2) = 0), true])))))] : List (RO (List V))))) fr rfl) fr.same
def sp_law_bad_words (K : PySem.W.Frag) : Sp := fun vs H Q _ => ∃ (n : Int) (heaps : Int) (cell : Int), vs = [V.int n, V.int heaps, V.int cell] ∧ (1 ≤ n ∧ n ≤ 60) ∧ (1 ≤ heaps ∧ heaps ≤ 400) ∧ (∀ (H1 : Hp) (rA : Addr) (rows : List (RO (List V))) (res : List (List V)), (∀ r ∈ res, Sca r ∧ r.length ≤ 1000 ∧ isWordV (Int.toNat heaps) r n = false) → TabN H H1 gV rA rows res → Same H H1 → Q (V.ref rA) H1)
theorem sc_law_bad_words : FnScope ["_law_n", "_law_heaps", "_law_cell", "_law_word_here", "_law_k", "_law_thing", "_law_number"] ["_law_n", "_law_heaps", "_law_cell"] (defScope s_law_bad_words) := ⟨rfl, rfl, rfl, by decide +kernel, rfl, by decide +kernel, by decide +kernel⟩
theorem ok_law_bad_words (T : Txt K mg) : FnOk P w K mg base CX0 1 T.f_law_bad_words T.fd_law_bad_words ["_law_n", "_law_heaps", "_law_cell"] (sp_law_bad_words K) := by
  refine T.F_law_bad_words.ok sc_law_bad_words (fun vs H Q E h => ?_) (fun cdv A outer s H vs Q E hr h => ?_)
  · obtain ⟨n, heaps, cell, rfl, _⟩ := h; rfl
  · obtain ⟨n, heaps, cell, rfl, pre0, pre1, q⟩ := h
    have fr := Fr.nil H
    have hc0 := Int.emod_nonneg cell (show (1000000000 : Int) ≠ 0 by decide)
    refine ⟨_, (pss_cons (ps_setLc (i := 3) (own := [("_law_number", 6)]) (g := gName 6) (tt := tYes) rfl sc_law_bad_words.nd rfl rfl (sw_true rfl rfl rfl (by decide +kernel)) (pi_range1 (by rfl) T.m_range (pa_cons (pv 0) pa_nil)) (blkOk_by (N := ["_law_n", "_law_heaps", "_law_cell", "_law_word_here", "_law_k", "_law_thing", "_law_number"]) (sc := (defScope s_law_bad_words)) (by decide +kernel)) (fun _ _ _ _ _ => pg_name (i := 6) sc_law_bad_words.nd rfl (Or.inl rfl)) (fun _ _ _ _ _ => pts_nil) (fun _ _ _ _ _ => (pe_op op_mod (pv 6) (pv 1))))
          (pss_cons (ps_set (i := 4) sc_law_bad_words.nd rfl (Or.inl rfl) (pe_op op_mod (pv 2) (pv 0)))
          (pss_cons (ps_set (i := 5) sc_law_bad_words.nd rfl (Or.inl rfl) (pe_ix (show IxR _ (rIxL K) from ix_list) (pe_lst (pa_cons (pv 1) (pa_cons (pe_op op_add (pv 1) (pe_op op_mod (pv 2) (pe_op op_powL pe_int pe_int))) (pa_cons (pe_un un_neg pe_int) (pa_cons (pe_op op_sub (pe_un un_neg pe_int) (pe_op op_mod (pv 2) (pe_op op_powL pe_int pe_int))) (pa_cons pe_bl (pa_cons pe_bl (pa_cons pe_non (pa_cons pe_str pa_nil))))))))) (pe_op op_mod (pe_op op_fdiv (pv 2) pe_int) pe_int) (fun _ _ => rfl)))
          (pss_one (ps_ret (pe_lst (pa_cons (pe_op op_cat (pe_op op_cat (pe_slice (show SlR _ (rSlL K) from sl_list) (pv 3) po_none (po_some (pv 4))) (pe_lst (pa_cons (pv 5) pa_nil))) (pe_slice (show SlR _ (rSlL K) from sl_list) (pv 3) (po_some (pe_op op_add (pv 4) pe_int)) po_none)) (pa_cons (pe_op op_cat (pv 3) (pe_lst (pa_cons pe_int pa_nil))) (pa_cons (pe_slice (show SlR _ (rSlL K) from sl_list) (pv 3) (po_some pe_int) po_none) (pa_cons (pe_op op_cat (pe_lst (pa_cons (pv 5) pa_nil)) (pe_slice (show SlR _ (rSlL K) from sl_list) (pv 3) (po_some pe_int) po_none)) pa_nil)))))))))), ?_⟩
    refine ⟨_, rfl, _, rfl, ?_, ?_, ?_⟩
    · walk_at "side"
    · walk_at "side"
    intro D_1 nD_2
    refine lc_it (walkR (n := (Int.toNat n))) (fun (i : Nat) H1 => Fr H H1 [(D_1, (.lst (List.map V.int ((List.map (fun i : Nat => ((i : Int) % heaps)) (List.range i)))) : HO))]) (fr.new nD_2) (fun i H1 hi fr => trivial) ?_ ?_
    · rintro i_4 x_8 H_6 H_7 hi_5 fr ⟨rfl, rfl⟩
      refine ⟨rfl, ?_⟩
      refine ⟨_, rfl, _, rfl, _, _, rfl, rfl, ?_, _, (Fr.atk fr 0 rfl), ?_, ?_⟩
      · walk_at "side"
      · walk_at "csize"
      exact (Fr.wr fr).cast (lc_r _ _)
    intro H_9 fr
    have fr : Fr H _ [(D_1, (.lst (List.map V.int ((List.map (fun i : Nat => ((i : Int) % heaps)) (List.range (Int.toNat n))))) : HO))] := fr
    have hwl : (((List.map (fun i : Nat => ((i : Int) % heaps)) (List.range (Int.toNat n)))).length : Int) = n := by rw [List.length_map, List.length_range]; omega
    refine ⟨_, rfl, _, rfl, _, _, rfl, rfl, ?_, ?_⟩
    · walk_at "side"
    have hk1 := Int.emod_nonneg cell (show n ≠ 0 by omega)
    have hk2 := Int.emod_lt_of_pos cell (show 0 < n by omega)
    refine ⟨_, rfl, _, rfl, _, rfl, _, _, 1000000000, rfl, rfl, ⟨by decide, by decide, by decide⟩, (by decide), _, _, rfl, rfl, (show (0 : Int) < _ by decide), _, _, rfl, rfl, _, rfl, _, rfl, _, rfl, _, _, 1000000000, rfl, rfl, ⟨by decide, by decide, by decide⟩, (by decide), _, _, rfl, rfl, (show (0 : Int) < _ by decide), _, _, rfl, rfl, (Evl.sz_of (show 8 ≤ 100000 by decide)), fun l_10 nl_11 => ?_⟩
    have fr : Fr H _ [(l_10, (.lst ([(V.int heaps), (V.int ((heaps + (cell % 1000000000)))), (V.int ((-1))), (V.int (((-1) - (cell % 1000000000)))), (V.bl true), (V.bl false), V.non, (V.str ("0"))]) : HO)), (D_1, (.lst (List.map V.int ((List.map (fun i : Nat => ((i : Int) % heaps)) (List.range (Int.toNat n))))) : HO))] := fr.new nl_11
    refine ⟨_, rfl, _, _, rfl, rfl, ⟨by decide, by decide⟩, _, _, rfl, rfl, (show (0 : Int) < _ by decide), _, _, _, _, rfl, rfl, (SqL.of fr.at0), (atV V.non ?_ ?_), ?_⟩
    · walk_at "side"
    · walk_at "side"
    have hth := bad8 (m := heaps) (c := cell % 1000000000) (i := cell / 60 % 8) pre1.1 hc0 (by omega)
    have fr : Fr H _ [(D_1, (.lst (List.map V.int ((List.map (fun i : Nat => ((i : Int) % heaps)) (List.range (Int.toNat n))))) : HO))] := Fr.dk fr 0
    refine ⟨_, rfl, _, rfl, _, rfl, _, _, rfl, (SqL.of fr.at0), fun l_12 nl_13 => ?_⟩
    have fr : Fr H _ [(l_12, (.lst (List.map V.int ((cutL ((List.map (fun i : Nat => ((i : Int) % heaps)) (List.range (Int.toNat n)))) none (some ((cell % n)))))) : HO)), (D_1, (.lst (List.map V.int ((List.map (fun i : Nat => ((i : Int) % heaps)) (List.range (Int.toNat n))))) : HO))] := (fr.new nl_13).cast (lst_cut _ _ _ _)
    refine ⟨_, rfl, (Evl.sz_of (show 1 ≤ 100000 by decide)), fun l_14 nl_15 => ?_⟩
    have fr : Fr H _ [(l_14, (.lst ([(List.getD ([(V.int heaps), (V.int ((heaps + (cell % 1000000000)))), (V.int ((-1))), (V.int (((-1) - (cell % 1000000000)))), (V.bl true), (V.bl false), V.non, (V.str ("0"))]) (Int.toNat (((cell / 60) % 8))) V.non)]) : HO)), (l_12, (.lst (List.map V.int ((cutL ((List.map (fun i : Nat => ((i : Int) % heaps)) (List.range (Int.toNat n)))) none (some ((cell % n)))))) : HO)), (D_1, (.lst (List.map V.int ((List.map (fun i : Nat => ((i : Int) % heaps)) (List.range (Int.toNat n))))) : HO))] := fr.new nl_15
    refine ⟨_, _, _, _, rfl, rfl, fr.at1, fr.at0, ?_, fun l_16 nl_17 => ?_⟩
    · walk_at "size"
    have fr : Fr H _ [(l_16, (.lst ((((List.map V.int ((cutL ((List.map (fun i : Nat => ((i : Int) % heaps)) (List.range (Int.toNat n)))) none (some ((cell % n))))))) ++ ([(List.getD ([(V.int heaps), (V.int ((heaps + (cell % 1000000000)))), (V.int ((-1))), (V.int (((-1) - (cell % 1000000000)))), (V.bl true), (V.bl false), V.non, (V.str ("0"))]) (Int.toNat (((cell / 60) % 8))) V.non)]))) : HO)), (l_14, (.lst ([(List.getD ([(V.int heaps), (V.int ((heaps + (cell % 1000000000)))), (V.int ((-1))), (V.int (((-1) - (cell % 1000000000)))), (V.bl true), (V.bl false), V.non, (V.str ("0"))]) (Int.toNat (((cell / 60) % 8))) V.non)]) : HO)), (l_12, (.lst (List.map V.int ((cutL ((List.map (fun i : Nat => ((i : Int) % heaps)) (List.range (Int.toNat n)))) none (some ((cell % n)))))) : HO)), (D_1, (.lst (List.map V.int ((List.map (fun i : Nat => ((i : Int) % heaps)) (List.range (Int.toNat n))))) : HO))] := (fr.new nl_17)
    refine ⟨_, rfl, _, rfl, _, _, rfl, rfl, _, rfl, _, _, rfl, (SqL.of fr.at3), fun l_18 nl_19 => ?_⟩
    have fr : Fr H _ [(l_18, (.lst (List.map V.int ((cutL ((List.map (fun i : Nat => ((i : Int) % heaps)) (List.range (Int.toNat n)))) (some (((cell % n) + 1))) none))) : HO)), (l_16, (.lst ((((List.map V.int ((cutL ((List.map (fun i : Nat => ((i : Int) % heaps)) (List.range (Int.toNat n)))) none (some ((cell % n))))))) ++ ([(List.getD ([(V.int heaps), (V.int ((heaps + (cell % 1000000000)))), (V.int ((-1))), (V.int (((-1) - (cell % 1000000000)))), (V.bl true), (V.bl false), V.non, (V.str ("0"))]) (Int.toNat (((cell / 60) % 8))) V.non)]))) : HO)), (l_14, (.lst ([(List.getD ([(V.int heaps), (V.int ((heaps + (cell % 1000000000)))), (V.int ((-1))), (V.int (((-1) - (cell % 1000000000)))), (V.bl true), (V.bl false), V.non, (V.str ("0"))]) (Int.toNat (((cell / 60) % 8))) V.non)]) : HO)), (l_12, (.lst (List.map V.int ((cutL ((List.map (fun i : Nat => ((i : Int) % heaps)) (List.range (Int.toNat n)))) none (some ((cell % n)))))) : HO)), (D_1, (.lst (List.map V.int ((List.map (fun i : Nat => ((i : Int) % heaps)) (List.range (Int.toNat n))))) : HO))] := (fr.new nl_19).cast (lst_cut _ _ _ _)
    refine ⟨_, _, _, _, rfl, rfl, fr.at1, fr.at0, ?_, fun l_20 nl_21 => ?_⟩
    · walk_at "size"
    have fr : Fr H _ [(l_20, (.lst ((((((List.map V.int ((cutL ((List.map (fun i : Nat => ((i : Int) % heaps)) (List.range (Int.toNat n)))) none (some ((cell % n))))))) ++ ([(List.getD ([(V.int heaps), (V.int ((heaps + (cell % 1000000000)))), (V.int ((-1))), (V.int (((-1) - (cell % 1000000000)))), (V.bl true), (V.bl false), V.non, (V.str ("0"))]) (Int.toNat (((cell / 60) % 8))) V.non)]))) ++ ((List.map V.int ((cutL ((List.map (fun i : Nat => ((i : Int) % heaps)) (List.range (Int.toNat n)))) (some (((cell % n) + 1))) none)))))) : HO)), (l_18, (.lst (List.map V.int ((cutL ((List.map (fun i : Nat => ((i : Int) % heaps)) (List.range (Int.toNat n)))) (some (((cell % n) + 1))) none))) : HO)), (l_16, (.lst ((((List.map V.int ((cutL ((List.map (fun i : Nat => ((i : Int) % heaps)) (List.range (Int.toNat n)))) none (some ((cell % n))))))) ++ ([(List.getD ([(V.int heaps), (V.int ((heaps + (cell % 1000000000)))), (V.int ((-1))), (V.int (((-1) - (cell % 1000000000)))), (V.bl true), (V.bl false), V.non, (V.str ("0"))]) (Int.toNat (((cell / 60) % 8))) V.non)]))) : HO)), (l_14, (.lst ([(List.getD ([(V.int heaps), (V.int ((heaps + (cell % 1000000000)))), (V.int ((-1))), (V.int (((-1) - (cell % 1000000000)))), (V.bl true), (V.bl false), V.non, (V.str ("0"))]) (Int.toNat (((cell / 60) % 8))) V.non)]) : HO)), (l_12, (.lst (List.map V.int ((cutL ((List.map (fun i : Nat => ((i : Int) % heaps)) (List.range (Int.toNat n)))) none (some ((cell % n)))))) : HO)), (D_1, (.lst (List.map V.int ((List.map (fun i : Nat => ((i : Int) % heaps)) (List.range (Int.toNat n))))) : HO))] := (fr.new nl_21)
    refine ⟨_, rfl, (Evl.sz_of (show 1 ≤ 100000 by decide)), fun l_22 nl_23 => ?_⟩
    have fr : Fr H _ [(l_22, (.lst (List.map V.int ([0])) : HO)), (l_20, (.lst ((((((List.map V.int ((cutL ((List.map (fun i : Nat => ((i : Int) % heaps)) (List.range (Int.toNat n)))) none (some ((cell % n))))))) ++ ([(List.getD ([(V.int heaps), (V.int ((heaps + (cell % 1000000000)))), (V.int ((-1))), (V.int (((-1) - (cell % 1000000000)))), (V.bl true), (V.bl false), V.non, (V.str ("0"))]) (Int.toNat (((cell / 60) % 8))) V.non)]))) ++ ((List.map V.int ((cutL ((List.map (fun i : Nat => ((i : Int) % heaps)) (List.range (Int.toNat n)))) (some (((cell % n) + 1))) none)))))) : HO)), (l_18, (.lst (List.map V.int ((cutL ((List.map (fun i : Nat => ((i : Int) % heaps)) (List.range (Int.toNat n)))) (some (((cell % n) + 1))) none))) : HO)), (l_16, (.lst ((((List.map V.int ((cutL ((List.map (fun i : Nat => ((i : Int) % heaps)) (List.range (Int.toNat n)))) none (some ((cell % n))))))) ++ ([(List.getD ([(V.int heaps), (V.int ((heaps + (cell % 1000000000)))), (V.int ((-1))), (V.int (((-1) - (cell % 1000000000)))), (V.bl true), (V.bl false), V.non, (V.str ("0"))]) (Int.toNat (((cell / 60) % 8))) V.non)]))) : HO)), (l_14, (.lst ([(List.getD ([(V.int heaps), (V.int ((heaps + (cell % 1000000000)))), (V.int ((-1))), (V.int (((-1) - (cell % 1000000000)))), (V.bl true), (V.bl false), V.non, (V.str ("0"))]) (Int.toNat (((cell / 60) % 8))) V.non)]) : HO)), (l_12, (.lst (List.map V.int ((cutL ((List.map (fun i : Nat => ((i : Int) % heaps)) (List.range (Int.toNat n)))) none (some ((cell % n)))))) : HO)), (D_1, (.lst (List.map V.int ((List.map (fun i : Nat => ((i : Int) % heaps)) (List.range (Int.toNat n))))) : HO))] := fr.new nl_23
    refine ⟨_, _, _, _, rfl, rfl, (Fr.atk fr 6 rfl), fr.at0, ?_, fun l_24 nl_25 => ?_⟩
    · walk_at "size"
    have fr : Fr H _ [(l_24, (.lst (List.map V.int ((((List.map (fun i : Nat => ((i : Int) % heaps)) (List.range (Int.toNat n)))) ++ ([0])))) : HO)), (l_22, (.lst (List.map V.int ([0])) : HO)), (l_20, (.lst ((((((List.map V.int ((cutL ((List.map (fun i : Nat => ((i : Int) % heaps)) (List.range (Int.toNat n)))) none (some ((cell % n))))))) ++ ([(List.getD ([(V.int heaps), (V.int ((heaps + (cell % 1000000000)))), (V.int ((-1))), (V.int (((-1) - (cell % 1000000000)))), (V.bl true), (V.bl false), V.non, (V.str ("0"))]) (Int.toNat (((cell / 60) % 8))) V.non)]))) ++ ((List.map V.int ((cutL ((List.map (fun i : Nat => ((i : Int) % heaps)) (List.range (Int.toNat n)))) (some (((cell % n) + 1))) none)))))) : HO)), (l_18, (.lst (List.map V.int ((cutL ((List.map (fun i : Nat => ((i : Int) % heaps)) (List.range (Int.toNat n)))) (some (((cell % n) + 1))) none))) : HO)), (l_16, (.lst ((((List.map V.int ((cutL ((List.map (fun i : Nat => ((i : Int) % heaps)) (List.range (Int.toNat n)))) none (some ((cell % n))))))) ++ ([(List.getD ([(V.int heaps), (V.int ((heaps + (cell % 1000000000)))), (V.int ((-1))), (V.int (((-1) - (cell % 1000000000)))), (V.bl true), (V.bl false), V.non, (V.str ("0"))]) (Int.toNat (((cell / 60) % 8))) V.non)]))) : HO)), (l_14, (.lst ([(List.getD ([(V.int heaps), (V.int ((heaps + (cell % 1000000000)))), (V.int ((-1))), (V.int (((-1) - (cell % 1000000000)))), (V.bl true), (V.bl false), V.non, (V.str ("0"))]) (Int.toNat (((cell / 60) % 8))) V.non)]) : HO)), (l_12, (.lst (List.map V.int ((cutL ((List.map (fun i : Nat => ((i : Int) % heaps)) (List.range (Int.toNat n)))) none (some ((cell % n)))))) : HO)), (D_1, (.lst (List.map V.int ((List.map (fun i : Nat => ((i : Int) % heaps)) (List.range (Int.toNat n))))) : HO))] := (fr.new nl_25).cast (lst_cat _ _ _)
    refine ⟨_, rfl, _, rfl, _, _, rfl, (SqL.of (Fr.atk fr 7 rfl)), fun l_26 nl_27 => ?_⟩
    have fr : Fr H _ [(l_26, (.lst (List.map V.int ((cutL ((List.map (fun i : Nat => ((i : Int) % heaps)) (List.range (Int.toNat n)))) (some 1) none))) : HO)), (l_24, (.lst (List.map V.int ((((List.map (fun i : Nat => ((i : Int) % heaps)) (List.range (Int.toNat n)))) ++ ([0])))) : HO)), (l_22, (.lst (List.map V.int ([0])) : HO)), (l_20, (.lst ((((((List.map V.int ((cutL ((List.map (fun i : Nat => ((i : Int) % heaps)) (List.range (Int.toNat n)))) none (some ((cell % n))))))) ++ ([(List.getD ([(V.int heaps), (V.int ((heaps + (cell % 1000000000)))), (V.int ((-1))), (V.int (((-1) - (cell % 1000000000)))), (V.bl true), (V.bl false), V.non, (V.str ("0"))]) (Int.toNat (((cell / 60) % 8))) V.non)]))) ++ ((List.map V.int ((cutL ((List.map (fun i : Nat => ((i : Int) % heaps)) (List.range (Int.toNat n)))) (some (((cell % n) + 1))) none)))))) : HO)), (l_18, (.lst (List.map V.int ((cutL ((List.map (fun i : Nat => ((i : Int) % heaps)) (List.range (Int.toNat n)))) (some (((cell % n) + 1))) none))) : HO)), (l_16, (.lst ((((List.map V.int ((cutL ((List.map (fun i : Nat => ((i : Int) % heaps)) (List.range (Int.toNat n)))) none (some ((cell % n))))))) ++ ([(List.getD ([(V.int heaps), (V.int ((heaps + (cell % 1000000000)))), (V.int ((-1))), (V.int (((-1) - (cell % 1000000000)))), (V.bl true), (V.bl false), V.non, (V.str ("0"))]) (Int.toNat (((cell / 60) % 8))) V.non)]))) : HO)), (l_14, (.lst ([(List.getD ([(V.int heaps), (V.int ((heaps + (cell % 1000000000)))), (V.int ((-1))), (V.int (((-1) - (cell % 1000000000)))), (V.bl true), (V.bl false), V.non, (V.str ("0"))]) (Int.toNat (((cell / 60) % 8))) V.non)]) : HO)), (l_12, (.lst (List.map V.int ((cutL ((List.map (fun i : Nat => ((i : Int) % heaps)) (List.range (Int.toNat n)))) none (some ((cell % n)))))) : HO)), (D_1, (.lst (List.map V.int ((List.map (fun i : Nat => ((i : Int) % heaps)) (List.range (Int.toNat n))))) : HO))] := (fr.new nl_27).cast (lst_cut _ _ _ _)
    refine ⟨_, rfl, (Evl.sz_of (show 1 ≤ 100000 by decide)), fun l_28 nl_29 => ?_⟩
    have fr : Fr H _ [(l_28, (.lst ([(List.getD ([(V.int heaps), (V.int ((heaps + (cell % 1000000000)))), (V.int ((-1))), (V.int (((-1) - (cell % 1000000000)))), (V.bl true), (V.bl false), V.non, (V.str ("0"))]) (Int.toNat (((cell / 60) % 8))) V.non)]) : HO)), (l_26, (.lst (List.map V.int ((cutL ((List.map (fun i : Nat => ((i : Int) % heaps)) (List.range (Int.toNat n)))) (some 1) none))) : HO)), (l_24, (.lst (List.map V.int ((((List.map (fun i : Nat => ((i : Int) % heaps)) (List.range (Int.toNat n)))) ++ ([0])))) : HO)), (l_22, (.lst (List.map V.int ([0])) : HO)), (l_20, (.lst ((((((List.map V.int ((cutL ((List.map (fun i : Nat => ((i : Int) % heaps)) (List.range (Int.toNat n)))) none (some ((cell % n))))))) ++ ([(List.getD ([(V.int heaps), (V.int ((heaps + (cell % 1000000000)))), (V.int ((-1))), (V.int (((-1) - (cell % 1000000000)))), (V.bl true), (V.bl false), V.non, (V.str ("0"))]) (Int.toNat (((cell / 60) % 8))) V.non)]))) ++ ((List.map V.int ((cutL ((List.map (fun i : Nat => ((i : Int) % heaps)) (List.range (Int.toNat n)))) (some (((cell % n) + 1))) none)))))) : HO)), (l_18, (.lst (List.map V.int ((cutL ((List.map (fun i : Nat => ((i : Int) % heaps)) (List.range (Int.toNat n)))) (some (((cell % n) + 1))) none))) : HO)), (l_16, (.lst ((((List.map V.int ((cutL ((List.map (fun i : Nat => ((i : Int) % heaps)) (List.range (Int.toNat n)))) none (some ((cell % n))))))) ++ ([(List.getD ([(V.int heaps), (V.int ((heaps + (cell % 1000000000)))), (V.int ((-1))), (V.int (((-1) - (cell % 1000000000)))), (V.bl true), (V.bl false), V.non, (V.str ("0"))]) (Int.toNat (((cell / 60) % 8))) V.non)]))) : HO)), (l_14, (.lst ([(List.getD ([(V.int heaps), (V.int ((heaps + (cell % 1000000000)))), (V.int ((-1))), (V.int (((-1) - (cell % 1000000000)))), (V.bl true), (V.bl false), V.non, (V.str ("0"))]) (Int.toNat (((cell / 60) % 8))) V.non)]) : HO)), (l_12, (.lst (List.map V.int ((cutL ((List.map (fun i : Nat => ((i : Int) % heaps)) (List.range (Int.toNat n)))) none (some ((cell % n)))))) : HO)), (D_1, (.lst (List.map V.int ((List.map (fun i : Nat => ((i : Int) % heaps)) (List.range (Int.toNat n))))) : HO))] := fr.new nl_29
    refine ⟨_, rfl, _, rfl, _, _, rfl, (SqL.of (Fr.atk fr 9 rfl)), fun l_30 nl_31 => ?_⟩
    have fr : Fr H _ [(l_30, (.lst (List.map V.int ((cutL ((List.map (fun i : Nat => ((i : Int) % heaps)) (List.range (Int.toNat n)))) (some 1) none))) : HO)), (l_28, (.lst ([(List.getD ([(V.int heaps), (V.int ((heaps + (cell % 1000000000)))), (V.int ((-1))), (V.int (((-1) - (cell % 1000000000)))), (V.bl true), (V.bl false), V.non, (V.str ("0"))]) (Int.toNat (((cell / 60) % 8))) V.non)]) : HO)), (l_26, (.lst (List.map V.int ((cutL ((List.map (fun i : Nat => ((i : Int) % heaps)) (List.range (Int.toNat n)))) (some 1) none))) : HO)), (l_24, (.lst (List.map V.int ((((List.map (fun i : Nat => ((i : Int) % heaps)) (List.range (Int.toNat n)))) ++ ([0])))) : HO)), (l_22, (.lst (List.map V.int ([0])) : HO)), (l_20, (.lst ((((((List.map V.int ((cutL ((List.map (fun i : Nat => ((i : Int) % heaps)) (List.range (Int.toNat n)))) none (some ((cell % n))))))) ++ ([(List.getD ([(V.int heaps), (V.int ((heaps + (cell % 1000000000)))), (V.int ((-1))), (V.int (((-1) - (cell % 1000000000)))), (V.bl true), (V.bl false), V.non, (V.str ("0"))]) (Int.toNat (((cell / 60) % 8))) V.non)]))) ++ ((List.map V.int ((cutL ((List.map (fun i : Nat => ((i : Int) % heaps)) (List.range (Int.toNat n)))) (some (((cell % n) + 1))) none)))))) : HO)), (l_18, (.lst (List.map V.int ((cutL ((List.map (fun i : Nat => ((i : Int) % heaps)) (List.range (Int.toNat n)))) (some (((cell % n) + 1))) none))) : HO)), (l_16, (.lst ((((List.map V.int ((cutL ((List.map (fun i : Nat => ((i : Int) % heaps)) (List.range (Int.toNat n)))) none (some ((cell % n))))))) ++ ([(List.getD ([(V.int heaps), (V.int ((heaps + (cell % 1000000000)))), (V.int ((-1))), (V.int (((-1) - (cell % 1000000000)))), (V.bl true), (V.bl false), V.non, (V.str ("0"))]) (Int.toNat (((cell / 60) % 8))) V.non)]))) : HO)), (l_14, (.lst ([(List.getD ([(V.int heaps), (V.int ((heaps + (cell % 1000000000)))), (V.int ((-1))), (V.int (((-1) - (cell % 1000000000)))), (V.bl true), (V.bl false), V.non, (V.str ("0"))]) (Int.toNat (((cell / 60) % 8))) V.non)]) : HO)), (l_12, (.lst (List.map V.int ((cutL ((List.map (fun i : Nat => ((i : Int) % heaps)) (List.range (Int.toNat n)))) none (some ((cell % n)))))) : HO)), (D_1, (.lst (List.map V.int ((List.map (fun i : Nat => ((i : Int) % heaps)) (List.range (Int.toNat n))))) : HO))] := (fr.new nl_31).cast (lst_cut _ _ _ _)
    refine ⟨_, _, _, _, rfl, rfl, fr.at1, fr.at0, ?_, fun l_32 nl_33 => ?_⟩
    · walk_at "size"
    have fr : Fr H _ [(l_32, (.lst ((([(List.getD ([(V.int heaps), (V.int ((heaps + (cell % 1000000000)))), (V.int ((-1))), (V.int (((-1) - (cell % 1000000000)))), (V.bl true), (V.bl false), V.non, (V.str ("0"))]) (Int.toNat (((cell / 60) % 8))) V.non)]) ++ ((List.map V.int ((cutL ((List.map (fun i : Nat => ((i : Int) % heaps)) (List.range (Int.toNat n)))) (some 1) none)))))) : HO)), (l_30, (.lst (List.map V.int ((cutL ((List.map (fun i : Nat => ((i : Int) % heaps)) (List.range (Int.toNat n)))) (some 1) none))) : HO)), (l_28, (.lst ([(List.getD ([(V.int heaps), (V.int ((heaps + (cell % 1000000000)))), (V.int ((-1))), (V.int (((-1) - (cell % 1000000000)))), (V.bl true), (V.bl false), V.non, (V.str ("0"))]) (Int.toNat (((cell / 60) % 8))) V.non)]) : HO)), (l_26, (.lst (List.map V.int ((cutL ((List.map (fun i : Nat => ((i : Int) % heaps)) (List.range (Int.toNat n)))) (some 1) none))) : HO)), (l_24, (.lst (List.map V.int ((((List.map (fun i : Nat => ((i : Int) % heaps)) (List.range (Int.toNat n)))) ++ ([0])))) : HO)), (l_22, (.lst (List.map V.int ([0])) : HO)), (l_20, (.lst ((((((List.map V.int ((cutL ((List.map (fun i : Nat => ((i : Int) % heaps)) (List.range (Int.toNat n)))) none (some ((cell % n))))))) ++ ([(List.getD ([(V.int heaps), (V.int ((heaps + (cell % 1000000000)))), (V.int ((-1))), (V.int (((-1) - (cell % 1000000000)))), (V.bl true), (V.bl false), V.non, (V.str ("0"))]) (Int.toNat (((cell / 60) % 8))) V.non)]))) ++ ((List.map V.int ((cutL ((List.map (fun i : Nat => ((i : Int) % heaps)) (List.range (Int.toNat n)))) (some (((cell % n) + 1))) none)))))) : HO)), (l_18, (.lst (List.map V.int ((cutL ((List.map (fun i : Nat => ((i : Int) % heaps)) (List.range (Int.toNat n)))) (some (((cell % n) + 1))) none))) : HO)), (l_16, (.lst ((((List.map V.int ((cutL ((List.map (fun i : Nat => ((i : Int) % heaps)) (List.range (Int.toNat n)))) none (some ((cell % n))))))) ++ ([(List.getD ([(V.int heaps), (V.int ((heaps + (cell % 1000000000)))), (V.int ((-1))), (V.int (((-1) - (cell % 1000000000)))), (V.bl true), (V.bl false), V.non, (V.str ("0"))]) (Int.toNat (((cell / 60) % 8))) V.non)]))) : HO)), (l_14, (.lst ([(List.getD ([(V.int heaps), (V.int ((heaps + (cell % 1000000000)))), (V.int ((-1))), (V.int (((-1) - (cell % 1000000000)))), (V.bl true), (V.bl false), V.non, (V.str ("0"))]) (Int.toNat (((cell / 60) % 8))) V.non)]) : HO)), (l_12, (.lst (List.map V.int ((cutL ((List.map (fun i : Nat => ((i : Int) % heaps)) (List.range (Int.toNat n)))) none (some ((cell % n)))))) : HO)), (D_1, (.lst (List.map V.int ((List.map (fun i : Nat => ((i : Int) % heaps)) (List.range (Int.toNat n))))) : HO))] := (fr.new nl_33)
    refine ⟨(Evl.sz_of (show 4 ≤ 100000 by decide)), fun l_34 nl_35 => ?_⟩
    have fr : Fr H _ [(l_34, (.lst [V.ref l_20, V.ref l_24, V.ref l_26, V.ref l_32] : HO)), (l_32, (.lst ((([(List.getD ([(V.int heaps), (V.int ((heaps + (cell % 1000000000)))), (V.int ((-1))), (V.int (((-1) - (cell % 1000000000)))), (V.bl true), (V.bl false), V.non, (V.str ("0"))]) (Int.toNat (((cell / 60) % 8))) V.non)]) ++ ((List.map V.int ((cutL ((List.map (fun i : Nat => ((i : Int) % heaps)) (List.range (Int.toNat n)))) (some 1) none)))))) : HO)), (l_30, (.lst (List.map V.int ((cutL ((List.map (fun i : Nat => ((i : Int) % heaps)) (List.range (Int.toNat n)))) (some 1) none))) : HO)), (l_28, (.lst ([(List.getD ([(V.int heaps), (V.int ((heaps + (cell % 1000000000)))), (V.int ((-1))), (V.int (((-1) - (cell % 1000000000)))), (V.bl true), (V.bl false), V.non, (V.str ("0"))]) (Int.toNat (((cell / 60) % 8))) V.non)]) : HO)), (l_26, (.lst (List.map V.int ((cutL ((List.map (fun i : Nat => ((i : Int) % heaps)) (List.range (Int.toNat n)))) (some 1) none))) : HO)), (l_24, (.lst (List.map V.int ((((List.map (fun i : Nat => ((i : Int) % heaps)) (List.range (Int.toNat n)))) ++ ([0])))) : HO)), (l_22, (.lst (List.map V.int ([0])) : HO)), (l_20, (.lst ((((((List.map V.int ((cutL ((List.map (fun i : Nat => ((i : Int) % heaps)) (List.range (Int.toNat n)))) none (some ((cell % n))))))) ++ ([(List.getD ([(V.int heaps), (V.int ((heaps + (cell % 1000000000)))), (V.int ((-1))), (V.int (((-1) - (cell % 1000000000)))), (V.bl true), (V.bl false), V.non, (V.str ("0"))]) (Int.toNat (((cell / 60) % 8))) V.non)]))) ++ ((List.map V.int ((cutL ((List.map (fun i : Nat => ((i : Int) % heaps)) (List.range (Int.toNat n)))) (some (((cell % n) + 1))) none)))))) : HO)), (l_18, (.lst (List.map V.int ((cutL ((List.map (fun i : Nat => ((i : Int) % heaps)) (List.range (Int.toNat n)))) (some (((cell % n) + 1))) none))) : HO)), (l_16, (.lst ((((List.map V.int ((cutL ((List.map (fun i : Nat => ((i : Int) % heaps)) (List.range (Int.toNat n)))) none (some ((cell % n))))))) ++ ([(List.getD ([(V.int heaps), (V.int ((heaps + (cell % 1000000000)))), (V.int ((-1))), (V.int (((-1) - (cell % 1000000000)))), (V.bl true), (V.bl false), V.non, (V.str ("0"))]) (Int.toNat (((cell / 60) % 8))) V.non)]))) : HO)), (l_14, (.lst ([(List.getD ([(V.int heaps), (V.int ((heaps + (cell % 1000000000)))), (V.int ((-1))), (V.int (((-1) - (cell % 1000000000)))), (V.bl true), (V.bl false), V.non, (V.str ("0"))]) (Int.toNat (((cell / 60) % 8))) V.non)]) : HO)), (l_12, (.lst (List.map V.int ((cutL ((List.map (fun i : Nat => ((i : Int) % heaps)) (List.range (Int.toNat n)))) none (some ((cell % n)))))) : HO)), (D_1, (.lst (List.map V.int ((List.map (fun i : Nat => ((i : Int) % heaps)) (List.range (Int.toNat n))))) : HO))] := fr.new nl_35
    have fr : Fr H _ [(l_20, (.lst ((((((List.map V.int ((cutL ((List.map (fun i : Nat => ((i : Int) % heaps)) (List.range (Int.toNat n)))) none (some ((cell % n))))))) ++ ([(List.getD ([(V.int heaps), (V.int ((heaps + (cell % 1000000000)))), (V.int ((-1))), (V.int (((-1) - (cell % 1000000000)))), (V.bl true), (V.bl false), V.non, (V.str ("0"))]) (Int.toNat (((cell / 60) % 8))) V.non)]))) ++ ((List.map V.int ((cutL ((List.map (fun i : Nat => ((i : Int) % heaps)) (List.range (Int.toNat n)))) (some (((cell % n) + 1))) none)))))) : HO)), (l_34, (.lst [V.ref l_20, V.ref l_24, V.ref l_26, V.ref l_32] : HO)), (l_32, (.lst ((([(List.getD ([(V.int heaps), (V.int ((heaps + (cell % 1000000000)))), (V.int ((-1))), (V.int (((-1) - (cell % 1000000000)))), (V.bl true), (V.bl false), V.non, (V.str ("0"))]) (Int.toNat (((cell / 60) % 8))) V.non)]) ++ ((List.map V.int ((cutL ((List.map (fun i : Nat => ((i : Int) % heaps)) (List.range (Int.toNat n)))) (some 1) none)))))) : HO)), (l_30, (.lst (List.map V.int ((cutL ((List.map (fun i : Nat => ((i : Int) % heaps)) (List.range (Int.toNat n)))) (some 1) none))) : HO)), (l_28, (.lst ([(List.getD ([(V.int heaps), (V.int ((heaps + (cell % 1000000000)))), (V.int ((-1))), (V.int (((-1) - (cell % 1000000000)))), (V.bl true), (V.bl false), V.non, (V.str ("0"))]) (Int.toNat (((cell / 60) % 8))) V.non)]) : HO)), (l_26, (.lst (List.map V.int ((cutL ((List.map (fun i : Nat => ((i : Int) % heaps)) (List.range (Int.toNat n)))) (some 1) none))) : HO)), (l_24, (.lst (List.map V.int ((((List.map (fun i : Nat => ((i : Int) % heaps)) (List.range (Int.toNat n)))) ++ ([0])))) : HO)), (l_22, (.lst (List.map V.int ([0])) : HO)), (l_18, (.lst (List.map V.int ((cutL ((List.map (fun i : Nat => ((i : Int) % heaps)) (List.range (Int.toNat n)))) (some (((cell % n) + 1))) none))) : HO)), (l_16, (.lst ((((List.map V.int ((cutL ((List.map (fun i : Nat => ((i : Int) % heaps)) (List.range (Int.toNat n)))) none (some ((cell % n))))))) ++ ([(List.getD ([(V.int heaps), (V.int ((heaps + (cell % 1000000000)))), (V.int ((-1))), (V.int (((-1) - (cell % 1000000000)))), (V.bl true), (V.bl false), V.non, (V.str ("0"))]) (Int.toNat (((cell / 60) % 8))) V.non)]))) : HO)), (l_14, (.lst ([(List.getD ([(V.int heaps), (V.int ((heaps + (cell % 1000000000)))), (V.int ((-1))), (V.int (((-1) - (cell % 1000000000)))), (V.bl true), (V.bl false), V.non, (V.str ("0"))]) (Int.toNat (((cell / 60) % 8))) V.non)]) : HO)), (l_12, (.lst (List.map V.int ((cutL ((List.map (fun i : Nat => ((i : Int) % heaps)) (List.range (Int.toNat n)))) none (some ((cell % n)))))) : HO)), (D_1, (.lst (List.map V.int ((List.map (fun i : Nat => ((i : Int) % heaps)) (List.range (Int.toNat n))))) : HO))] := Fr.upk fr 7 rfl
    have fr : Fr H _ ([(l_34, (.lst [V.ref l_20, V.ref l_24, V.ref l_26, V.ref l_32] : HO)), (l_32, (.lst ((([(List.getD ([(V.int heaps), (V.int ((heaps + (cell % 1000000000)))), (V.int ((-1))), (V.int (((-1) - (cell % 1000000000)))), (V.bl true), (V.bl false), V.non, (V.str ("0"))]) (Int.toNat (((cell / 60) % 8))) V.non)]) ++ ((List.map V.int ((cutL ((List.map (fun i : Nat => ((i : Int) % heaps)) (List.range (Int.toNat n)))) (some 1) none)))))) : HO)), (l_30, (.lst (List.map V.int ((cutL ((List.map (fun i : Nat => ((i : Int) % heaps)) (List.range (Int.toNat n)))) (some 1) none))) : HO)), (l_28, (.lst ([(List.getD ([(V.int heaps), (V.int ((heaps + (cell % 1000000000)))), (V.int ((-1))), (V.int (((-1) - (cell % 1000000000)))), (V.bl true), (V.bl false), V.non, (V.str ("0"))]) (Int.toNat (((cell / 60) % 8))) V.non)]) : HO)), (l_26, (.lst (List.map V.int ((cutL ((List.map (fun i : Nat => ((i : Int) % heaps)) (List.range (Int.toNat n)))) (some 1) none))) : HO)), (l_24, (.lst (List.map V.int ((((List.map (fun i : Nat => ((i : Int) % heaps)) (List.range (Int.toNat n)))) ++ ([0])))) : HO)), (l_22, (.lst (List.map V.int ([0])) : HO)), (l_18, (.lst (List.map V.int ((cutL ((List.map (fun i : Nat => ((i : Int) % heaps)) (List.range (Int.toNat n)))) (some (((cell % n) + 1))) none))) : HO)), (l_16, (.lst ((((List.map V.int ((cutL ((List.map (fun i : Nat => ((i : Int) % heaps)) (List.range (Int.toNat n)))) none (some ((cell % n))))))) ++ ([(List.getD ([(V.int heaps), (V.int ((heaps + (cell % 1000000000)))), (V.int ((-1))), (V.int (((-1) - (cell % 1000000000)))), (V.bl true), (V.bl false), V.non, (V.str ("0"))]) (Int.toNat (((cell / 60) % 8))) V.non)]))) : HO)), (l_14, (.lst ([(List.getD ([(V.int heaps), (V.int ((heaps + (cell % 1000000000)))), (V.int ((-1))), (V.int (((-1) - (cell % 1000000000)))), (V.bl true), (V.bl false), V.non, (V.str ("0"))]) (Int.toNat (((cell / 60) % 8))) V.non)]) : HO)), (l_12, (.lst (List.map V.int ((cutL ((List.map (fun i : Nat => ((i : Int) % heaps)) (List.range (Int.toNat n)))) none (some ((cell % n)))))) : HO)), (D_1, (.lst (List.map V.int ((List.map (fun i : Nat => ((i : Int) % heaps)) (List.range (Int.toNat n))))) : HO))] ++ List.flatten [rosOwn gV (([(l_20, (((((List.map V.int ((cutL ((List.map (fun i : Nat => ((i : Int) % heaps)) (List.range (Int.toNat n)))) none (some ((cell % n))))))) ++ ([(List.getD ([(V.int heaps), (V.int ((heaps + (cell % 1000000000)))), (V.int ((-1))), (V.int (((-1) - (cell % 1000000000)))), (V.bl true), (V.bl false), V.non, (V.str ("0"))]) (Int.toNat (((cell / 60) % 8))) V.non)]))) ++ ((List.map V.int ((cutL ((List.map (fun i : Nat => ((i : Int) % heaps)) (List.range (Int.toNat n)))) (some (((cell % n) + 1))) none))))))] : List (RO (List V))))]) := Fr.rnew (g := gV) (pre := [(l_34, (.lst [V.ref l_20, V.ref l_24, V.ref l_26, V.ref l_32] : HO)), (l_32, (.lst ((([(List.getD ([(V.int heaps), (V.int ((heaps + (cell % 1000000000)))), (V.int ((-1))), (V.int (((-1) - (cell % 1000000000)))), (V.bl true), (V.bl false), V.non, (V.str ("0"))]) (Int.toNat (((cell / 60) % 8))) V.non)]) ++ ((List.map V.int ((cutL ((List.map (fun i : Nat => ((i : Int) % heaps)) (List.range (Int.toNat n)))) (some 1) none)))))) : HO)), (l_30, (.lst (List.map V.int ((cutL ((List.map (fun i : Nat => ((i : Int) % heaps)) (List.range (Int.toNat n)))) (some 1) none))) : HO)), (l_28, (.lst ([(List.getD ([(V.int heaps), (V.int ((heaps + (cell % 1000000000)))), (V.int ((-1))), (V.int (((-1) - (cell % 1000000000)))), (V.bl true), (V.bl false), V.non, (V.str ("0"))]) (Int.toNat (((cell / 60) % 8))) V.non)]) : HO)), (l_26, (.lst (List.map V.int ((cutL ((List.map (fun i : Nat => ((i : Int) % heaps)) (List.range (Int.toNat n)))) (some 1) none))) : HO)), (l_24, (.lst (List.map V.int ((((List.map (fun i : Nat => ((i : Int) % heaps)) (List.range (Int.toNat n)))) ++ ([0])))) : HO)), (l_22, (.lst (List.map V.int ([0])) : HO)), (l_18, (.lst (List.map V.int ((cutL ((List.map (fun i : Nat => ((i : Int) % heaps)) (List.range (Int.toNat n)))) (some (((cell % n) + 1))) none))) : HO)), (l_16, (.lst ((((List.map V.int ((cutL ((List.map (fun i : Nat => ((i : Int) % heaps)) (List.range (Int.toNat n)))) none (some ((cell % n))))))) ++ ([(List.getD ([(V.int heaps), (V.int ((heaps + (cell % 1000000000)))), (V.int ((-1))), (V.int (((-1) - (cell % 1000000000)))), (V.bl true), (V.bl false), V.non, (V.str ("0"))]) (Int.toNat (((cell / 60) % 8))) V.non)]))) : HO)), (l_14, (.lst ([(List.getD ([(V.int heaps), (V.int ((heaps + (cell % 1000000000)))), (V.int ((-1))), (V.int (((-1) - (cell % 1000000000)))), (V.bl true), (V.bl false), V.non, (V.str ("0"))]) (Int.toNat (((cell / 60) % 8))) V.non)]) : HO)), (l_12, (.lst (List.map V.int ((cutL ((List.map (fun i : Nat => ((i : Int) % heaps)) (List.range (Int.toNat n)))) none (some ((cell % n)))))) : HO)), (D_1, (.lst (List.map V.int ((List.map (fun i : Nat => ((i : Int) % heaps)) (List.range (Int.toNat n))))) : HO))]) (ts := []) (x := (((((List.map V.int ((cutL ((List.map (fun i : Nat => ((i : Int) % heaps)) (List.range (Int.toNat n)))) none (some ((cell % n))))))) ++ ([(List.getD ([(V.int heaps), (V.int ((heaps + (cell % 1000000000)))), (V.int ((-1))), (V.int (((-1) - (cell % 1000000000)))), (V.bl true), (V.bl false), V.non, (V.str ("0"))]) (Int.toNat (((cell / 60) % 8))) V.non)]))) ++ ((List.map V.int ((cutL ((List.map (fun i : Nat => ((i : Int) % heaps)) (List.range (Int.toNat n)))) (some (((cell % n) + 1))) none)))))) fr
    have fr : Fr H _ ([(l_34, (.lst [V.ref l_20, V.ref l_24, V.ref l_26, V.ref l_32] : HO)), (l_32, (.lst ((([(List.getD ([(V.int heaps), (V.int ((heaps + (cell % 1000000000)))), (V.int ((-1))), (V.int (((-1) - (cell % 1000000000)))), (V.bl true), (V.bl false), V.non, (V.str ("0"))]) (Int.toNat (((cell / 60) % 8))) V.non)]) ++ ((List.map V.int ((cutL ((List.map (fun i : Nat => ((i : Int) % heaps)) (List.range (Int.toNat n)))) (some 1) none)))))) : HO)), (l_30, (.lst (List.map V.int ((cutL ((List.map (fun i : Nat => ((i : Int) % heaps)) (List.range (Int.toNat n)))) (some 1) none))) : HO)), (l_28, (.lst ([(List.getD ([(V.int heaps), (V.int ((heaps + (cell % 1000000000)))), (V.int ((-1))), (V.int (((-1) - (cell % 1000000000)))), (V.bl true), (V.bl false), V.non, (V.str ("0"))]) (Int.toNat (((cell / 60) % 8))) V.non)]) : HO)), (l_26, (.lst (List.map V.int ((cutL ((List.map (fun i : Nat => ((i : Int) % heaps)) (List.range (Int.toNat n)))) (some 1) none))) : HO)), (l_24, (.lst ((List.map V.int ((((List.map (fun i : Nat => ((i : Int) % heaps)) (List.range (Int.toNat n)))) ++ ([0]))))) : HO)), (l_22, (.lst (List.map V.int ([0])) : HO)), (l_18, (.lst (List.map V.int ((cutL ((List.map (fun i : Nat => ((i : Int) % heaps)) (List.range (Int.toNat n)))) (some (((cell % n) + 1))) none))) : HO)), (l_16, (.lst ((((List.map V.int ((cutL ((List.map (fun i : Nat => ((i : Int) % heaps)) (List.range (Int.toNat n)))) none (some ((cell % n))))))) ++ ([(List.getD ([(V.int heaps), (V.int ((heaps + (cell % 1000000000)))), (V.int ((-1))), (V.int (((-1) - (cell % 1000000000)))), (V.bl true), (V.bl false), V.non, (V.str ("0"))]) (Int.toNat (((cell / 60) % 8))) V.non)]))) : HO)), (l_14, (.lst ([(List.getD ([(V.int heaps), (V.int ((heaps + (cell % 1000000000)))), (V.int ((-1))), (V.int (((-1) - (cell % 1000000000)))), (V.bl true), (V.bl false), V.non, (V.str ("0"))]) (Int.toNat (((cell / 60) % 8))) V.non)]) : HO)), (l_12, (.lst (List.map V.int ((cutL ((List.map (fun i : Nat => ((i : Int) % heaps)) (List.range (Int.toNat n)))) none (some ((cell % n)))))) : HO)), (D_1, (.lst (List.map V.int ((List.map (fun i : Nat => ((i : Int) % heaps)) (List.range (Int.toNat n))))) : HO))] ++ List.flatten [rosOwn gV (([(l_20, (((((List.map V.int ((cutL ((List.map (fun i : Nat => ((i : Int) % heaps)) (List.range (Int.toNat n)))) none (some ((cell % n))))))) ++ ([(List.getD ([(V.int heaps), (V.int ((heaps + (cell % 1000000000)))), (V.int ((-1))), (V.int (((-1) - (cell % 1000000000)))), (V.bl true), (V.bl false), V.non, (V.str ("0"))]) (Int.toNat (((cell / 60) % 8))) V.non)]))) ++ ((List.map V.int ((cutL ((List.map (fun i : Nat => ((i : Int) % heaps)) (List.range (Int.toNat n)))) (some (((cell % n) + 1))) none))))))] : List (RO (List V))))]) := fr
    have fr : Fr H _ ([(l_24, (.lst ((List.map V.int ((((List.map (fun i : Nat => ((i : Int) % heaps)) (List.range (Int.toNat n)))) ++ ([0]))))) : HO)), (l_34, (.lst [V.ref l_20, V.ref l_24, V.ref l_26, V.ref l_32] : HO)), (l_32, (.lst ((([(List.getD ([(V.int heaps), (V.int ((heaps + (cell % 1000000000)))), (V.int ((-1))), (V.int (((-1) - (cell % 1000000000)))), (V.bl true), (V.bl false), V.non, (V.str ("0"))]) (Int.toNat (((cell / 60) % 8))) V.non)]) ++ ((List.map V.int ((cutL ((List.map (fun i : Nat => ((i : Int) % heaps)) (List.range (Int.toNat n)))) (some 1) none)))))) : HO)), (l_30, (.lst (List.map V.int ((cutL ((List.map (fun i : Nat => ((i : Int) % heaps)) (List.range (Int.toNat n)))) (some 1) none))) : HO)), (l_28, (.lst ([(List.getD ([(V.int heaps), (V.int ((heaps + (cell % 1000000000)))), (V.int ((-1))), (V.int (((-1) - (cell % 1000000000)))), (V.bl true), (V.bl false), V.non, (V.str ("0"))]) (Int.toNat (((cell / 60) % 8))) V.non)]) : HO)), (l_26, (.lst (List.map V.int ((cutL ((List.map (fun i : Nat => ((i : Int) % heaps)) (List.range (Int.toNat n)))) (some 1) none))) : HO)), (l_22, (.lst (List.map V.int ([0])) : HO)), (l_18, (.lst (List.map V.int ((cutL ((List.map (fun i : Nat => ((i : Int) % heaps)) (List.range (Int.toNat n)))) (some (((cell % n) + 1))) none))) : HO)), (l_16, (.lst ((((List.map V.int ((cutL ((List.map (fun i : Nat => ((i : Int) % heaps)) (List.range (Int.toNat n)))) none (some ((cell % n))))))) ++ ([(List.getD ([(V.int heaps), (V.int ((heaps + (cell % 1000000000)))), (V.int ((-1))), (V.int (((-1) - (cell % 1000000000)))), (V.bl true), (V.bl false), V.non, (V.str ("0"))]) (Int.toNat (((cell / 60) % 8))) V.non)]))) : HO)), (l_14, (.lst ([(List.getD ([(V.int heaps), (V.int ((heaps + (cell % 1000000000)))), (V.int ((-1))), (V.int (((-1) - (cell % 1000000000)))), (V.bl true), (V.bl false), V.non, (V.str ("0"))]) (Int.toNat (((cell / 60) % 8))) V.non)]) : HO)), (l_12, (.lst (List.map V.int ((cutL ((List.map (fun i : Nat => ((i : Int) % heaps)) (List.range (Int.toNat n)))) none (some ((cell % n)))))) : HO)), (D_1, (.lst (List.map V.int ((List.map (fun i : Nat => ((i : Int) % heaps)) (List.range (Int.toNat n))))) : HO))] ++ List.flatten [rosOwn gV (([(l_20, (((((List.map V.int ((cutL ((List.map (fun i : Nat => ((i : Int) % heaps)) (List.range (Int.toNat n)))) none (some ((cell % n))))))) ++ ([(List.getD ([(V.int heaps), (V.int ((heaps + (cell % 1000000000)))), (V.int ((-1))), (V.int (((-1) - (cell % 1000000000)))), (V.bl true), (V.bl false), V.non, (V.str ("0"))]) (Int.toNat (((cell / 60) % 8))) V.non)]))) ++ ((List.map V.int ((cutL ((List.map (fun i : Nat => ((i : Int) % heaps)) (List.range (Int.toNat n)))) (some (((cell % n) + 1))) none))))))] : List (RO (List V))))]) := Fr.upk fr 5 rfl
    have fr : Fr H _ ([(l_34, (.lst [V.ref l_20, V.ref l_24, V.ref l_26, V.ref l_32] : HO)), (l_32, (.lst ((([(List.getD ([(V.int heaps), (V.int ((heaps + (cell % 1000000000)))), (V.int ((-1))), (V.int (((-1) - (cell % 1000000000)))), (V.bl true), (V.bl false), V.non, (V.str ("0"))]) (Int.toNat (((cell / 60) % 8))) V.non)]) ++ ((List.map V.int ((cutL ((List.map (fun i : Nat => ((i : Int) % heaps)) (List.range (Int.toNat n)))) (some 1) none)))))) : HO)), (l_30, (.lst (List.map V.int ((cutL ((List.map (fun i : Nat => ((i : Int) % heaps)) (List.range (Int.toNat n)))) (some 1) none))) : HO)), (l_28, (.lst ([(List.getD ([(V.int heaps), (V.int ((heaps + (cell % 1000000000)))), (V.int ((-1))), (V.int (((-1) - (cell % 1000000000)))), (V.bl true), (V.bl false), V.non, (V.str ("0"))]) (Int.toNat (((cell / 60) % 8))) V.non)]) : HO)), (l_26, (.lst (List.map V.int ((cutL ((List.map (fun i : Nat => ((i : Int) % heaps)) (List.range (Int.toNat n)))) (some 1) none))) : HO)), (l_22, (.lst (List.map V.int ([0])) : HO)), (l_18, (.lst (List.map V.int ((cutL ((List.map (fun i : Nat => ((i : Int) % heaps)) (List.range (Int.toNat n)))) (some (((cell % n) + 1))) none))) : HO)), (l_16, (.lst ((((List.map V.int ((cutL ((List.map (fun i : Nat => ((i : Int) % heaps)) (List.range (Int.toNat n)))) none (some ((cell % n))))))) ++ ([(List.getD ([(V.int heaps), (V.int ((heaps + (cell % 1000000000)))), (V.int ((-1))), (V.int (((-1) - (cell % 1000000000)))), (V.bl true), (V.bl false), V.non, (V.str ("0"))]) (Int.toNat (((cell / 60) % 8))) V.non)]))) : HO)), (l_14, (.lst ([(List.getD ([(V.int heaps), (V.int ((heaps + (cell % 1000000000)))), (V.int ((-1))), (V.int (((-1) - (cell % 1000000000)))), (V.bl true), (V.bl false), V.non, (V.str ("0"))]) (Int.toNat (((cell / 60) % 8))) V.non)]) : HO)), (l_12, (.lst (List.map V.int ((cutL ((List.map (fun i : Nat => ((i : Int) % heaps)) (List.range (Int.toNat n)))) none (some ((cell % n)))))) : HO)), (D_1, (.lst (List.map V.int ((List.map (fun i : Nat => ((i : Int) % heaps)) (List.range (Int.toNat n))))) : HO))] ++ List.flatten [rosOwn gV (([(l_20, (((((List.map V.int ((cutL ((List.map (fun i : Nat => ((i : Int) % heaps)) (List.range (Int.toNat n)))) none (some ((cell % n))))))) ++ ([(List.getD ([(V.int heaps), (V.int ((heaps + (cell % 1000000000)))), (V.int ((-1))), (V.int (((-1) - (cell % 1000000000)))), (V.bl true), (V.bl false), V.non, (V.str ("0"))]) (Int.toNat (((cell / 60) % 8))) V.non)]))) ++ ((List.map V.int ((cutL ((List.map (fun i : Nat => ((i : Int) % heaps)) (List.range (Int.toNat n)))) (some (((cell % n) + 1))) none)))))), (l_24, (List.map V.int ((((List.map (fun i : Nat => ((i : Int) % heaps)) (List.range (Int.toNat n)))) ++ ([0])))))] : List (RO (List V))))]) := Fr.radd (g := gV) (pre := [(l_34, (.lst [V.ref l_20, V.ref l_24, V.ref l_26, V.ref l_32] : HO)), (l_32, (.lst ((([(List.getD ([(V.int heaps), (V.int ((heaps + (cell % 1000000000)))), (V.int ((-1))), (V.int (((-1) - (cell % 1000000000)))), (V.bl true), (V.bl false), V.non, (V.str ("0"))]) (Int.toNat (((cell / 60) % 8))) V.non)]) ++ ((List.map V.int ((cutL ((List.map (fun i : Nat => ((i : Int) % heaps)) (List.range (Int.toNat n)))) (some 1) none)))))) : HO)), (l_30, (.lst (List.map V.int ((cutL ((List.map (fun i : Nat => ((i : Int) % heaps)) (List.range (Int.toNat n)))) (some 1) none))) : HO)), (l_28, (.lst ([(List.getD ([(V.int heaps), (V.int ((heaps + (cell % 1000000000)))), (V.int ((-1))), (V.int (((-1) - (cell % 1000000000)))), (V.bl true), (V.bl false), V.non, (V.str ("0"))]) (Int.toNat (((cell / 60) % 8))) V.non)]) : HO)), (l_26, (.lst (List.map V.int ((cutL ((List.map (fun i : Nat => ((i : Int) % heaps)) (List.range (Int.toNat n)))) (some 1) none))) : HO)), (l_22, (.lst (List.map V.int ([0])) : HO)), (l_18, (.lst (List.map V.int ((cutL ((List.map (fun i : Nat => ((i : Int) % heaps)) (List.range (Int.toNat n)))) (some (((cell % n) + 1))) none))) : HO)), (l_16, (.lst ((((List.map V.int ((cutL ((List.map (fun i : Nat => ((i : Int) % heaps)) (List.range (Int.toNat n)))) none (some ((cell % n))))))) ++ ([(List.getD ([(V.int heaps), (V.int ((heaps + (cell % 1000000000)))), (V.int ((-1))), (V.int (((-1) - (cell % 1000000000)))), (V.bl true), (V.bl false), V.non, (V.str ("0"))]) (Int.toNat (((cell / 60) % 8))) V.non)]))) : HO)), (l_14, (.lst ([(List.getD ([(V.int heaps), (V.int ((heaps + (cell % 1000000000)))), (V.int ((-1))), (V.int (((-1) - (cell % 1000000000)))), (V.bl true), (V.bl false), V.non, (V.str ("0"))]) (Int.toNat (((cell / 60) % 8))) V.non)]) : HO)), (l_12, (.lst (List.map V.int ((cutL ((List.map (fun i : Nat => ((i : Int) % heaps)) (List.range (Int.toNat n)))) none (some ((cell % n)))))) : HO)), (D_1, (.lst (List.map V.int ((List.map (fun i : Nat => ((i : Int) % heaps)) (List.range (Int.toNat n))))) : HO))]) (ts := []) (rows := ([(l_20, (((((List.map V.int ((cutL ((List.map (fun i : Nat => ((i : Int) % heaps)) (List.range (Int.toNat n)))) none (some ((cell % n))))))) ++ ([(List.getD ([(V.int heaps), (V.int ((heaps + (cell % 1000000000)))), (V.int ((-1))), (V.int (((-1) - (cell % 1000000000)))), (V.bl true), (V.bl false), V.non, (V.str ("0"))]) (Int.toNat (((cell / 60) % 8))) V.non)]))) ++ ((List.map V.int ((cutL ((List.map (fun i : Nat => ((i : Int) % heaps)) (List.range (Int.toNat n)))) (some (((cell % n) + 1))) none))))))] : List (RO (List V)))) (x := (List.map V.int ((((List.map (fun i : Nat => ((i : Int) % heaps)) (List.range (Int.toNat n)))) ++ ([0]))))) fr
    have fr : Fr H _ ([(l_34, (.lst [V.ref l_20, V.ref l_24, V.ref l_26, V.ref l_32] : HO)), (l_32, (.lst ((([(List.getD ([(V.int heaps), (V.int ((heaps + (cell % 1000000000)))), (V.int ((-1))), (V.int (((-1) - (cell % 1000000000)))), (V.bl true), (V.bl false), V.non, (V.str ("0"))]) (Int.toNat (((cell / 60) % 8))) V.non)]) ++ ((List.map V.int ((cutL ((List.map (fun i : Nat => ((i : Int) % heaps)) (List.range (Int.toNat n)))) (some 1) none)))))) : HO)), (l_30, (.lst (List.map V.int ((cutL ((List.map (fun i : Nat => ((i : Int) % heaps)) (List.range (Int.toNat n)))) (some 1) none))) : HO)), (l_28, (.lst ([(List.getD ([(V.int heaps), (V.int ((heaps + (cell % 1000000000)))), (V.int ((-1))), (V.int (((-1) - (cell % 1000000000)))), (V.bl true), (V.bl false), V.non, (V.str ("0"))]) (Int.toNat (((cell / 60) % 8))) V.non)]) : HO)), (l_26, (.lst ((List.map V.int ((cutL ((List.map (fun i : Nat => ((i : Int) % heaps)) (List.range (Int.toNat n)))) (some 1) none)))) : HO)), (l_22, (.lst (List.map V.int ([0])) : HO)), (l_18, (.lst (List.map V.int ((cutL ((List.map (fun i : Nat => ((i : Int) % heaps)) (List.range (Int.toNat n)))) (some (((cell % n) + 1))) none))) : HO)), (l_16, (.lst ((((List.map V.int ((cutL ((List.map (fun i : Nat => ((i : Int) % heaps)) (List.range (Int.toNat n)))) none (some ((cell % n))))))) ++ ([(List.getD ([(V.int heaps), (V.int ((heaps + (cell % 1000000000)))), (V.int ((-1))), (V.int (((-1) - (cell % 1000000000)))), (V.bl true), (V.bl false), V.non, (V.str ("0"))]) (Int.toNat (((cell / 60) % 8))) V.non)]))) : HO)), (l_14, (.lst ([(List.getD ([(V.int heaps), (V.int ((heaps + (cell % 1000000000)))), (V.int ((-1))), (V.int (((-1) - (cell % 1000000000)))), (V.bl true), (V.bl false), V.non, (V.str ("0"))]) (Int.toNat (((cell / 60) % 8))) V.non)]) : HO)), (l_12, (.lst (List.map V.int ((cutL ((List.map (fun i : Nat => ((i : Int) % heaps)) (List.range (Int.toNat n)))) none (some ((cell % n)))))) : HO)), (D_1, (.lst (List.map V.int ((List.map (fun i : Nat => ((i : Int) % heaps)) (List.range (Int.toNat n))))) : HO))] ++ List.flatten [rosOwn gV (([(l_20, (((((List.map V.int ((cutL ((List.map (fun i : Nat => ((i : Int) % heaps)) (List.range (Int.toNat n)))) none (some ((cell % n))))))) ++ ([(List.getD ([(V.int heaps), (V.int ((heaps + (cell % 1000000000)))), (V.int ((-1))), (V.int (((-1) - (cell % 1000000000)))), (V.bl true), (V.bl false), V.non, (V.str ("0"))]) (Int.toNat (((cell / 60) % 8))) V.non)]))) ++ ((List.map V.int ((cutL ((List.map (fun i : Nat => ((i : Int) % heaps)) (List.range (Int.toNat n)))) (some (((cell % n) + 1))) none)))))), (l_24, (List.map V.int ((((List.map (fun i : Nat => ((i : Int) % heaps)) (List.range (Int.toNat n)))) ++ ([0])))))] : List (RO (List V))))]) := fr
    have fr : Fr H _ ([(l_26, (.lst ((List.map V.int ((cutL ((List.map (fun i : Nat => ((i : Int) % heaps)) (List.range (Int.toNat n)))) (some 1) none)))) : HO)), (l_34, (.lst [V.ref l_20, V.ref l_24, V.ref l_26, V.ref l_32] : HO)), (l_32, (.lst ((([(List.getD ([(V.int heaps), (V.int ((heaps + (cell % 1000000000)))), (V.int ((-1))), (V.int (((-1) - (cell % 1000000000)))), (V.bl true), (V.bl false), V.non, (V.str ("0"))]) (Int.toNat (((cell / 60) % 8))) V.non)]) ++ ((List.map V.int ((cutL ((List.map (fun i : Nat => ((i : Int) % heaps)) (List.range (Int.toNat n)))) (some 1) none)))))) : HO)), (l_30, (.lst (List.map V.int ((cutL ((List.map (fun i : Nat => ((i : Int) % heaps)) (List.range (Int.toNat n)))) (some 1) none))) : HO)), (l_28, (.lst ([(List.getD ([(V.int heaps), (V.int ((heaps + (cell % 1000000000)))), (V.int ((-1))), (V.int (((-1) - (cell % 1000000000)))), (V.bl true), (V.bl false), V.non, (V.str ("0"))]) (Int.toNat (((cell / 60) % 8))) V.non)]) : HO)), (l_22, (.lst (List.map V.int ([0])) : HO)), (l_18, (.lst (List.map V.int ((cutL ((List.map (fun i : Nat => ((i : Int) % heaps)) (List.range (Int.toNat n)))) (some (((cell % n) + 1))) none))) : HO)), (l_16, (.lst ((((List.map V.int ((cutL ((List.map (fun i : Nat => ((i : Int) % heaps)) (List.range (Int.toNat n)))) none (some ((cell % n))))))) ++ ([(List.getD ([(V.int heaps), (V.int ((heaps + (cell % 1000000000)))), (V.int ((-1))), (V.int (((-1) - (cell % 1000000000)))), (V.bl true), (V.bl false), V.non, (V.str ("0"))]) (Int.toNat (((cell / 60) % 8))) V.non)]))) : HO)), (l_14, (.lst ([(List.getD ([(V.int heaps), (V.int ((heaps + (cell % 1000000000)))), (V.int ((-1))), (V.int (((-1) - (cell % 1000000000)))), (V.bl true), (V.bl false), V.non, (V.str ("0"))]) (Int.toNat (((cell / 60) % 8))) V.non)]) : HO)), (l_12, (.lst (List.map V.int ((cutL ((List.map (fun i : Nat => ((i : Int) % heaps)) (List.range (Int.toNat n)))) none (some ((cell % n)))))) : HO)), (D_1, (.lst (List.map V.int ((List.map (fun i : Nat => ((i : Int) % heaps)) (List.range (Int.toNat n))))) : HO))] ++ List.flatten [rosOwn gV (([(l_20, (((((List.map V.int ((cutL ((List.map (fun i : Nat => ((i : Int) % heaps)) (List.range (Int.toNat n)))) none (some ((cell % n))))))) ++ ([(List.getD ([(V.int heaps), (V.int ((heaps + (cell % 1000000000)))), (V.int ((-1))), (V.int (((-1) - (cell % 1000000000)))), (V.bl true), (V.bl false), V.non, (V.str ("0"))]) (Int.toNat (((cell / 60) % 8))) V.non)]))) ++ ((List.map V.int ((cutL ((List.map (fun i : Nat => ((i : Int) % heaps)) (List.range (Int.toNat n)))) (some (((cell % n) + 1))) none)))))), (l_24, (List.map V.int ((((List.map (fun i : Nat => ((i : Int) % heaps)) (List.range (Int.toNat n)))) ++ ([0])))))] : List (RO (List V))))]) := Fr.upk fr 4 rfl
    have fr : Fr H _ ([(l_34, (.lst [V.ref l_20, V.ref l_24, V.ref l_26, V.ref l_32] : HO)), (l_32, (.lst ((([(List.getD ([(V.int heaps), (V.int ((heaps + (cell % 1000000000)))), (V.int ((-1))), (V.int (((-1) - (cell % 1000000000)))), (V.bl true), (V.bl false), V.non, (V.str ("0"))]) (Int.toNat (((cell / 60) % 8))) V.non)]) ++ ((List.map V.int ((cutL ((List.map (fun i : Nat => ((i : Int) % heaps)) (List.range (Int.toNat n)))) (some 1) none)))))) : HO)), (l_30, (.lst (List.map V.int ((cutL ((List.map (fun i : Nat => ((i : Int) % heaps)) (List.range (Int.toNat n)))) (some 1) none))) : HO)), (l_28, (.lst ([(List.getD ([(V.int heaps), (V.int ((heaps + (cell % 1000000000)))), (V.int ((-1))), (V.int (((-1) - (cell % 1000000000)))), (V.bl true), (V.bl false), V.non, (V.str ("0"))]) (Int.toNat (((cell / 60) % 8))) V.non)]) : HO)), (l_22, (.lst (List.map V.int ([0])) : HO)), (l_18, (.lst (List.map V.int ((cutL ((List.map (fun i : Nat => ((i : Int) % heaps)) (List.range (Int.toNat n)))) (some (((cell % n) + 1))) none))) : HO)), (l_16, (.lst ((((List.map V.int ((cutL ((List.map (fun i : Nat => ((i : Int) % heaps)) (List.range (Int.toNat n)))) none (some ((cell % n))))))) ++ ([(List.getD ([(V.int heaps), (V.int ((heaps + (cell % 1000000000)))), (V.int ((-1))), (V.int (((-1) - (cell % 1000000000)))), (V.bl true), (V.bl false), V.non, (V.str ("0"))]) (Int.toNat (((cell / 60) % 8))) V.non)]))) : HO)), (l_14, (.lst ([(List.getD ([(V.int heaps), (V.int ((heaps + (cell % 1000000000)))), (V.int ((-1))), (V.int (((-1) - (cell % 1000000000)))), (V.bl true), (V.bl false), V.non, (V.str ("0"))]) (Int.toNat (((cell / 60) % 8))) V.non)]) : HO)), (l_12, (.lst (List.map V.int ((cutL ((List.map (fun i : Nat => ((i : Int) % heaps)) (List.range (Int.toNat n)))) none (some ((cell % n)))))) : HO)), (D_1, (.lst (List.map V.int ((List.map (fun i : Nat => ((i : Int) % heaps)) (List.range (Int.toNat n))))) : HO))] ++ List.flatten [rosOwn gV (([(l_20, (((((List.map V.int ((cutL ((List.map (fun i : Nat => ((i : Int) % heaps)) (List.range (Int.toNat n)))) none (some ((cell % n))))))) ++ ([(List.getD ([(V.int heaps), (V.int ((heaps + (cell % 1000000000)))), (V.int ((-1))), (V.int (((-1) - (cell % 1000000000)))), (V.bl true), (V.bl false), V.non, (V.str ("0"))]) (Int.toNat (((cell / 60) % 8))) V.non)]))) ++ ((List.map V.int ((cutL ((List.map (fun i : Nat => ((i : Int) % heaps)) (List.range (Int.toNat n)))) (some (((cell % n) + 1))) none)))))), (l_24, (List.map V.int ((((List.map (fun i : Nat => ((i : Int) % heaps)) (List.range (Int.toNat n)))) ++ ([0]))))), (l_26, (List.map V.int ((cutL ((List.map (fun i : Nat => ((i : Int) % heaps)) (List.range (Int.toNat n)))) (some 1) none))))] : List (RO (List V))))]) := Fr.radd (g := gV) (pre := [(l_34, (.lst [V.ref l_20, V.ref l_24, V.ref l_26, V.ref l_32] : HO)), (l_32, (.lst ((([(List.getD ([(V.int heaps), (V.int ((heaps + (cell % 1000000000)))), (V.int ((-1))), (V.int (((-1) - (cell % 1000000000)))), (V.bl true), (V.bl false), V.non, (V.str ("0"))]) (Int.toNat (((cell / 60) % 8))) V.non)]) ++ ((List.map V.int ((cutL ((List.map (fun i : Nat => ((i : Int) % heaps)) (List.range (Int.toNat n)))) (some 1) none)))))) : HO)), (l_30, (.lst (List.map V.int ((cutL ((List.map (fun i : Nat => ((i : Int) % heaps)) (List.range (Int.toNat n)))) (some 1) none))) : HO)), (l_28, (.lst ([(List.getD ([(V.int heaps), (V.int ((heaps + (cell % 1000000000)))), (V.int ((-1))), (V.int (((-1) - (cell % 1000000000)))), (V.bl true), (V.bl false), V.non, (V.str ("0"))]) (Int.toNat (((cell / 60) % 8))) V.non)]) : HO)), (l_22, (.lst (List.map V.int ([0])) : HO)), (l_18, (.lst (List.map V.int ((cutL ((List.map (fun i : Nat => ((i : Int) % heaps)) (List.range (Int.toNat n)))) (some (((cell % n) + 1))) none))) : HO)), (l_16, (.lst ((((List.map V.int ((cutL ((List.map (fun i : Nat => ((i : Int) % heaps)) (List.range (Int.toNat n)))) none (some ((cell % n))))))) ++ ([(List.getD ([(V.int heaps), (V.int ((heaps + (cell % 1000000000)))), (V.int ((-1))), (V.int (((-1) - (cell % 1000000000)))), (V.bl true), (V.bl false), V.non, (V.str ("0"))]) (Int.toNat (((cell / 60) % 8))) V.non)]))) : HO)), (l_14, (.lst ([(List.getD ([(V.int heaps), (V.int ((heaps + (cell % 1000000000)))), (V.int ((-1))), (V.int (((-1) - (cell % 1000000000)))), (V.bl true), (V.bl false), V.non, (V.str ("0"))]) (Int.toNat (((cell / 60) % 8))) V.non)]) : HO)), (l_12, (.lst (List.map V.int ((cutL ((List.map (fun i : Nat => ((i : Int) % heaps)) (List.range (Int.toNat n)))) none (some ((cell % n)))))) : HO)), (D_1, (.lst (List.map V.int ((List.map (fun i : Nat => ((i : Int) % heaps)) (List.range (Int.toNat n))))) : HO))]) (ts := []) (rows := ([(l_20, (((((List.map V.int ((cutL ((List.map (fun i : Nat => ((i : Int) % heaps)) (List.range (Int.toNat n)))) none (some ((cell % n))))))) ++ ([(List.getD ([(V.int heaps), (V.int ((heaps + (cell % 1000000000)))), (V.int ((-1))), (V.int (((-1) - (cell % 1000000000)))), (V.bl true), (V.bl false), V.non, (V.str ("0"))]) (Int.toNat (((cell / 60) % 8))) V.non)]))) ++ ((List.map V.int ((cutL ((List.map (fun i : Nat => ((i : Int) % heaps)) (List.range (Int.toNat n)))) (some (((cell % n) + 1))) none)))))), (l_24, (List.map V.int ((((List.map (fun i : Nat => ((i : Int) % heaps)) (List.range (Int.toNat n)))) ++ ([0])))))] : List (RO (List V)))) (x := (List.map V.int ((cutL ((List.map (fun i : Nat => ((i : Int) % heaps)) (List.range (Int.toNat n)))) (some 1) none)))) fr
    have fr : Fr H _ ([(l_32, (.lst ((([(List.getD ([(V.int heaps), (V.int ((heaps + (cell % 1000000000)))), (V.int ((-1))), (V.int (((-1) - (cell % 1000000000)))), (V.bl true), (V.bl false), V.non, (V.str ("0"))]) (Int.toNat (((cell / 60) % 8))) V.non)]) ++ ((List.map V.int ((cutL ((List.map (fun i : Nat => ((i : Int) % heaps)) (List.range (Int.toNat n)))) (some 1) none)))))) : HO)), (l_34, (.lst [V.ref l_20, V.ref l_24, V.ref l_26, V.ref l_32] : HO)), (l_30, (.lst (List.map V.int ((cutL ((List.map (fun i : Nat => ((i : Int) % heaps)) (List.range (Int.toNat n)))) (some 1) none))) : HO)), (l_28, (.lst ([(List.getD ([(V.int heaps), (V.int ((heaps + (cell % 1000000000)))), (V.int ((-1))), (V.int (((-1) - (cell % 1000000000)))), (V.bl true), (V.bl false), V.non, (V.str ("0"))]) (Int.toNat (((cell / 60) % 8))) V.non)]) : HO)), (l_22, (.lst (List.map V.int ([0])) : HO)), (l_18, (.lst (List.map V.int ((cutL ((List.map (fun i : Nat => ((i : Int) % heaps)) (List.range (Int.toNat n)))) (some (((cell % n) + 1))) none))) : HO)), (l_16, (.lst ((((List.map V.int ((cutL ((List.map (fun i : Nat => ((i : Int) % heaps)) (List.range (Int.toNat n)))) none (some ((cell % n))))))) ++ ([(List.getD ([(V.int heaps), (V.int ((heaps + (cell % 1000000000)))), (V.int ((-1))), (V.int (((-1) - (cell % 1000000000)))), (V.bl true), (V.bl false), V.non, (V.str ("0"))]) (Int.toNat (((cell / 60) % 8))) V.non)]))) : HO)), (l_14, (.lst ([(List.getD ([(V.int heaps), (V.int ((heaps + (cell % 1000000000)))), (V.int ((-1))), (V.int (((-1) - (cell % 1000000000)))), (V.bl true), (V.bl false), V.non, (V.str ("0"))]) (Int.toNat (((cell / 60) % 8))) V.non)]) : HO)), (l_12, (.lst (List.map V.int ((cutL ((List.map (fun i : Nat => ((i : Int) % heaps)) (List.range (Int.toNat n)))) none (some ((cell % n)))))) : HO)), (D_1, (.lst (List.map V.int ((List.map (fun i : Nat => ((i : Int) % heaps)) (List.range (Int.toNat n))))) : HO))] ++ List.flatten [rosOwn gV (([(l_20, (((((List.map V.int ((cutL ((List.map (fun i : Nat => ((i : Int) % heaps)) (List.range (Int.toNat n)))) none (some ((cell % n))))))) ++ ([(List.getD ([(V.int heaps), (V.int ((heaps + (cell % 1000000000)))), (V.int ((-1))), (V.int (((-1) - (cell % 1000000000)))), (V.bl true), (V.bl false), V.non, (V.str ("0"))]) (Int.toNat (((cell / 60) % 8))) V.non)]))) ++ ((List.map V.int ((cutL ((List.map (fun i : Nat => ((i : Int) % heaps)) (List.range (Int.toNat n)))) (some (((cell % n) + 1))) none)))))), (l_24, (List.map V.int ((((List.map (fun i : Nat => ((i : Int) % heaps)) (List.range (Int.toNat n)))) ++ ([0]))))), (l_26, (List.map V.int ((cutL ((List.map (fun i : Nat => ((i : Int) % heaps)) (List.range (Int.toNat n)))) (some 1) none))))] : List (RO (List V))))]) := Fr.upk fr 1 rfl
    have fr : Fr H _ ([(l_34, (.lst [V.ref l_20, V.ref l_24, V.ref l_26, V.ref l_32] : HO)), (l_30, (.lst (List.map V.int ((cutL ((List.map (fun i : Nat => ((i : Int) % heaps)) (List.range (Int.toNat n)))) (some 1) none))) : HO)), (l_28, (.lst ([(List.getD ([(V.int heaps), (V.int ((heaps + (cell % 1000000000)))), (V.int ((-1))), (V.int (((-1) - (cell % 1000000000)))), (V.bl true), (V.bl false), V.non, (V.str ("0"))]) (Int.toNat (((cell / 60) % 8))) V.non)]) : HO)), (l_22, (.lst (List.map V.int ([0])) : HO)), (l_18, (.lst (List.map V.int ((cutL ((List.map (fun i : Nat => ((i : Int) % heaps)) (List.range (Int.toNat n)))) (some (((cell % n) + 1))) none))) : HO)), (l_16, (.lst ((((List.map V.int ((cutL ((List.map (fun i : Nat => ((i : Int) % heaps)) (List.range (Int.toNat n)))) none (some ((cell % n))))))) ++ ([(List.getD ([(V.int heaps), (V.int ((heaps + (cell % 1000000000)))), (V.int ((-1))), (V.int (((-1) - (cell % 1000000000)))), (V.bl true), (V.bl false), V.non, (V.str ("0"))]) (Int.toNat (((cell / 60) % 8))) V.non)]))) : HO)), (l_14, (.lst ([(List.getD ([(V.int heaps), (V.int ((heaps + (cell % 1000000000)))), (V.int ((-1))), (V.int (((-1) - (cell % 1000000000)))), (V.bl true), (V.bl false), V.non, (V.str ("0"))]) (Int.toNat (((cell / 60) % 8))) V.non)]) : HO)), (l_12, (.lst (List.map V.int ((cutL ((List.map (fun i : Nat => ((i : Int) % heaps)) (List.range (Int.toNat n)))) none (some ((cell % n)))))) : HO)), (D_1, (.lst (List.map V.int ((List.map (fun i : Nat => ((i : Int) % heaps)) (List.range (Int.toNat n))))) : HO))] ++ List.flatten [rosOwn gV (([(l_20, (((((List.map V.int ((cutL ((List.map (fun i : Nat => ((i : Int) % heaps)) (List.range (Int.toNat n)))) none (some ((cell % n))))))) ++ ([(List.getD ([(V.int heaps), (V.int ((heaps + (cell % 1000000000)))), (V.int ((-1))), (V.int (((-1) - (cell % 1000000000)))), (V.bl true), (V.bl false), V.non, (V.str ("0"))]) (Int.toNat (((cell / 60) % 8))) V.non)]))) ++ ((List.map V.int ((cutL ((List.map (fun i : Nat => ((i : Int) % heaps)) (List.range (Int.toNat n)))) (some (((cell % n) + 1))) none)))))), (l_24, (List.map V.int ((((List.map (fun i : Nat => ((i : Int) % heaps)) (List.range (Int.toNat n)))) ++ ([0]))))), (l_26, (List.map V.int ((cutL ((List.map (fun i : Nat => ((i : Int) % heaps)) (List.range (Int.toNat n)))) (some 1) none)))), (l_32, (([(List.getD ([(V.int heaps), (V.int ((heaps + (cell % 1000000000)))), (V.int ((-1))), (V.int (((-1) - (cell % 1000000000)))), (V.bl true), (V.bl false), V.non, (V.str ("0"))]) (Int.toNat (((cell / 60) % 8))) V.non)]) ++ ((List.map V.int ((cutL ((List.map (fun i : Nat => ((i : Int) % heaps)) (List.range (Int.toNat n)))) (some 1) none))))))] : List (RO (List V))))]) := Fr.radd (g := gV) (pre := [(l_34, (.lst [V.ref l_20, V.ref l_24, V.ref l_26, V.ref l_32] : HO)), (l_30, (.lst (List.map V.int ((cutL ((List.map (fun i : Nat => ((i : Int) % heaps)) (List.range (Int.toNat n)))) (some 1) none))) : HO)), (l_28, (.lst ([(List.getD ([(V.int heaps), (V.int ((heaps + (cell % 1000000000)))), (V.int ((-1))), (V.int (((-1) - (cell % 1000000000)))), (V.bl true), (V.bl false), V.non, (V.str ("0"))]) (Int.toNat (((cell / 60) % 8))) V.non)]) : HO)), (l_22, (.lst (List.map V.int ([0])) : HO)), (l_18, (.lst (List.map V.int ((cutL ((List.map (fun i : Nat => ((i : Int) % heaps)) (List.range (Int.toNat n)))) (some (((cell % n) + 1))) none))) : HO)), (l_16, (.lst ((((List.map V.int ((cutL ((List.map (fun i : Nat => ((i : Int) % heaps)) (List.range (Int.toNat n)))) none (some ((cell % n))))))) ++ ([(List.getD ([(V.int heaps), (V.int ((heaps + (cell % 1000000000)))), (V.int ((-1))), (V.int (((-1) - (cell % 1000000000)))), (V.bl true), (V.bl false), V.non, (V.str ("0"))]) (Int.toNat (((cell / 60) % 8))) V.non)]))) : HO)), (l_14, (.lst ([(List.getD ([(V.int heaps), (V.int ((heaps + (cell % 1000000000)))), (V.int ((-1))), (V.int (((-1) - (cell % 1000000000)))), (V.bl true), (V.bl false), V.non, (V.str ("0"))]) (Int.toNat (((cell / 60) % 8))) V.non)]) : HO)), (l_12, (.lst (List.map V.int ((cutL ((List.map (fun i : Nat => ((i : Int) % heaps)) (List.range (Int.toNat n)))) none (some ((cell % n)))))) : HO)), (D_1, (.lst (List.map V.int ((List.map (fun i : Nat => ((i : Int) % heaps)) (List.range (Int.toNat n))))) : HO))]) (ts := []) (rows := ([(l_20, (((((List.map V.int ((cutL ((List.map (fun i : Nat => ((i : Int) % heaps)) (List.range (Int.toNat n)))) none (some ((cell % n))))))) ++ ([(List.getD ([(V.int heaps), (V.int ((heaps + (cell % 1000000000)))), (V.int ((-1))), (V.int (((-1) - (cell % 1000000000)))), (V.bl true), (V.bl false), V.non, (V.str ("0"))]) (Int.toNat (((cell / 60) % 8))) V.non)]))) ++ ((List.map V.int ((cutL ((List.map (fun i : Nat => ((i : Int) % heaps)) (List.range (Int.toNat n)))) (some (((cell % n) + 1))) none)))))), (l_24, (List.map V.int ((((List.map (fun i : Nat => ((i : Int) % heaps)) (List.range (Int.toNat n)))) ++ ([0]))))), (l_26, (List.map V.int ((cutL ((List.map (fun i : Nat => ((i : Int) % heaps)) (List.range (Int.toNat n)))) (some 1) none))))] : List (RO (List V)))) (x := (([(List.getD ([(V.int heaps), (V.int ((heaps + (cell % 1000000000)))), (V.int ((-1))), (V.int (((-1) - (cell % 1000000000)))), (V.bl true), (V.bl false), V.non, (V.str ("0"))]) (Int.toNat (((cell / 60) % 8))) V.non)]) ++ ((List.map V.int ((cutL ((List.map (fun i : Nat => ((i : Int) % heaps)) (List.range (Int.toNat n)))) (some 1) none)))))) fr
    have fr : Fr H _ ([(l_34, (.lst (List.map rref (([(l_20, (((((List.map V.int ((cutL ((List.map (fun i : Nat => ((i : Int) % heaps)) (List.range (Int.toNat n)))) none (some ((cell % n))))))) ++ ([(List.getD ([(V.int heaps), (V.int ((heaps + (cell % 1000000000)))), (V.int ((-1))), (V.int (((-1) - (cell % 1000000000)))), (V.bl true), (V.bl false), V.non, (V.str ("0"))]) (Int.toNat (((cell / 60) % 8))) V.non)]))) ++ ((List.map V.int ((cutL ((List.map (fun i : Nat => ((i : Int) % heaps)) (List.range (Int.toNat n)))) (some (((cell % n) + 1))) none)))))), (l_24, (List.map V.int ((((List.map (fun i : Nat => ((i : Int) % heaps)) (List.range (Int.toNat n)))) ++ ([0]))))), (l_26, (List.map V.int ((cutL ((List.map (fun i : Nat => ((i : Int) % heaps)) (List.range (Int.toNat n)))) (some 1) none)))), (l_32, (([(List.getD ([(V.int heaps), (V.int ((heaps + (cell % 1000000000)))), (V.int ((-1))), (V.int (((-1) - (cell % 1000000000)))), (V.bl true), (V.bl false), V.non, (V.str ("0"))]) (Int.toNat (((cell / 60) % 8))) V.non)]) ++ ((List.map V.int ((cutL ((List.map (fun i : Nat => ((i : Int) % heaps)) (List.range (Int.toNat n)))) (some 1) none))))))] : List (RO (List V))))) : HO)), (l_30, (.lst (List.map V.int ((cutL ((List.map (fun i : Nat => ((i : Int) % heaps)) (List.range (Int.toNat n)))) (some 1) none))) : HO)), (l_28, (.lst ([(List.getD ([(V.int heaps), (V.int ((heaps + (cell % 1000000000)))), (V.int ((-1))), (V.int (((-1) - (cell % 1000000000)))), (V.bl true), (V.bl false), V.non, (V.str ("0"))]) (Int.toNat (((cell / 60) % 8))) V.non)]) : HO)), (l_22, (.lst (List.map V.int ([0])) : HO)), (l_18, (.lst (List.map V.int ((cutL ((List.map (fun i : Nat => ((i : Int) % heaps)) (List.range (Int.toNat n)))) (some (((cell % n) + 1))) none))) : HO)), (l_16, (.lst ((((List.map V.int ((cutL ((List.map (fun i : Nat => ((i : Int) % heaps)) (List.range (Int.toNat n)))) none (some ((cell % n))))))) ++ ([(List.getD ([(V.int heaps), (V.int ((heaps + (cell % 1000000000)))), (V.int ((-1))), (V.int (((-1) - (cell % 1000000000)))), (V.bl true), (V.bl false), V.non, (V.str ("0"))]) (Int.toNat (((cell / 60) % 8))) V.non)]))) : HO)), (l_14, (.lst ([(List.getD ([(V.int heaps), (V.int ((heaps + (cell % 1000000000)))), (V.int ((-1))), (V.int (((-1) - (cell % 1000000000)))), (V.bl true), (V.bl false), V.non, (V.str ("0"))]) (Int.toNat (((cell / 60) % 8))) V.non)]) : HO)), (l_12, (.lst (List.map V.int ((cutL ((List.map (fun i : Nat => ((i : Int) % heaps)) (List.range (Int.toNat n)))) none (some ((cell % n)))))) : HO)), (D_1, (.lst (List.map V.int ((List.map (fun i : Nat => ((i : Int) % heaps)) (List.range (Int.toNat n))))) : HO))] ++ List.flatten [rosOwn gV (([(l_20, (((((List.map V.int ((cutL ((List.map (fun i : Nat => ((i : Int) % heaps)) (List.range (Int.toNat n)))) none (some ((cell % n))))))) ++ ([(List.getD ([(V.int heaps), (V.int ((heaps + (cell % 1000000000)))), (V.int ((-1))), (V.int (((-1) - (cell % 1000000000)))), (V.bl true), (V.bl false), V.non, (V.str ("0"))]) (Int.toNat (((cell / 60) % 8))) V.non)]))) ++ ((List.map V.int ((cutL ((List.map (fun i : Nat => ((i : Int) % heaps)) (List.range (Int.toNat n)))) (some (((cell % n) + 1))) none)))))), (l_24, (List.map V.int ((((List.map (fun i : Nat => ((i : Int) % heaps)) (List.range (Int.toNat n)))) ++ ([0]))))), (l_26, (List.map V.int ((cutL ((List.map (fun i : Nat => ((i : Int) % heaps)) (List.range (Int.toNat n)))) (some 1) none)))), (l_32, (([(List.getD ([(V.int heaps), (V.int ((heaps + (cell % 1000000000)))), (V.int ((-1))), (V.int (((-1) - (cell % 1000000000)))), (V.bl true), (V.bl false), V.non, (V.str ("0"))]) (Int.toNat (((cell / 60) % 8))) V.non)]) ++ ((List.map V.int ((cutL ((List.map (fun i : Nat => ((i : Int) % heaps)) (List.range (Int.toNat n)))) (some 1) none))))))] : List (RO (List V))))]) := fr
    have fr : Fr H _ ([(l_34, (.lst (List.map rref (([(l_20, (((((List.map V.int ((cutL ((List.map (fun i : Nat => ((i : Int) % heaps)) (List.range (Int.toNat n)))) none (some ((cell % n))))))) ++ ([(List.getD ([(V.int heaps), (V.int ((heaps + (cell % 1000000000)))), (V.int ((-1))), (V.int (((-1) - (cell % 1000000000)))), (V.bl true), (V.bl false), V.non, (V.str ("0"))]) (Int.toNat (((cell / 60) % 8))) V.non)]))) ++ ((List.map V.int ((cutL ((List.map (fun i : Nat => ((i : Int) % heaps)) (List.range (Int.toNat n)))) (some (((cell % n) + 1))) none)))))), (l_24, (List.map V.int ((((List.map (fun i : Nat => ((i : Int) % heaps)) (List.range (Int.toNat n)))) ++ ([0]))))), (l_26, (List.map V.int ((cutL ((List.map (fun i : Nat => ((i : Int) % heaps)) (List.range (Int.toNat n)))) (some 1) none)))), (l_32, (([(List.getD ([(V.int heaps), (V.int ((heaps + (cell % 1000000000)))), (V.int ((-1))), (V.int (((-1) - (cell % 1000000000)))), (V.bl true), (V.bl false), V.non, (V.str ("0"))]) (Int.toNat (((cell / 60) % 8))) V.non)]) ++ ((List.map V.int ((cutL ((List.map (fun i : Nat => ((i : Int) % heaps)) (List.range (Int.toNat n)))) (some 1) none))))))] : List (RO (List V))))) : HO)), (l_28, (.lst ([(List.getD ([(V.int heaps), (V.int ((heaps + (cell % 1000000000)))), (V.int ((-1))), (V.int (((-1) - (cell % 1000000000)))), (V.bl true), (V.bl false), V.non, (V.str ("0"))]) (Int.toNat (((cell / 60) % 8))) V.non)]) : HO)), (l_22, (.lst (List.map V.int ([0])) : HO)), (l_18, (.lst (List.map V.int ((cutL ((List.map (fun i : Nat => ((i : Int) % heaps)) (List.range (Int.toNat n)))) (some (((cell % n) + 1))) none))) : HO)), (l_16, (.lst ((((List.map V.int ((cutL ((List.map (fun i : Nat => ((i : Int) % heaps)) (List.range (Int.toNat n)))) none (some ((cell % n))))))) ++ ([(List.getD ([(V.int heaps), (V.int ((heaps + (cell % 1000000000)))), (V.int ((-1))), (V.int (((-1) - (cell % 1000000000)))), (V.bl true), (V.bl false), V.non, (V.str ("0"))]) (Int.toNat (((cell / 60) % 8))) V.non)]))) : HO)), (l_14, (.lst ([(List.getD ([(V.int heaps), (V.int ((heaps + (cell % 1000000000)))), (V.int ((-1))), (V.int (((-1) - (cell % 1000000000)))), (V.bl true), (V.bl false), V.non, (V.str ("0"))]) (Int.toNat (((cell / 60) % 8))) V.non)]) : HO)), (l_12, (.lst (List.map V.int ((cutL ((List.map (fun i : Nat => ((i : Int) % heaps)) (List.range (Int.toNat n)))) none (some ((cell % n)))))) : HO)), (D_1, (.lst (List.map V.int ((List.map (fun i : Nat => ((i : Int) % heaps)) (List.range (Int.toNat n))))) : HO))] ++ List.flatten [rosOwn gV (([(l_20, (((((List.map V.int ((cutL ((List.map (fun i : Nat => ((i : Int) % heaps)) (List.range (Int.toNat n)))) none (some ((cell % n))))))) ++ ([(List.getD ([(V.int heaps), (V.int ((heaps + (cell % 1000000000)))), (V.int ((-1))), (V.int (((-1) - (cell % 1000000000)))), (V.bl true), (V.bl false), V.non, (V.str ("0"))]) (Int.toNat (((cell / 60) % 8))) V.non)]))) ++ ((List.map V.int ((cutL ((List.map (fun i : Nat => ((i : Int) % heaps)) (List.range (Int.toNat n)))) (some (((cell % n) + 1))) none)))))), (l_24, (List.map V.int ((((List.map (fun i : Nat => ((i : Int) % heaps)) (List.range (Int.toNat n)))) ++ ([0]))))), (l_26, (List.map V.int ((cutL ((List.map (fun i : Nat => ((i : Int) % heaps)) (List.range (Int.toNat n)))) (some 1) none)))), (l_32, (([(List.getD ([(V.int heaps), (V.int ((heaps + (cell % 1000000000)))), (V.int ((-1))), (V.int (((-1) - (cell % 1000000000)))), (V.bl true), (V.bl false), V.non, (V.str ("0"))]) (Int.toNat (((cell / 60) % 8))) V.non)]) ++ ((List.map V.int ((cutL ((List.map (fun i : Nat => ((i : Int) % heaps)) (List.range (Int.toNat n)))) (some 1) none))))))] : List (RO (List V))))]) := Fr.dk fr 1
    have fr : Fr H _ ([(l_34, (.lst (List.map rref (([(l_20, (((((List.map V.int ((cutL ((List.map (fun i : Nat => ((i : Int) % heaps)) (List.range (Int.toNat n)))) none (some ((cell % n))))))) ++ ([(List.getD ([(V.int heaps), (V.int ((heaps + (cell % 1000000000)))), (V.int ((-1))), (V.int (((-1) - (cell % 1000000000)))), (V.bl true), (V.bl false), V.non, (V.str ("0"))]) (Int.toNat (((cell / 60) % 8))) V.non)]))) ++ ((List.map V.int ((cutL ((List.map (fun i : Nat => ((i : Int) % heaps)) (List.range (Int.toNat n)))) (some (((cell % n) + 1))) none)))))), (l_24, (List.map V.int ((((List.map (fun i : Nat => ((i : Int) % heaps)) (List.range (Int.toNat n)))) ++ ([0]))))), (l_26, (List.map V.int ((cutL ((List.map (fun i : Nat => ((i : Int) % heaps)) (List.range (Int.toNat n)))) (some 1) none)))), (l_32, (([(List.getD ([(V.int heaps), (V.int ((heaps + (cell % 1000000000)))), (V.int ((-1))), (V.int (((-1) - (cell % 1000000000)))), (V.bl true), (V.bl false), V.non, (V.str ("0"))]) (Int.toNat (((cell / 60) % 8))) V.non)]) ++ ((List.map V.int ((cutL ((List.map (fun i : Nat => ((i : Int) % heaps)) (List.range (Int.toNat n)))) (some 1) none))))))] : List (RO (List V))))) : HO)), (l_22, (.lst (List.map V.int ([0])) : HO)), (l_18, (.lst (List.map V.int ((cutL ((List.map (fun i : Nat => ((i : Int) % heaps)) (List.range (Int.toNat n)))) (some (((cell % n) + 1))) none))) : HO)), (l_16, (.lst ((((List.map V.int ((cutL ((List.map (fun i : Nat => ((i : Int) % heaps)) (List.range (Int.toNat n)))) none (some ((cell % n))))))) ++ ([(List.getD ([(V.int heaps), (V.int ((heaps + (cell % 1000000000)))), (V.int ((-1))), (V.int (((-1) - (cell % 1000000000)))), (V.bl true), (V.bl false), V.non, (V.str ("0"))]) (Int.toNat (((cell / 60) % 8))) V.non)]))) : HO)), (l_14, (.lst ([(List.getD ([(V.int heaps), (V.int ((heaps + (cell % 1000000000)))), (V.int ((-1))), (V.int (((-1) - (cell % 1000000000)))), (V.bl true), (V.bl false), V.non, (V.str ("0"))]) (Int.toNat (((cell / 60) % 8))) V.non)]) : HO)), (l_12, (.lst (List.map V.int ((cutL ((List.map (fun i : Nat => ((i : Int) % heaps)) (List.range (Int.toNat n)))) none (some ((cell % n)))))) : HO)), (D_1, (.lst (List.map V.int ((List.map (fun i : Nat => ((i : Int) % heaps)) (List.range (Int.toNat n))))) : HO))] ++ List.flatten [rosOwn gV (([(l_20, (((((List.map V.int ((cutL ((List.map (fun i : Nat => ((i : Int) % heaps)) (List.range (Int.toNat n)))) none (some ((cell % n))))))) ++ ([(List.getD ([(V.int heaps), (V.int ((heaps + (cell % 1000000000)))), (V.int ((-1))), (V.int (((-1) - (cell % 1000000000)))), (V.bl true), (V.bl false), V.non, (V.str ("0"))]) (Int.toNat (((cell / 60) % 8))) V.non)]))) ++ ((List.map V.int ((cutL ((List.map (fun i : Nat => ((i : Int) % heaps)) (List.range (Int.toNat n)))) (some (((cell % n) + 1))) none)))))), (l_24, (List.map V.int ((((List.map (fun i : Nat => ((i : Int) % heaps)) (List.range (Int.toNat n)))) ++ ([0]))))), (l_26, (List.map V.int ((cutL ((List.map (fun i : Nat => ((i : Int) % heaps)) (List.range (Int.toNat n)))) (some 1) none)))), (l_32, (([(List.getD ([(V.int heaps), (V.int ((heaps + (cell % 1000000000)))), (V.int ((-1))), (V.int (((-1) - (cell % 1000000000)))), (V.bl true), (V.bl false), V.non, (V.str ("0"))]) (Int.toNat (((cell / 60) % 8))) V.non)]) ++ ((List.map V.int ((cutL ((List.map (fun i : Nat => ((i : Int) % heaps)) (List.range (Int.toNat n)))) (some 1) none))))))] : List (RO (List V))))]) := Fr.dk fr 1
    have fr : Fr H _ ([(l_34, (.lst (List.map rref (([(l_20, (((((List.map V.int ((cutL ((List.map (fun i : Nat => ((i : Int) % heaps)) (List.range (Int.toNat n)))) none (some ((cell % n))))))) ++ ([(List.getD ([(V.int heaps), (V.int ((heaps + (cell % 1000000000)))), (V.int ((-1))), (V.int (((-1) - (cell % 1000000000)))), (V.bl true), (V.bl false), V.non, (V.str ("0"))]) (Int.toNat (((cell / 60) % 8))) V.non)]))) ++ ((List.map V.int ((cutL ((List.map (fun i : Nat => ((i : Int) % heaps)) (List.range (Int.toNat n)))) (some (((cell % n) + 1))) none)))))), (l_24, (List.map V.int ((((List.map (fun i : Nat => ((i : Int) % heaps)) (List.range (Int.toNat n)))) ++ ([0]))))), (l_26, (List.map V.int ((cutL ((List.map (fun i : Nat => ((i : Int) % heaps)) (List.range (Int.toNat n)))) (some 1) none)))), (l_32, (([(List.getD ([(V.int heaps), (V.int ((heaps + (cell % 1000000000)))), (V.int ((-1))), (V.int (((-1) - (cell % 1000000000)))), (V.bl true), (V.bl false), V.non, (V.str ("0"))]) (Int.toNat (((cell / 60) % 8))) V.non)]) ++ ((List.map V.int ((cutL ((List.map (fun i : Nat => ((i : Int) % heaps)) (List.range (Int.toNat n)))) (some 1) none))))))] : List (RO (List V))))) : HO)), (l_18, (.lst (List.map V.int ((cutL ((List.map (fun i : Nat => ((i : Int) % heaps)) (List.range (Int.toNat n)))) (some (((cell % n) + 1))) none))) : HO)), (l_16, (.lst ((((List.map V.int ((cutL ((List.map (fun i : Nat => ((i : Int) % heaps)) (List.range (Int.toNat n)))) none (some ((cell % n))))))) ++ ([(List.getD ([(V.int heaps), (V.int ((heaps + (cell % 1000000000)))), (V.int ((-1))), (V.int (((-1) - (cell % 1000000000)))), (V.bl true), (V.bl false), V.non, (V.str ("0"))]) (Int.toNat (((cell / 60) % 8))) V.non)]))) : HO)), (l_14, (.lst ([(List.getD ([(V.int heaps), (V.int ((heaps + (cell % 1000000000)))), (V.int ((-1))), (V.int (((-1) - (cell % 1000000000)))), (V.bl true), (V.bl false), V.non, (V.str ("0"))]) (Int.toNat (((cell / 60) % 8))) V.non)]) : HO)), (l_12, (.lst (List.map V.int ((cutL ((List.map (fun i : Nat => ((i : Int) % heaps)) (List.range (Int.toNat n)))) none (some ((cell % n)))))) : HO)), (D_1, (.lst (List.map V.int ((List.map (fun i : Nat => ((i : Int) % heaps)) (List.range (Int.toNat n))))) : HO))] ++ List.flatten [rosOwn gV (([(l_20, (((((List.map V.int ((cutL ((List.map (fun i : Nat => ((i : Int) % heaps)) (List.range (Int.toNat n)))) none (some ((cell % n))))))) ++ ([(List.getD ([(V.int heaps), (V.int ((heaps + (cell % 1000000000)))), (V.int ((-1))), (V.int (((-1) - (cell % 1000000000)))), (V.bl true), (V.bl false), V.non, (V.str ("0"))]) (Int.toNat (((cell / 60) % 8))) V.non)]))) ++ ((List.map V.int ((cutL ((List.map (fun i : Nat => ((i : Int) % heaps)) (List.range (Int.toNat n)))) (some (((cell % n) + 1))) none)))))), (l_24, (List.map V.int ((((List.map (fun i : Nat => ((i : Int) % heaps)) (List.range (Int.toNat n)))) ++ ([0]))))), (l_26, (List.map V.int ((cutL ((List.map (fun i : Nat => ((i : Int) % heaps)) (List.range (Int.toNat n)))) (some 1) none)))), (l_32, (([(List.getD ([(V.int heaps), (V.int ((heaps + (cell % 1000000000)))), (V.int ((-1))), (V.int (((-1) - (cell % 1000000000)))), (V.bl true), (V.bl false), V.non, (V.str ("0"))]) (Int.toNat (((cell / 60) % 8))) V.non)]) ++ ((List.map V.int ((cutL ((List.map (fun i : Nat => ((i : Int) % heaps)) (List.range (Int.toNat n)))) (some 1) none))))))] : List (RO (List V))))]) := Fr.dk fr 1
    have fr : Fr H _ ([(l_34, (.lst (List.map rref (([(l_20, (((((List.map V.int ((cutL ((List.map (fun i : Nat => ((i : Int) % heaps)) (List.range (Int.toNat n)))) none (some ((cell % n))))))) ++ ([(List.getD ([(V.int heaps), (V.int ((heaps + (cell % 1000000000)))), (V.int ((-1))), (V.int (((-1) - (cell % 1000000000)))), (V.bl true), (V.bl false), V.non, (V.str ("0"))]) (Int.toNat (((cell / 60) % 8))) V.non)]))) ++ ((List.map V.int ((cutL ((List.map (fun i : Nat => ((i : Int) % heaps)) (List.range (Int.toNat n)))) (some (((cell % n) + 1))) none)))))), (l_24, (List.map V.int ((((List.map (fun i : Nat => ((i : Int) % heaps)) (List.range (Int.toNat n)))) ++ ([0]))))), (l_26, (List.map V.int ((cutL ((List.map (fun i : Nat => ((i : Int) % heaps)) (List.range (Int.toNat n)))) (some 1) none)))), (l_32, (([(List.getD ([(V.int heaps), (V.int ((heaps + (cell % 1000000000)))), (V.int ((-1))), (V.int (((-1) - (cell % 1000000000)))), (V.bl true), (V.bl false), V.non, (V.str ("0"))]) (Int.toNat (((cell / 60) % 8))) V.non)]) ++ ((List.map V.int ((cutL ((List.map (fun i : Nat => ((i : Int) % heaps)) (List.range (Int.toNat n)))) (some 1) none))))))] : List (RO (List V))))) : HO)), (l_16, (.lst ((((List.map V.int ((cutL ((List.map (fun i : Nat => ((i : Int) % heaps)) (List.range (Int.toNat n)))) none (some ((cell % n))))))) ++ ([(List.getD ([(V.int heaps), (V.int ((heaps + (cell % 1000000000)))), (V.int ((-1))), (V.int (((-1) - (cell % 1000000000)))), (V.bl true), (V.bl false), V.non, (V.str ("0"))]) (Int.toNat (((cell / 60) % 8))) V.non)]))) : HO)), (l_14, (.lst ([(List.getD ([(V.int heaps), (V.int ((heaps + (cell % 1000000000)))), (V.int ((-1))), (V.int (((-1) - (cell % 1000000000)))), (V.bl true), (V.bl false), V.non, (V.str ("0"))]) (Int.toNat (((cell / 60) % 8))) V.non)]) : HO)), (l_12, (.lst (List.map V.int ((cutL ((List.map (fun i : Nat => ((i : Int) % heaps)) (List.range (Int.toNat n)))) none (some ((cell % n)))))) : HO)), (D_1, (.lst (List.map V.int ((List.map (fun i : Nat => ((i : Int) % heaps)) (List.range (Int.toNat n))))) : HO))] ++ List.flatten [rosOwn gV (([(l_20, (((((List.map V.int ((cutL ((List.map (fun i : Nat => ((i : Int) % heaps)) (List.range (Int.toNat n)))) none (some ((cell % n))))))) ++ ([(List.getD ([(V.int heaps), (V.int ((heaps + (cell % 1000000000)))), (V.int ((-1))), (V.int (((-1) - (cell % 1000000000)))), (V.bl true), (V.bl false), V.non, (V.str ("0"))]) (Int.toNat (((cell / 60) % 8))) V.non)]))) ++ ((List.map V.int ((cutL ((List.map (fun i : Nat => ((i : Int) % heaps)) (List.range (Int.toNat n)))) (some (((cell % n) + 1))) none)))))), (l_24, (List.map V.int ((((List.map (fun i : Nat => ((i : Int) % heaps)) (List.range (Int.toNat n)))) ++ ([0]))))), (l_26, (List.map V.int ((cutL ((List.map (fun i : Nat => ((i : Int) % heaps)) (List.range (Int.toNat n)))) (some 1) none)))), (l_32, (([(List.getD ([(V.int heaps), (V.int ((heaps + (cell % 1000000000)))), (V.int ((-1))), (V.int (((-1) - (cell % 1000000000)))), (V.bl true), (V.bl false), V.non, (V.str ("0"))]) (Int.toNat (((cell / 60) % 8))) V.non)]) ++ ((List.map V.int ((cutL ((List.map (fun i : Nat => ((i : Int) % heaps)) (List.range (Int.toNat n)))) (some 1) none))))))] : List (RO (List V))))]) := Fr.dk fr 1
    have fr : Fr H _ ([(l_34, (.lst (List.map rref (([(l_20, (((((List.map V.int ((cutL ((List.map (fun i : Nat => ((i : Int) % heaps)) (List.range (Int.toNat n)))) none (some ((cell % n))))))) ++ ([(List.getD ([(V.int heaps), (V.int ((heaps + (cell % 1000000000)))), (V.int ((-1))), (V.int (((-1) - (cell % 1000000000)))), (V.bl true), (V.bl false), V.non, (V.str ("0"))]) (Int.toNat (((cell / 60) % 8))) V.non)]))) ++ ((List.map V.int ((cutL ((List.map (fun i : Nat => ((i : Int) % heaps)) (List.range (Int.toNat n)))) (some (((cell % n) + 1))) none)))))), (l_24, (List.map V.int ((((List.map (fun i : Nat => ((i : Int) % heaps)) (List.range (Int.toNat n)))) ++ ([0]))))), (l_26, (List.map V.int ((cutL ((List.map (fun i : Nat => ((i : Int) % heaps)) (List.range (Int.toNat n)))) (some 1) none)))), (l_32, (([(List.getD ([(V.int heaps), (V.int ((heaps + (cell % 1000000000)))), (V.int ((-1))), (V.int (((-1) - (cell % 1000000000)))), (V.bl true), (V.bl false), V.non, (V.str ("0"))]) (Int.toNat (((cell / 60) % 8))) V.non)]) ++ ((List.map V.int ((cutL ((List.map (fun i : Nat => ((i : Int) % heaps)) (List.range (Int.toNat n)))) (some 1) none))))))] : List (RO (List V))))) : HO)), (l_14, (.lst ([(List.getD ([(V.int heaps), (V.int ((heaps + (cell % 1000000000)))), (V.int ((-1))), (V.int (((-1) - (cell % 1000000000)))), (V.bl true), (V.bl false), V.non, (V.str ("0"))]) (Int.toNat (((cell / 60) % 8))) V.non)]) : HO)), (l_12, (.lst (List.map V.int ((cutL ((List.map (fun i : Nat => ((i : Int) % heaps)) (List.range (Int.toNat n)))) none (some ((cell % n)))))) : HO)), (D_1, (.lst (List.map V.int ((List.map (fun i : Nat => ((i : Int) % heaps)) (List.range (Int.toNat n))))) : HO))] ++ List.flatten [rosOwn gV (([(l_20, (((((List.map V.int ((cutL ((List.map (fun i : Nat => ((i : Int) % heaps)) (List.range (Int.toNat n)))) none (some ((cell % n))))))) ++ ([(List.getD ([(V.int heaps), (V.int ((heaps + (cell % 1000000000)))), (V.int ((-1))), (V.int (((-1) - (cell % 1000000000)))), (V.bl true), (V.bl false), V.non, (V.str ("0"))]) (Int.toNat (((cell / 60) % 8))) V.non)]))) ++ ((List.map V.int ((cutL ((List.map (fun i : Nat => ((i : Int) % heaps)) (List.range (Int.toNat n)))) (some (((cell % n) + 1))) none)))))), (l_24, (List.map V.int ((((List.map (fun i : Nat => ((i : Int) % heaps)) (List.range (Int.toNat n)))) ++ ([0]))))), (l_26, (List.map V.int ((cutL ((List.map (fun i : Nat => ((i : Int) % heaps)) (List.range (Int.toNat n)))) (some 1) none)))), (l_32, (([(List.getD ([(V.int heaps), (V.int ((heaps + (cell % 1000000000)))), (V.int ((-1))), (V.int (((-1) - (cell % 1000000000)))), (V.bl true), (V.bl false), V.non, (V.str ("0"))]) (Int.toNat (((cell / 60) % 8))) V.non)]) ++ ((List.map V.int ((cutL ((List.map (fun i : Nat => ((i : Int) % heaps)) (List.range (Int.toNat n)))) (some 1) none))))))] : List (RO (List V))))]) := Fr.dk fr 1
    have fr : Fr H _ ([(l_34, (.lst (List.map rref (([(l_20, (((((List.map V.int ((cutL ((List.map (fun i : Nat => ((i : Int) % heaps)) (List.range (Int.toNat n)))) none (some ((cell % n))))))) ++ ([(List.getD ([(V.int heaps), (V.int ((heaps + (cell % 1000000000)))), (V.int ((-1))), (V.int (((-1) - (cell % 1000000000)))), (V.bl true), (V.bl false), V.non, (V.str ("0"))]) (Int.toNat (((cell / 60) % 8))) V.non)]))) ++ ((List.map V.int ((cutL ((List.map (fun i : Nat => ((i : Int) % heaps)) (List.range (Int.toNat n)))) (some (((cell % n) + 1))) none)))))), (l_24, (List.map V.int ((((List.map (fun i : Nat => ((i : Int) % heaps)) (List.range (Int.toNat n)))) ++ ([0]))))), (l_26, (List.map V.int ((cutL ((List.map (fun i : Nat => ((i : Int) % heaps)) (List.range (Int.toNat n)))) (some 1) none)))), (l_32, (([(List.getD ([(V.int heaps), (V.int ((heaps + (cell % 1000000000)))), (V.int ((-1))), (V.int (((-1) - (cell % 1000000000)))), (V.bl true), (V.bl false), V.non, (V.str ("0"))]) (Int.toNat (((cell / 60) % 8))) V.non)]) ++ ((List.map V.int ((cutL ((List.map (fun i : Nat => ((i : Int) % heaps)) (List.range (Int.toNat n)))) (some 1) none))))))] : List (RO (List V))))) : HO)), (l_12, (.lst (List.map V.int ((cutL ((List.map (fun i : Nat => ((i : Int) % heaps)) (List.range (Int.toNat n)))) none (some ((cell % n)))))) : HO)), (D_1, (.lst (List.map V.int ((List.map (fun i : Nat => ((i : Int) % heaps)) (List.range (Int.toNat n))))) : HO))] ++ List.flatten [rosOwn gV (([(l_20, (((((List.map V.int ((cutL ((List.map (fun i : Nat => ((i : Int) % heaps)) (List.range (Int.toNat n)))) none (some ((cell % n))))))) ++ ([(List.getD ([(V.int heaps), (V.int ((heaps + (cell % 1000000000)))), (V.int ((-1))), (V.int (((-1) - (cell % 1000000000)))), (V.bl true), (V.bl false), V.non, (V.str ("0"))]) (Int.toNat (((cell / 60) % 8))) V.non)]))) ++ ((List.map V.int ((cutL ((List.map (fun i : Nat => ((i : Int) % heaps)) (List.range (Int.toNat n)))) (some (((cell % n) + 1))) none)))))), (l_24, (List.map V.int ((((List.map (fun i : Nat => ((i : Int) % heaps)) (List.range (Int.toNat n)))) ++ ([0]))))), (l_26, (List.map V.int ((cutL ((List.map (fun i : Nat => ((i : Int) % heaps)) (List.range (Int.toNat n)))) (some 1) none)))), (l_32, (([(List.getD ([(V.int heaps), (V.int ((heaps + (cell % 1000000000)))), (V.int ((-1))), (V.int (((-1) - (cell % 1000000000)))), (V.bl true), (V.bl false), V.non, (V.str ("0"))]) (Int.toNat (((cell / 60) % 8))) V.non)]) ++ ((List.map V.int ((cutL ((List.map (fun i : Nat => ((i : Int) % heaps)) (List.range (Int.toNat n)))) (some 1) none))))))] : List (RO (List V))))]) := Fr.dk fr 1
    have fr : Fr H _ ([(l_34, (.lst (List.map rref (([(l_20, (((((List.map V.int ((cutL ((List.map (fun i : Nat => ((i : Int) % heaps)) (List.range (Int.toNat n)))) none (some ((cell % n))))))) ++ ([(List.getD ([(V.int heaps), (V.int ((heaps + (cell % 1000000000)))), (V.int ((-1))), (V.int (((-1) - (cell % 1000000000)))), (V.bl true), (V.bl false), V.non, (V.str ("0"))]) (Int.toNat (((cell / 60) % 8))) V.non)]))) ++ ((List.map V.int ((cutL ((List.map (fun i : Nat => ((i : Int) % heaps)) (List.range (Int.toNat n)))) (some (((cell % n) + 1))) none)))))), (l_24, (List.map V.int ((((List.map (fun i : Nat => ((i : Int) % heaps)) (List.range (Int.toNat n)))) ++ ([0]))))), (l_26, (List.map V.int ((cutL ((List.map (fun i : Nat => ((i : Int) % heaps)) (List.range (Int.toNat n)))) (some 1) none)))), (l_32, (([(List.getD ([(V.int heaps), (V.int ((heaps + (cell % 1000000000)))), (V.int ((-1))), (V.int (((-1) - (cell % 1000000000)))), (V.bl true), (V.bl false), V.non, (V.str ("0"))]) (Int.toNat (((cell / 60) % 8))) V.non)]) ++ ((List.map V.int ((cutL ((List.map (fun i : Nat => ((i : Int) % heaps)) (List.range (Int.toNat n)))) (some 1) none))))))] : List (RO (List V))))) : HO)), (D_1, (.lst (List.map V.int ((List.map (fun i : Nat => ((i : Int) % heaps)) (List.range (Int.toNat n))))) : HO))] ++ List.flatten [rosOwn gV (([(l_20, (((((List.map V.int ((cutL ((List.map (fun i : Nat => ((i : Int) % heaps)) (List.range (Int.toNat n)))) none (some ((cell % n))))))) ++ ([(List.getD ([(V.int heaps), (V.int ((heaps + (cell % 1000000000)))), (V.int ((-1))), (V.int (((-1) - (cell % 1000000000)))), (V.bl true), (V.bl false), V.non, (V.str ("0"))]) (Int.toNat (((cell / 60) % 8))) V.non)]))) ++ ((List.map V.int ((cutL ((List.map (fun i : Nat => ((i : Int) % heaps)) (List.range (Int.toNat n)))) (some (((cell % n) + 1))) none)))))), (l_24, (List.map V.int ((((List.map (fun i : Nat => ((i : Int) % heaps)) (List.range (Int.toNat n)))) ++ ([0]))))), (l_26, (List.map V.int ((cutL ((List.map (fun i : Nat => ((i : Int) % heaps)) (List.range (Int.toNat n)))) (some 1) none)))), (l_32, (([(List.getD ([(V.int heaps), (V.int ((heaps + (cell % 1000000000)))), (V.int ((-1))), (V.int (((-1) - (cell % 1000000000)))), (V.bl true), (V.bl false), V.non, (V.str ("0"))]) (Int.toNat (((cell / 60) % 8))) V.non)]) ++ ((List.map V.int ((cutL ((List.map (fun i : Nat => ((i : Int) % heaps)) (List.range (Int.toNat n)))) (some 1) none))))))] : List (RO (List V))))]) := Fr.dk fr 1
    have fr : Fr H _ ([(l_34, (.lst (List.map rref (([(l_20, (((((List.map V.int ((cutL ((List.map (fun i : Nat => ((i : Int) % heaps)) (List.range (Int.toNat n)))) none (some ((cell % n))))))) ++ ([(List.getD ([(V.int heaps), (V.int ((heaps + (cell % 1000000000)))), (V.int ((-1))), (V.int (((-1) - (cell % 1000000000)))), (V.bl true), (V.bl false), V.non, (V.str ("0"))]) (Int.toNat (((cell / 60) % 8))) V.non)]))) ++ ((List.map V.int ((cutL ((List.map (fun i : Nat => ((i : Int) % heaps)) (List.range (Int.toNat n)))) (some (((cell % n) + 1))) none)))))), (l_24, (List.map V.int ((((List.map (fun i : Nat => ((i : Int) % heaps)) (List.range (Int.toNat n)))) ++ ([0]))))), (l_26, (List.map V.int ((cutL ((List.map (fun i : Nat => ((i : Int) % heaps)) (List.range (Int.toNat n)))) (some 1) none)))), (l_32, (([(List.getD ([(V.int heaps), (V.int ((heaps + (cell % 1000000000)))), (V.int ((-1))), (V.int (((-1) - (cell % 1000000000)))), (V.bl true), (V.bl false), V.non, (V.str ("0"))]) (Int.toNat (((cell / 60) % 8))) V.non)]) ++ ((List.map V.int ((cutL ((List.map (fun i : Nat => ((i : Int) % heaps)) (List.range (Int.toNat n)))) (some 1) none))))))] : List (RO (List V))))) : HO))] ++ List.flatten [rosOwn gV (([(l_20, (((((List.map V.int ((cutL ((List.map (fun i : Nat => ((i : Int) % heaps)) (List.range (Int.toNat n)))) none (some ((cell % n))))))) ++ ([(List.getD ([(V.int heaps), (V.int ((heaps + (cell % 1000000000)))), (V.int ((-1))), (V.int (((-1) - (cell % 1000000000)))), (V.bl true), (V.bl false), V.non, (V.str ("0"))]) (Int.toNat (((cell / 60) % 8))) V.non)]))) ++ ((List.map V.int ((cutL ((List.map (fun i : Nat => ((i : Int) % heaps)) (List.range (Int.toNat n)))) (some (((cell % n) + 1))) none)))))), (l_24, (List.map V.int ((((List.map (fun i : Nat => ((i : Int) % heaps)) (List.range (Int.toNat n)))) ++ ([0]))))), (l_26, (List.map V.int ((cutL ((List.map (fun i : Nat => ((i : Int) % heaps)) (List.range (Int.toNat n)))) (some 1) none)))), (l_32, (([(List.getD ([(V.int heaps), (V.int ((heaps + (cell % 1000000000)))), (V.int ((-1))), (V.int (((-1) - (cell % 1000000000)))), (V.bl true), (V.bl false), V.non, (V.str ("0"))]) (Int.toNat (((cell / 60) % 8))) V.non)]) ++ ((List.map V.int ((cutL ((List.map (fun i : Nat => ((i : Int) % heaps)) (List.range (Int.toNat n)))) (some 1) none))))))] : List (RO (List V))))]) := Fr.dk fr 1
    exact q _ _ _ (([(((((List.map V.int ((cutL ((List.map (fun i : Nat => ((i : Int) % heaps)) (List.range (Int.toNat n)))) none (some ((cell % n))))))) ++ ([(List.getD ([(V.int heaps), (V.int ((heaps + (cell % 1000000000)))), (V.int ((-1))), (V.int (((-1) - (cell % 1000000000)))), (V.bl true), (V.bl false), V.non, (V.str ("0"))]) (Int.toNat (((cell / 60) % 8))) V.non)]))) ++ ((List.map V.int ((cutL ((List.map (fun i : Nat => ((i : Int) % heaps)) (List.range (Int.toNat n)))) (some (((cell % n) + 1))) none))))), (List.map V.int ((((List.map (fun i : Nat => ((i : Int) % heaps)) (List.range (Int.toNat n)))) ++ ([0])))), (List.map V.int ((cutL ((List.map (fun i : Nat => ((i : Int) % heaps)) (List.range (Int.toNat n)))) (some 1) none))), (([(List.getD ([(V.int heaps), (V.int ((heaps + (cell % 1000000000)))), (V.int ((-1))), (V.int (((-1) - (cell % 1000000000)))), (V.bl true), (V.bl false), V.non, (V.str ("0"))]) (Int.toNat (((cell / 60) % 8))) V.non)]) ++ ((List.map V.int ((cutL ((List.map (fun i : Nat => ((i : Int) % heaps)) (List.range (Int.toNat n)))) (some 1) none)))))] : List (List V))) (by exact badWords hth hwl (by omega) ⟨hk1, hk2⟩) (Fr.tabback (g := gV) (pre := []) (ts := []) (rows := (([(l_20, (((((List.map V.int ((cutL ((List.map (fun i : Nat => ((i : Int) % heaps)) (List.range (Int.toNat n)))) none (some ((cell % n))))))) ++ ([(List.getD ([(V.int heaps), (V.int ((heaps + (cell % 1000000000)))), (V.int ((-1))), (V.int (((-1) - (cell % 1000000000)))), (V.bl true), (V.bl false), V.non, (V.str ("0"))]) (Int.toNat (((cell / 60) % 8))) V.non)]))) ++ ((List.map V.int ((cutL ((List.map (fun i : Nat => ((i : Int) % heaps)) (List.range (Int.toNat n)))) (some (((cell % n) + 1))) none)))))), (l_24, (List.map V.int ((((List.map (fun i : Nat => ((i : Int) % heaps)) (List.range (Int.toNat n)))) ++ ([0]))))), (l_26, (List.map V.int ((cutL ((List.map (fun i : Nat => ((i : Int) % heaps)) (List.range (Int.toNat n)))) (some 1) none)))), (l_32, (([(List.getD ([(V.int heaps), (V.int ((heaps + (cell % 1000000000)))), (V.int ((-1))), (V.int (((-1) - (cell % 1000000000)))), (V.bl true), (V.bl false), V.non, (V.str ("0"))]) (Int.toNat (((cell / 60) % 8))) V.non)]) ++ ((List.map V.int ((cutL ((List.map (fun i : Nat => ((i : Int) % heaps)) (List.range (Int.toNat n)))) (some 1) none))))))] : List (RO (List V))))) fr rfl) fr.same
def sp_law_cell_at (K : PySem.W.Frag) : Sp := fun vs H Q _ => ∃ (a_script : Addr) (script : List Int) (k : Int), vs = [V.ref a_script, V.int k] ∧ SqL K H a_script (List.map V.int script) ∧ (0 ≤ k) ∧ (∀ (H1 : Hp) (res : Int), (True) → Same H H1 → Q (V.int res) H1)
theorem sc_law_cell_at : FnScope ["_law_script", "_law_k"] ["_law_script", "_law_k"] (defScope s_law_cell_at) := ⟨rfl, rfl, rfl, by decide +kernel, rfl, by decide +kernel, by decide +kernel⟩
theorem ok_law_cell_at (T : Txt K mg) : FnOk P w K mg base CX0 1 T.f_law_cell_at T.fd_law_cell_at ["_law_script", "_law_k"] (sp_law_cell_at K) := by
  refine T.F_law_cell_at.ok sc_law_cell_at (fun vs H Q E h => ?_) (fun cdv A outer s H vs Q E hr h => ?_)
  · obtain ⟨a_script, script, k, rfl, _⟩ := h; rfl
  · obtain ⟨a_script, script, k, rfl, h_script, pre0, q⟩ := h
    have fr := Fr.nil H
    refine ⟨_, (pss_cons (ps_if (pt_cmpR op_ltS (pv 1) (pe_callB (show CallR _ _ (rLenL K) from call_lenL) (by rfl) T.m_len (by decide +kernel) (pa_cons (pv 0) pa_nil)) (nomark _)) (pss_one (ps_ret (pe_ix (show IxR _ (rIxL K) from ix_list) (pv 0) (pv 1) (fun _ _ => rfl)))) pss_nil)
          (pss_one (ps_ret pe_int))), ?_⟩
    refine ⟨_, rfl, _, rfl, _, _, _, rfl, (fr.same.seq h_script), (List.length_map _), _, _, rfl, rfl, ?_, ?_⟩
    · intro h1
      refine ⟨_, rfl, ?_⟩
      refine iteT ?_
      refine ⟨_, rfl, _, rfl, _, _, _, _, rfl, rfl, (fr.same.seq h_script), (atD 0 ?_ ?_), ?_⟩
      · walk_at "side"
      · walk_at "side"
      exact q _ ((List.getD script (Int.toNat k) 0)) (by trivial) fr.same
    · intro h1
      refine ⟨_, rfl, ?_⟩
      refine iteF ?_
      exact q _ 0 (by trivial) fr.same
def sp_law_mixed (K : PySem.W.Frag) : Sp := fun vs H Q _ => ∃ (cell : Int) (k : Int), vs = [V.int cell, V.int k] ∧ (0 ≤ k ∧ k < 1000) ∧ (∀ (H1 : Hp) (res : Int), (0 ≤ res ∧ res < 2147483647) → Same H H1 → Q (V.int res) H1)
theorem sc_law_mixed : FnScope ["_law_cell", "_law_k", "_law_number"] ["_law_cell", "_law_k"] (defScope s_law_mixed) := ⟨rfl, rfl, rfl, by decide +kernel, rfl, by decide +kernel, by decide +kernel⟩
theorem ok_law_mixed (T : Txt K mg) : FnOk P w K mg base CX0 1 T.f_law_mixed T.fd_law_mixed ["_law_cell", "_law_k"] (sp_law_mixed K) := by
  refine T.F_law_mixed.ok sc_law_mixed (fun vs H Q E h => ?_) (fun cdv A outer s H vs Q E hr h => ?_)
  · obtain ⟨cell, k, rfl, _⟩ := h; rfl
  · obtain ⟨cell, k, rfl, pre0, q⟩ := h
    have fr := Fr.nil H
    refine ⟨_, (pss_cons (ps_set (i := 2) sc_law_mixed.nd rfl (Or.inl rfl) (pe_op op_mod (pe_op op_mul (pe_op op_add (pe_op op_add (pe_op op_mod (pe_callB call_absI (by rfl) T.m_abs (by decide +kernel) (pa_cons (pv 0) pa_nil)) pe_int) (pe_op op_mul pe_int (pv 1))) pe_int) (pe_op op_add pe_int (pe_op op_mul (pv 1) (pv 1)))) pe_int))
          (pss_one (ps_ret (pe_op op_mod (pe_op op_mul (pv 2) pe_int) pe_int)))), ?_⟩
    refine ⟨_, rfl, _, rfl, _, _, rfl, rfl, (show (0 : Int) < _ by decide), _, rfl, _, _, rfl, rfl, (.inl (by decide)), _, _, rfl, rfl, _, _, rfl, rfl, _, rfl, _, rfl, _, _, rfl, rfl, ?_, _, _, rfl, rfl, _, _, rfl, rfl, ?_, _, _, rfl, rfl, (show (0 : Int) < _ by decide), ?_⟩
    · walk_at "mul"
    · walk_at "mul"
    refine ⟨_, rfl, _, _, rfl, rfl, (.inr (by decide)), _, _, rfl, rfl, (show (0 : Int) < _ by decide), ?_⟩
    exact q _ (((((((((cell.natAbs : Int) % 2147483647) + (97 * k)) + 13) * (16807 + (k * k))) % 2147483647) * 48271) % 2147483647)) (by exact ⟨Int.emod_nonneg _ (by decide), Int.emod_lt_of_pos _ (by decide)⟩) fr.same
def sp_law_marks (K : PySem.W.Frag) : Sp := fun vs H Q _ => ∃ (cell : Int) (most : Int), vs = [V.int cell, V.int most] ∧ (1 ≤ most ∧ most ≤ 400) ∧ (∀ (H1 : Hp) (rA : Addr) (res : List Bool), (1 ≤ res.length ∧ (res.length : Int) ≤ most) → Same H H1 → H rA = none → H1 rA = some (.lst (List.map V.bl res)) → Q (V.ref rA) H1)
theorem sc_law_marks : FnScope ["_law_cell", "_law_most", "_law_many", "_law_rest", "_law_marks_here", "_law_k", "_law_bit"] ["_law_cell", "_law_most"] (defScope s_law_marks) := ⟨rfl, rfl, rfl, by decide +kernel, rfl, by decide +kernel, by decide +kernel⟩
theorem ok_law_marks (T : Txt K mg) : FnOk P w K mg base CX0 2 T.f_law_marks T.fd_law_marks ["_law_cell", "_law_most"] (sp_law_marks K) := by
  refine T.F_law_marks.ok sc_law_marks (fun vs H Q E h => ?_) (fun cdv A outer s H vs Q E hr h => ?_)
  · obtain ⟨cell, most, rfl, _⟩ := h; rfl
  · obtain ⟨cell, most, rfl, pre0, q⟩ := h
    have fr := Fr.nil H
    refine ⟨_, (pss_cons (ps_set (i := 2) sc_law_marks.nd rfl (Or.inl rfl) (pe_op op_add pe_int (pe_op op_mod (pv 0) (pv 1))))
          (pss_cons (ps_set (i := 3) sc_law_marks.nd rfl (Or.inl rfl) (pe_op op_fdiv (pv 0) (pv 1)))
          (pss_cons (ps_set (i := 4) sc_law_marks.nd rfl (Or.inl rfl) (pe_lst pa_nil))
          (pss_cons (ps_for PassesOwn.never rfl (pi_range1 (by rfl) T.m_range (pa_cons (pv 2) pa_nil)) (pg_name (i := 5) sc_law_marks.nd rfl (Or.inl rfl)) (pss_cons (ps_set (i := 6) sc_law_marks.nd rfl (Or.inl rfl) (pe_op op_mod (pv 3) pe_int))
          (pss_cons (ps_set (i := 3) sc_law_marks.nd rfl (Or.inl rfl) (pe_op op_fdiv (pv 3) pe_int))
          (pss_cons (ps_if (pt_cmpR op_ltS (pe_callB call_absI (by rfl) T.m_abs (by decide +kernel) (pa_cons (pv 0) pa_nil)) (pe_op op_powL pe_int pe_int) (nomark _)) (pss_one (ps_set (i := 6) sc_law_marks.nd rfl (Or.inl rfl) (pe_op op_mod (pe_op op_fdiv (pe_call (ok_law_mixed T) (hr.mono (by decide)) (by rfl) T.g_law_mixed T.F_law_mixed.kp T.b_law_mixed .nil pass0 (pa_cons (pv 0) (pa_cons (pe_op op_add (pv 5) pe_int) pa_nil))) pe_int) pe_int))) pss_nil)
          (pss_one (ps_expr (pe_bmK (K := K) (pe_bm PySem.F.plainAttrs_list PySem.F.slot_list_append PySem.F.type_list_append mt_append (pv 4) (pa_cons (pe_cmp (pc_eqI (pv 6) pe_int)) pa_nil)))))))))
          (pss_one (ps_ret (pv 4))))))), ?_⟩
    refine ⟨_, rfl, _, rfl, _, _, rfl, rfl, ?_, _, _, rfl, rfl, ?_⟩
    · walk_at "side"
    dsimp only
    generalize e_law_many_2 : ((1 + (cell % most)) : Int) = many_1
    have hm1 := Int.emod_nonneg cell (show most ≠ 0 by omega)
    have hm2 := Int.emod_lt_of_pos cell (show 0 < most by omega)
    refine ⟨_, rfl, _, rfl, _, _, rfl, rfl, ?_, ?_⟩
    · walk_at "div"
    refine ⟨(Evl.sz_of (show 0 ≤ 100000 by decide)), fun l_3 nl_4 => ?_⟩
    have fr : Fr H _ [(l_3, (.lst [] : HO))] := fr.new nl_4
    have fr : Fr H _ [(l_3, (.lst (List.map V.bl ([])) : HO))] := fr
    refine ⟨_, rfl, _, rfl, ?_, ?_, ?_⟩
    · walk_at "side"
    · walk_at "side"
    refine for_it (walkR (n := (Int.toNat many_1))) (fun (i : Nat) σ H1 => ∃ (rest_5 : Int) (marks_6 : List Bool) (y_7 : Option V) (y_8 : Option V), σ = [some (V.int cell), some (V.int most), some (V.int many_1), some (V.int rest_5), some (V.ref l_3), y_7, y_8] ∧ Fr H H1 [(l_3, (.lst (List.map V.bl marks_6) : HO))] ∧ (marks_6.length = i)) ?_ ?_ ?_ ?_
    · refine ⟨(cell / most), [], _, _, rfl, fr, ?_⟩
      · walk_at "inv"
    · rintro i σ H1 hi ⟨rest_5, marks_6, y_7, y_8, rfl, fr, hl⟩
      exact trivial
    · rintro i_9 x_11 s_14 H_12 H_13 hi_10 ⟨rest_5, marks_6, y_7, y_8, rfl, fr, hl⟩ ⟨rfl, rfl⟩
      refine ⟨_, rfl, _, _, rfl, rfl, (show (0 : Int) < _ by decide), ?_⟩
      refine ⟨_, rfl, _, _, rfl, rfl, ⟨by decide, by decide⟩, ?_⟩
      refine ⟨_, rfl, _, rfl, _, _, 1000000000000000000, rfl, rfl, ⟨by decide, by decide, by decide⟩, (by decide), _, _, rfl, rfl, ?_, ?_⟩
      · intro h15
        refine ⟨_, rfl, ?_⟩
        refine iteT ?_
        refine ⟨_, rfl, _, rfl, _, _, rfl, rfl, cell, (((i_9 : Int) + 200)), rfl, ?_, fun H_16 mixed_17 hp_19 sm_18 => ?_⟩
        · walk_at "side"
        have fr : Fr H _ [(l_3, (.lst (List.map V.bl marks_6) : HO))] := fr.call sm_18
        refine ⟨_, _, rfl, rfl, ⟨by decide, by decide⟩, _, _, rfl, rfl, (show (0 : Int) < _ by decide), ?_⟩
        refine ⟨_, rfl, (.inl ⟨rfl, _, (SqL.of fr.at0)⟩), _, rfl, _, _, rfl, rfl, _, _, _, rfl, rfl, fr.at0, ?_, ?_⟩
        · walk_at "size"
        have fr : Fr H _ [(l_3, (.lst (List.map V.bl ((marks_6 ++ [decide (((mixed_17 / 7) % 2) = 1)]))) : HO))] := Fr.wrk fr 0 rfl (lst_app V.bl _ _)
        refine ⟨(rest_5 / 2), (marks_6 ++ [decide (((mixed_17 / 7) % 2) = 1)]), _, _, rfl, fr, ?_⟩
        · walk_at "inv"
      · intro h15
        refine ⟨_, rfl, ?_⟩
        refine iteF ?_
        refine ⟨_, rfl, (.inl ⟨rfl, _, (SqL.of fr.at0)⟩), _, rfl, _, _, rfl, rfl, _, _, _, rfl, rfl, fr.at0, ?_, ?_⟩
        · walk_at "size"
        have fr : Fr H _ [(l_3, (.lst (List.map V.bl ((marks_6 ++ [decide ((rest_5 % 2) = 1)]))) : HO))] := Fr.wrk fr 0 rfl (lst_app V.bl _ _)
        refine ⟨(rest_5 / 2), (marks_6 ++ [decide ((rest_5 % 2) = 1)]), _, _, rfl, fr, ?_⟩
        · walk_at "inv"
    rintro s_21 H_20 ⟨rest_5, marks_6, y_7, y_8, rfl, fr, hl⟩
    refine ⟨_, rfl, ?_⟩
    exact q _ _ marks_6 (by walk_at "post") fr.same fr.n0 fr.at0
def sp_Pack___init_x {K : PySem.W.Frag} {mg : Str → Option Value} (T : Txt K mg) : Sp := fun vs H Q E => ∃ (a_slf : Addr) (dx_slf : Addr) (n : V) (Hm : Hp), vs = [V.ref a_slf, n] ∧ Lent Hm H ([(a_slf, (.ins T.C_Pack dx_slf [] : HO)), (dx_slf, (.own a_slf : HO))] ++ List.flatten []) ∧ (ThingB Hm n) ∧ (badN n) ∧ (∀ (H1 : Hp) (slf' : PK), (False) → Fr Hm H1 ([] ++ List.flatten [pkOwn T.C_Pack a_slf slf']) → Q (V.non) H1) ∧ (∀ (H1 : Hp), Same H H1 → E (.ref T.C_NoPack) none H1)
theorem sc_Pack___init_x : FnScope ["self", "n"] ["self", "n"] (defScope s_Pack___init) := ⟨rfl, rfl, rfl, by decide +kernel, rfl, by decide +kernel, by decide +kernel⟩
theorem ok_Pack___init_x (T : Txt K mg) : FnOk P w K mg base (L2.CX P w) 2 T.f_Pack___init T.fd_Pack___init ["self", "n"] (sp_Pack___init_x T) := by
  refine T.F_Pack___init.okX sc_Pack___init_x (fun vs H Q E h => ?_) (fun cdv A outer s H vs Q E hr h => ?_)
  · obtain ⟨a_slf, dx_slf, n, Hm, rfl, _⟩ := h; rfl
  · obtain ⟨a_slf, dx_slf, n, Hm, rfl, hl, pre0, pre1, q, qe0⟩ := h
    have fr : Fr Hm H [(a_slf, (.ins T.C_Pack dx_slf [] : HO)), (dx_slf, (.own a_slf : HO))] := hl.fr
    refine ⟨_, (pss_cons (ps_if (PW.pt (pw_or (pt_not (pt_valS (pe_call (ok_is_whole T) (hr.mono (by decide)) (by rfl) T.g_is_whole T.F_is_whole.kp T.b_is_whole .nil pass0 (pa_cons (pv 1) pa_nil)))) (pw_or (pt_cmpR op_ltS (pv 1) pe_int (nomark _)) (pw_or1 (pt_cmpR op_gtS (pv 1) (pe_glob rfl T.c_MOST T.r_MOST) (nomark _)))))) (pss_one (ps_raise rfl (takes_of rfl rfl rfl rfl) (pmk_own PySem.F.excBase_ValueError T.X_NoPack.ex T.X_NoPack.g T.X_NoPack.kp (raises_own T.X_NoPack.c.hs T.X_NoPack.ty) rfl))) pss_nil)
          (pss_cons (ps_fld (pv 0) (pe_call (ok_first T) (hr.mono (by decide)) (by rfl) T.g_first T.F_first.kp T.b_first .nil pass0 (pa_cons (pv 1) pa_nil)) rfl)
          (pss_one (ps_fld (pv 0) (pe_lst pa_nil) rfl)))), ?_⟩
    refine ⟨_, rfl, n, rfl, ?_, fun H_1 is_whole_2 hp_4 sm_3 => ?_⟩
    · exact pre0.at fr.same
    have fr : Fr Hm _ [(a_slf, (.ins T.C_Pack dx_slf [] : HO)), (dx_slf, (.own a_slf : HO))] := fr.call sm_3
    subst hp_4
    refine ⟨_, rfl, ?_, ?_⟩
    · intro h5
      obtain ⟨z_6, ez_7⟩ := wholeV_int h5
      subst ez_7
      refine iteF ?_
      refine ⟨_, rfl, _, _, rfl, rfl, ?_, ?_⟩
      · intro h8
        refine ⟨_, rfl, ?_⟩
        refine iteT ?_
        refine iteT ?_
        exact qe0 _  (hl.all0 (show Fr Hm _ ([(a_slf, (.ins T.C_Pack dx_slf [] : HO)), (dx_slf, (.own a_slf : HO))] ++ List.flatten []) from fr))
      · intro h8
        refine ⟨_, rfl, ?_⟩
        refine iteF ?_
        refine ⟨_, rfl, _, _, rfl, rfl, ?_, ?_⟩
        · intro h9
          refine ⟨_, rfl, ?_⟩
          refine iteT ?_
          exact qe0 _  (hl.all0 (show Fr Hm _ ([(a_slf, (.ins T.C_Pack dx_slf [] : HO)), (dx_slf, (.own a_slf : HO))] ++ List.flatten []) from fr))
        · intro h9
          refine ⟨_, rfl, ?_⟩
          refine iteF ?_
          refine ⟨_, rfl, z_6, rfl, ?_, fun H_10 p_14 first_11 hp_13 sm_12 np_15 ep_16 => ?_⟩
          · omega
          have fr : Fr Hm _ [(p_14, (.lst (List.map V.int first_11) : HO)), (a_slf, (.ins T.C_Pack dx_slf [] : HO)), (dx_slf, (.own a_slf : HO))] := fr.cnew sm_12 np_15 ep_16
          subst hp_13
          refine ⟨_, rfl, _, _, _, _, rfl, fr.at1, T.cl_Pack, T.na_Pack_cards, (by show 0 < 1000; decide), ?_⟩
          have fr : Fr Hm _ [(p_14, (.lst (List.map V.int (((upto (Int.toNat z_6))))) : HO)), (a_slf, (.ins T.C_Pack dx_slf (putF "cards" (.ref p_14) []) : HO)), (dx_slf, (.own a_slf : HO))] := Fr.wrk fr 1 rfl rfl
          refine ⟨(Evl.sz_of (show 0 ≤ 100000 by decide)), fun l_17 nl_18 => ?_⟩
          have fr : Fr Hm _ [(l_17, (.lst [] : HO)), (p_14, (.lst (List.map V.int (((upto (Int.toNat z_6))))) : HO)), (a_slf, (.ins T.C_Pack dx_slf (putF "cards" (.ref p_14) []) : HO)), (dx_slf, (.own a_slf : HO))] := fr.new nl_18
          refine ⟨_, rfl, _, _, _, _, rfl, fr.at2, T.cl_Pack, T.na_Pack_past, (by show 1 < 1000; decide), ?_⟩
          have fr : Fr Hm _ [(l_17, (.lst [] : HO)), (p_14, (.lst (List.map V.int (((upto (Int.toNat z_6))))) : HO)), (a_slf, (.ins T.C_Pack dx_slf (pkF p_14 l_17) : HO)), (dx_slf, (.own a_slf : HO))] := Fr.wrk fr 2 rfl rfl
          have fr : Fr Hm _ ([(l_17, (.lst (List.map peRef (([] : List PE))) : HO)), (p_14, (.lst (List.map V.int (((upto (Int.toNat z_6))))) : HO)), (a_slf, (.ins T.C_Pack dx_slf (pkF p_14 l_17) : HO)), (dx_slf, (.own a_slf : HO))] ++ List.flatten [pesOwn (([] : List PE))]) := fr
          have fr : Fr Hm _ ([(p_14, (.lst (List.map V.int (((upto (Int.toNat z_6))))) : HO)), (l_17, (.lst (List.map peRef (([] : List PE))) : HO)), (a_slf, (.ins T.C_Pack dx_slf (pkF p_14 l_17) : HO)), (dx_slf, (.own a_slf : HO))] ++ List.flatten [pesOwn (([] : List PE))]) := Fr.upk fr 1 rfl
          have fr : Fr Hm _ ([(dx_slf, (.own a_slf : HO)), (p_14, (.lst (List.map V.int (((upto (Int.toNat z_6))))) : HO)), (l_17, (.lst (List.map peRef (([] : List PE))) : HO)), (a_slf, (.ins T.C_Pack dx_slf (pkF p_14 l_17) : HO))] ++ List.flatten [pesOwn (([] : List PE))]) := Fr.upk fr 3 rfl
          have fr : Fr Hm _ ([(a_slf, (.ins T.C_Pack dx_slf (pkF p_14 l_17) : HO)), (dx_slf, (.own a_slf : HO)), (p_14, (.lst (List.map V.int (((upto (Int.toNat z_6))))) : HO)), (l_17, (.lst (List.map peRef (([] : List PE))) : HO))] ++ List.flatten [pesOwn (([] : List PE))]) := Fr.upk fr 3 rfl
          have fr : Fr Hm _ ([] ++ List.flatten [pkOwn T.C_Pack a_slf ((⟨dx_slf, p_14, l_17, ([] : List PE), ((upto (Int.toNat z_6)))⟩ : PK))]) := Fr.pkclose (pre := []) (ts := []) fr
          exact q _ (⟨dx_slf, p_14, l_17, ([] : List PE), ((upto (Int.toNat z_6)))⟩ : PK) (by have hbn := pre1 _ rfl; omega)  fr
    · intro h5
      refine iteT ?_
      refine iteT ?_
      exact qe0 _  (hl.all0 (show Fr Hm _ ([(a_slf, (.ins T.C_Pack dx_slf [] : HO)), (dx_slf, (.own a_slf : HO))] ++ List.flatten []) from fr))
def sp_law_words_e {K : PySem.W.Frag} {mg : Str → Option Value} (T : Txt K mg) : Addr → Addr → Sp := fun a D vs H Q _ => vs = [V.ref a] ∧ ((D = T.C_NoPack ∧ (∀ (H1 : Hp) (rA : Addr) (res : List V), (res = [V.str "pack"]) → Same H H1 → H rA = none → H1 rA = some (.lst res) → Q (V.ref rA) H1)) ∨ (D = T.C_NoMarks ∧ (∀ (H1 : Hp) (rA : Addr) (res : List V), (res = [V.str "marks"]) → Same H H1 → H rA = none → H1 rA = some (.lst res) → Q (V.ref rA) H1)) ∨ (D = T.C_NoRiffle ∧ (∀ (H1 : Hp) (rA : Addr) (res : List V), (res = [V.str "riffle"]) → Same H H1 → H rA = none → H1 rA = some (.lst res) → Q (V.ref rA) H1)))
theorem sc_law_words_e : FnScope ["_law_e", "_law_row"] ["_law_e"] (defScope s_law_words) := ⟨rfl, rfl, rfl, by decide +kernel, rfl, by decide +kernel, by decide +kernel⟩
theorem ok_law_words_e (T : Txt K mg) : FnE P w K mg base 1 T.f_law_words T.fd_law_words ["_law_e"] (sp_law_words_e T) := by
  refine Rc.Fun.okE T.F_law_words sc_law_words_e (fun a D vs H Q E h => ?_) (fun cdv A outer s H vs Q E p D hot hr h => ?_)
  · obtain ⟨rfl, _⟩ := h; rfl
  · obtain ⟨rfl, h⟩ := h
    have fr := Fr.nil H
    refine ⟨_, (pss_cons (ps_set (i := 1) sc_law_words_e.nd rfl (Or.inl rfl) (pe_lst pa_nil))
          (pss_cons (ps_if (pt_valS (pe_callB (show CallR _ _ (rIsP K p.1 (.ref D) none) from call_isP (a := p.1) (oe := p.2) hot.cl hot.dt List.mem_cons_self) (by rfl) T.m_isinstance (by decide +kernel) (pa_cons (pv 0) (pa_cons (pe_glob rfl T.X_NoPack.g (show RelV (.ref T.C_NoPack) (.ref T.C_NoPack) from rfl)) pa_nil)))) (pss_one (ps_expr (pe_bmK (K := K) (pe_bm PySem.F.plainAttrs_list PySem.F.slot_list_append PySem.F.type_list_append mt_append (pv 1) (pa_cons pe_str pa_nil))))) pss_nil)
          (pss_cons (ps_if (pt_valS (pe_callB (show CallR _ _ (rIsP K p.1 (.ref D) none) from call_isP (a := p.1) (oe := p.2) hot.cl hot.dt List.mem_cons_self) (by rfl) T.m_isinstance (by decide +kernel) (pa_cons (pv 0) (pa_cons (pe_glob rfl T.X_NoMarks.g (show RelV (.ref T.C_NoMarks) (.ref T.C_NoMarks) from rfl)) pa_nil)))) (pss_one (ps_expr (pe_bmK (K := K) (pe_bm PySem.F.plainAttrs_list PySem.F.slot_list_append PySem.F.type_list_append mt_append (pv 1) (pa_cons pe_str pa_nil))))) pss_nil)
          (pss_cons (ps_if (pt_valS (pe_callB (show CallR _ _ (rIsP K p.1 (.ref D) none) from call_isP (a := p.1) (oe := p.2) hot.cl hot.dt List.mem_cons_self) (by rfl) T.m_isinstance (by decide +kernel) (pa_cons (pv 0) (pa_cons (pe_glob rfl T.X_NoRiffle.g (show RelV (.ref T.C_NoRiffle) (.ref T.C_NoRiffle) from rfl)) pa_nil)))) (pss_one (ps_expr (pe_bmK (K := K) (pe_bm PySem.F.plainAttrs_list PySem.F.slot_list_append PySem.F.type_list_append mt_append (pv 1) (pa_cons pe_str pa_nil))))) pss_nil)
          (pss_cons (ps_if (PW.pt (pw_or (pt_valS (pe_callB (show CallR _ _ (rIsP K p.1 (.ref D) none) from call_isP (a := p.1) (oe := p.2) hot.cl hot.dt List.mem_cons_self) (by rfl) T.m_isinstance (by decide +kernel) (pa_cons (pv 0) (pa_cons (pe_glob rfl T.X_NoWay.g (show RelV (.ref T.C_NoWay) (.ref T.C_NoWay) from rfl)) pa_nil)))) (pw_or (pt_valS (pe_callB (show CallR _ _ (rIsP K p.1 (.ref D) none) from call_isP (a := p.1) (oe := p.2) hot.cl hot.dt List.mem_cons_self) (by rfl) T.m_isinstance (by decide +kernel) (pa_cons (pv 0) (pa_cons (pe_glob rfl T.X_TooMany.g (show RelV (.ref T.C_TooMany) (.ref T.C_TooMany) from rfl)) pa_nil)))) (pw_or (pt_valS (pe_callB (show CallR _ _ (rIsP K p.1 (.ref D) none) from call_isP (a := p.1) (oe := p.2) hot.cl hot.dt List.mem_cons_self) (by rfl) T.m_isinstance (by decide +kernel) (pa_cons (pv 0) (pa_cons (pe_glob rfl T.X_NoFigures.g (show RelV (.ref T.C_NoFigures) (.ref T.C_NoFigures) from rfl)) pa_nil)))) (pw_or1 (pt_valS (pe_callB (show CallR _ _ (rIsP K p.1 (.ref D) none) from call_isP (a := p.1) (oe := p.2) hot.cl hot.dt List.mem_cons_self) (by rfl) T.m_isinstance (by decide +kernel) (pa_cons (pv 0) (pa_cons (pe_glob rfl T.X_NoText.g (show RelV (.ref T.C_NoText) (.ref T.C_NoText) from rfl)) pa_nil))))))))) (pss_one (ps_expr (pe_bmK (K := K) (pe_bm PySem.F.plainAttrs_list PySem.F.slot_list_append PySem.F.type_list_append mt_append (pv 1) (pa_cons pe_str pa_nil))))) pss_nil)
          (pss_one (ps_ret (pv 1)))))))), ?_⟩
    rcases h with ⟨rfl, q⟩ | ⟨rfl, q⟩ | ⟨rfl, q⟩
    · refine ⟨(Evl.sz_of (show 0 ≤ 100000 by decide)), fun l_1 nl_2 => ?_⟩
      have fr : Fr H _ [(l_1, (.lst [] : HO))] := fr.new nl_2
      have fr : Fr H _ [(l_1, (.lst ([]) : HO))] := fr
      refine ⟨_, rfl, _, _, _, _, rfl, rfl, T.X_NoPack.c, rfl, rel_ref, (T.X_NoPack.kit T.S_NoPack_NoPack (fun z => nomatch z)), _, rfl, fun _ => ?_, (fun h => nomatch h)⟩
      refine iteT ?_
      refine ⟨_, rfl, (.inl ⟨rfl, _, (SqL.of fr.at0)⟩), _, _, _, rfl, rfl, fr.at0, ?_, ?_⟩
      · walk_at "size"
      have fr : Fr H _ [(l_1, (.lst (([] ++ [(V.str ("pack"))])) : HO))] := Fr.wrk fr 0 rfl rfl
      refine ⟨_, rfl, _, _, _, _, rfl, rfl, T.X_NoPack.c, rfl, rel_ref, (T.X_NoMarks.kit T.S_NoPack_NoMarks (fun _ => T.N_NoPack_NoMarks)), _, rfl, (fun h => nomatch h), fun _ => ?_⟩
      refine iteF ?_
      refine ⟨_, rfl, _, _, _, _, rfl, rfl, T.X_NoPack.c, rfl, rel_ref, (T.X_NoRiffle.kit T.S_NoPack_NoRiffle (fun _ => T.N_NoPack_NoRiffle)), _, rfl, (fun h => nomatch h), fun _ => ?_⟩
      refine iteF ?_
      refine ⟨_, rfl, _, _, _, _, rfl, rfl, T.X_NoPack.c, rfl, rel_ref, (T.X_NoWay.kit T.S_NoPack_NoWay (fun _ => T.N_NoPack_NoWay)), _, rfl, (fun h => nomatch h), fun _ => ?_⟩
      refine iteF ?_
      refine ⟨_, rfl, _, _, _, _, rfl, rfl, T.X_NoPack.c, rfl, rel_ref, (T.X_TooMany.kit T.S_NoPack_TooMany (fun _ => T.N_NoPack_TooMany)), _, rfl, (fun h => nomatch h), fun _ => ?_⟩
      refine iteF ?_
      refine ⟨_, rfl, _, _, _, _, rfl, rfl, T.X_NoPack.c, rfl, rel_ref, (T.X_NoFigures.kit T.S_NoPack_NoFigures (fun _ => T.N_NoPack_NoFigures)), _, rfl, (fun h => nomatch h), fun _ => ?_⟩
      refine iteF ?_
      refine ⟨_, rfl, _, _, _, _, rfl, rfl, T.X_NoPack.c, rfl, rel_ref, (T.X_NoText.kit T.S_NoPack_NoText (fun _ => T.N_NoPack_NoText)), _, rfl, (fun h => nomatch h), fun _ => ?_⟩
      refine iteF ?_
      refine ⟨_, rfl, ?_⟩
      exact q _ _ (([] ++ [(V.str ("pack"))])) (by rfl) fr.same fr.n0 fr.at0
    · refine ⟨(Evl.sz_of (show 0 ≤ 100000 by decide)), fun l_3 nl_4 => ?_⟩
      have fr : Fr H _ [(l_3, (.lst [] : HO))] := fr.new nl_4
      have fr : Fr H _ [(l_3, (.lst ([]) : HO))] := fr
      refine ⟨_, rfl, _, _, _, _, rfl, rfl, T.X_NoMarks.c, rfl, rel_ref, (T.X_NoPack.kit T.S_NoMarks_NoPack (fun _ => T.N_NoMarks_NoPack)), _, rfl, (fun h => nomatch h), fun _ => ?_⟩
      refine iteF ?_
      refine ⟨_, rfl, _, _, _, _, rfl, rfl, T.X_NoMarks.c, rfl, rel_ref, (T.X_NoMarks.kit T.S_NoMarks_NoMarks (fun z => nomatch z)), _, rfl, fun _ => ?_, (fun h => nomatch h)⟩
      refine iteT ?_
      refine ⟨_, rfl, (.inl ⟨rfl, _, (SqL.of fr.at0)⟩), _, _, _, rfl, rfl, fr.at0, ?_, ?_⟩
      · walk_at "size"
      have fr : Fr H _ [(l_3, (.lst (([] ++ [(V.str ("marks"))])) : HO))] := Fr.wrk fr 0 rfl rfl
      refine ⟨_, rfl, _, _, _, _, rfl, rfl, T.X_NoMarks.c, rfl, rel_ref, (T.X_NoRiffle.kit T.S_NoMarks_NoRiffle (fun _ => T.N_NoMarks_NoRiffle)), _, rfl, (fun h => nomatch h), fun _ => ?_⟩
      refine iteF ?_
      refine ⟨_, rfl, _, _, _, _, rfl, rfl, T.X_NoMarks.c, rfl, rel_ref, (T.X_NoWay.kit T.S_NoMarks_NoWay (fun _ => T.N_NoMarks_NoWay)), _, rfl, (fun h => nomatch h), fun _ => ?_⟩
      refine iteF ?_
      refine ⟨_, rfl, _, _, _, _, rfl, rfl, T.X_NoMarks.c, rfl, rel_ref, (T.X_TooMany.kit T.S_NoMarks_TooMany (fun _ => T.N_NoMarks_TooMany)), _, rfl, (fun h => nomatch h), fun _ => ?_⟩
      refine iteF ?_
      refine ⟨_, rfl, _, _, _, _, rfl, rfl, T.X_NoMarks.c, rfl, rel_ref, (T.X_NoFigures.kit T.S_NoMarks_NoFigures (fun _ => T.N_NoMarks_NoFigures)), _, rfl, (fun h => nomatch h), fun _ => ?_⟩
      refine iteF ?_
      refine ⟨_, rfl, _, _, _, _, rfl, rfl, T.X_NoMarks.c, rfl, rel_ref, (T.X_NoText.kit T.S_NoMarks_NoText (fun _ => T.N_NoMarks_NoText)), _, rfl, (fun h => nomatch h), fun _ => ?_⟩
      refine iteF ?_
      refine ⟨_, rfl, ?_⟩
      exact q _ _ (([] ++ [(V.str ("marks"))])) (by rfl) fr.same fr.n0 fr.at0
    · refine ⟨(Evl.sz_of (show 0 ≤ 100000 by decide)), fun l_5 nl_6 => ?_⟩
      have fr : Fr H _ [(l_5, (.lst [] : HO))] := fr.new nl_6
      have fr : Fr H _ [(l_5, (.lst ([]) : HO))] := fr
      refine ⟨_, rfl, _, _, _, _, rfl, rfl, T.X_NoRiffle.c, rfl, rel_ref, (T.X_NoPack.kit T.S_NoRiffle_NoPack (fun _ => T.N_NoRiffle_NoPack)), _, rfl, (fun h => nomatch h), fun _ => ?_⟩
      refine iteF ?_
      refine ⟨_, rfl, _, _, _, _, rfl, rfl, T.X_NoRiffle.c, rfl, rel_ref, (T.X_NoMarks.kit T.S_NoRiffle_NoMarks (fun _ => T.N_NoRiffle_NoMarks)), _, rfl, (fun h => nomatch h), fun _ => ?_⟩
      refine iteF ?_
      refine ⟨_, rfl, _, _, _, _, rfl, rfl, T.X_NoRiffle.c, rfl, rel_ref, (T.X_NoRiffle.kit T.S_NoRiffle_NoRiffle (fun z => nomatch z)), _, rfl, fun _ => ?_, (fun h => nomatch h)⟩
      refine iteT ?_
      refine ⟨_, rfl, (.inl ⟨rfl, _, (SqL.of fr.at0)⟩), _, _, _, rfl, rfl, fr.at0, ?_, ?_⟩
      · walk_at "size"
      have fr : Fr H _ [(l_5, (.lst (([] ++ [(V.str ("riffle"))])) : HO))] := Fr.wrk fr 0 rfl rfl
      refine ⟨_, rfl, _, _, _, _, rfl, rfl, T.X_NoRiffle.c, rfl, rel_ref, (T.X_NoWay.kit T.S_NoRiffle_NoWay (fun _ => T.N_NoRiffle_NoWay)), _, rfl, (fun h => nomatch h), fun _ => ?_⟩
      refine iteF ?_
      refine ⟨_, rfl, _, _, _, _, rfl, rfl, T.X_NoRiffle.c, rfl, rel_ref, (T.X_TooMany.kit T.S_NoRiffle_TooMany (fun _ => T.N_NoRiffle_TooMany)), _, rfl, (fun h => nomatch h), fun _ => ?_⟩
      refine iteF ?_
      refine ⟨_, rfl, _, _, _, _, rfl, rfl, T.X_NoRiffle.c, rfl, rel_ref, (T.X_NoFigures.kit T.S_NoRiffle_NoFigures (fun _ => T.N_NoRiffle_NoFigures)), _, rfl, (fun h => nomatch h), fun _ => ?_⟩
      refine iteF ?_
      refine ⟨_, rfl, _, _, _, _, rfl, rfl, T.X_NoRiffle.c, rfl, rel_ref, (T.X_NoText.kit T.S_NoRiffle_NoText (fun _ => T.N_NoRiffle_NoText)), _, rfl, (fun h => nomatch h), fun _ => ?_⟩
      refine iteF ?_
      refine ⟨_, rfl, ?_⟩
      exact q _ _ (([] ++ [(V.str ("riffle"))])) (by rfl) fr.same fr.n0 fr.at0
def sp_law_no_pack (K : PySem.W.Frag) : Sp := fun vs H Q _ => ∃ (thing : V), vs = [thing] ∧ (ThingB H thing) ∧ (badN thing) ∧ (∀ (H1 : Hp) (res : Bool), (res = true) → Same H H1 → Q (V.bl res) H1)
theorem sc_law_no_pack : FnScope ["_law_thing", "_law_e"] ["_law_thing"] (defScope s_law_no_pack) := ⟨rfl, rfl, rfl, by decide +kernel, rfl, by decide +kernel, by decide +kernel⟩
theorem ok_law_no_pack (T : Txt K mg) : FnOk P w K mg base CX0 4 T.f_law_no_pack T.fd_law_no_pack ["_law_thing"] (sp_law_no_pack K) := by
  refine T.F_law_no_pack.ok sc_law_no_pack (fun vs H Q E h => ?_) (fun cdv A outer s H vs Q E hr h => ?_)
  · obtain ⟨thing, rfl, _⟩ := h; rfl
  · obtain ⟨thing, rfl, pre0, pre1, q⟩ := h
    have fr := Fr.nil H
    refine ⟨_, (pss_cons (ps_try_as (i := 1) (Wout := fun _ _ _ _ => False) rfl rfl sc_law_no_pack.nd rfl rfl ⟨rfl, by decide, .inl T.X_RiftError.g⟩ takes0 (fun W xpn xxe xtk _ => (pss_one (ps_expr (pe_makeX T.mk_Pack (ok_Pack___init_x T) (hr.mono (by decide)) (by rfl) T.mg_Pack T.b_Pack___init (fun σ => passAt xtk σ) (pa_cons (pv 0) pa_nil))))) (fun xa xoe xcls xd xpn xhz xhf => (pss_one (ps_ret (pe_cmpR (show OpR _ _ (rEqX K) from op_eqX (hu64S hr)) (pe_callE xhz xhf (ok_law_words_e T) (roomS (hr.mono (by decide))) (by rfl) T.g_law_words T.F_law_words.kp T.b_law_words (pa_cons (pv 1) pa_nil)) (pe_lst (pa_cons pe_str pa_nil)) (nomark _))))))
          (pss_one (ps_ret pe_bl))), ?_⟩
    refine ⟨_, rfl, fun ob_1 dx_2 nob_3 ndx_4 nex_5 => ?_⟩
    have fr : Fr H _ [(ob_1, (.ins T.C_Pack dx_2 [] : HO)), (dx_2, (.own ob_1 : HO))] := Fr.made fr nob_3 ndx_4 nex_5
    have fr : Fr H _ [(dx_2, (.own ob_1 : HO)), (ob_1, (.ins T.C_Pack dx_2 [] : HO))] := Fr.upk fr 1 rfl
    have fr : Fr H _ [(ob_1, (.ins T.C_Pack dx_2 [] : HO)), (dx_2, (.own ob_1 : HO))] := Fr.upk fr 1 rfl
    have frF_6 := Fr.split (bpre := [(ob_1, (.ins T.C_Pack dx_2 [] : HO)), (dx_2, (.own ob_1 : HO))]) (pre := []) (bts := []) (ts := []) fr
    have fr : Fr H _ [] := Fr.mn frF_6
    refine ⟨ob_1, dx_2, thing, _, rfl, (Fr.lent frF_6), ?_, ?_, ?_, ?_⟩
    · exact pre0.mono fr.same
    · exact pre1
    · intro H_7 k_9 hp_10 ff_8
      exfalso
      exact hp_10
    · intro H_11  sm_12
      have fr : Fr H _ [(ob_1, (.ins T.C_Pack dx_2 [] : HO)), (dx_2, (.own ob_1 : HO))] := (Fr.unsplit (bpre := [(ob_1, (.ins T.C_Pack dx_2 [] : HO)), (dx_2, (.own ob_1 : HO))]) (pre := []) (bts := []) (ts := []) frF_6).call sm_12
      refine ⟨true, T.X_RiftError.exm T.S_NoPack_RiftError, fun _ ax_13 _ => ?_, fun q => nomatch q⟩
      refine ⟨_, rfl, rfl, _, rfl, rfl, (.inl ⟨rfl, fun H_14 p_18 law_words_15 hp_17 sm_16 np_19 ep_20 => ?_⟩)⟩
      subst hp_17
      have fr : Fr H _ [(p_18, (.lst ([V.str "pack"]) : HO)), (ob_1, (.ins T.C_Pack dx_2 [] : HO)), (dx_2, (.own ob_1 : HO))] := fr.cnew sm_16 np_19 ep_20
      refine ⟨(Evl.sz_of (show 1 ≤ 100000 by decide)), fun l_21 nl_22 => ?_⟩
      have fr : Fr H _ [(l_21, (.lst ([(V.str ("pack"))]) : HO)), (p_18, (.lst ([V.str "pack"]) : HO)), (ob_1, (.ins T.C_Pack dx_2 [] : HO)), (dx_2, (.own ob_1 : HO))] := fr.new nl_22
      refine ⟨_, _, true, (dp_vals fr.at1 (by walk_at "sca")), (dp_vals fr.at0 (by walk_at "sca")), (Okd.sh (okd_vals (by walk_at "sca"))), (Okd.sh (okd_vals (by walk_at "sca"))), (by exact eqv_same rfl (by decide +kernel)), ?_⟩
      exact q _ true (by rfl) fr.same
def sp_law_packs (K : PySem.W.Frag) : Sp := fun vs H Q _ => ∃ (cell : Int), vs = [V.int cell] ∧ (∀ (H1 : Hp) (res : Bool), (res = true) → Same H H1 → Q (V.bl res) H1)
theorem sc_law_packs : FnScope ["_law_cell", "_law_beyond", "_law_thing"] ["_law_cell"] (defScope s_law_packs) := ⟨rfl, rfl, rfl, by decide +kernel, rfl, by decide +kernel, by decide +kernel⟩
theorem ok_law_packs (T : Txt K mg) : FnOk P w K mg base CX0 5 T.f_law_packs T.fd_law_packs ["_law_cell"] (sp_law_packs K) := by
  refine T.F_law_packs.ok sc_law_packs (fun vs H Q E h => ?_) (fun cdv A outer s H vs Q E hr h => ?_)
  · obtain ⟨cell, rfl, _⟩ := h; rfl
  · obtain ⟨cell, rfl, q⟩ := h
    have fr := Fr.nil H
    refine ⟨_, (pss_cons (ps_set (i := 1) sc_law_packs.nd rfl (Or.inl rfl) (pe_op op_mod (pe_op op_fdiv (pv 0) pe_int) (pe_op op_powL pe_int pe_int)))
          (pss_cons (ps_for PassesOwn.never rfl (pi_list (pe_lst (pa_cons pe_int (pa_cons pe_int (pa_cons (pe_op op_add pe_int (pv 1)) (pa_cons (pe_op op_sub (pe_un un_neg pe_int) (pv 1)) (pa_cons pe_bl (pa_cons pe_bl (pa_cons pe_non (pa_cons pe_str (pa_cons (pe_lst (pa_cons pe_int pa_nil)) (pa_cons (pe_tup (pa_cons pe_int pa_nil)) pa_nil)))))))))))) (pg_name (i := 2) sc_law_packs.nd rfl (Or.inl rfl)) (pss_one (ps_if (pt_not (pt_valS (pe_call (ok_law_no_pack T) (hr.mono (by decide)) (by rfl) T.g_law_no_pack T.F_law_no_pack.kp T.b_law_no_pack .nil pass0 (pa_cons (pv 2) pa_nil)))) (pss_one (ps_ret pe_bl)) pss_nil)))
          (pss_one (ps_ret pe_bl)))), ?_⟩
    refine ⟨_, rfl, _, _, rfl, rfl, ⟨by decide, by decide⟩, _, _, 1000000000000000000000000000000, rfl, rfl, ⟨by decide, by decide, by decide⟩, (by decide), _, _, rfl, rfl, (show (0 : Int) < _ by decide), ?_⟩
    dsimp only
    generalize e_law_beyond_2 : (((cell / 3) % 1000000000000000000000000000000) : Int) = beyond_1
    have hbe := Int.emod_nonneg (cell / 3) (show (10 ^ 30 : Int) ≠ 0 by decide)
    refine ⟨_, rfl, _, _, rfl, rfl, _, rfl, _, rfl, _, _, rfl, rfl, (Evl.sz_of (show 1 ≤ 100000 by decide)), fun l_3 nl_4 => ?_⟩
    have fr : Fr H _ [(l_3, (.lst (List.map V.int ([3])) : HO))] := fr.new nl_4
    refine ⟨(Evl.sz_of (show 1 ≤ 100000 by decide)), fun t_5 nt_6 => ?_⟩
    have fr : Fr H _ [(t_5, (.tup [(V.int 3)] : HO)), (l_3, (.lst (List.map V.int ([3])) : HO))] := fr.new nt_6
    refine ⟨(Evl.sz_of (show 10 ≤ 100000 by decide)), fun l_7 nl_8 => ?_⟩
    have fr : Fr H _ [(l_7, (.lst ([(V.int 0), (V.int 61), (V.int ((61 + beyond_1))), (V.int (((-1) - beyond_1))), (V.bl true), (V.bl false), V.non, (V.str ("7")), (V.ref l_3), (V.ref t_5)]) : HO)), (t_5, (.tup [(V.int 3)] : HO)), (l_3, (.lst (List.map V.int ([3])) : HO))] := fr.new nl_8
    refine ⟨_, rfl, ⟨_, (SqL.of fr.at0)⟩, ?_⟩
    refine for_it (walkV ([(V.int 0), (V.int 61), (V.int ((61 + beyond_1))), (V.int (((-1) - beyond_1))), (V.bl true), (V.bl false), V.non, (V.str ("7")), (V.ref l_3), (V.ref t_5)])) (fun (i : Nat) σ H1 => ∃ (y_9 : Option V), σ = [some (V.int cell), some (V.int beyond_1), y_9] ∧ Fr H H1 [(l_7, (.lst ([(V.int 0), (V.int 61), (V.int ((61 + beyond_1))), (V.int (((-1) - beyond_1))), (V.bl true), (V.bl false), V.non, (V.str ("7")), (V.ref l_3), (V.ref t_5)]) : HO)), (t_5, (.tup [(V.int 3)] : HO)), (l_3, (.lst (List.map V.int ([3])) : HO))]) ?_ ?_ ?_ ?_
    · refine ⟨_, rfl, fr⟩
    · rintro i σ H1 hi ⟨y_9, rfl, fr⟩
      exact fr.at0
    · rintro i_10 x_12 s_15 H_13 H_14 hi_11 ⟨y_9, rfl, fr⟩ ⟨rfl, hy_17⟩
      have hm := List.mem_of_getElem? hy_17
      simp only [List.mem_cons, List.not_mem_nil, or_false] at hm
      have hth := at_fr fr (P := fun HH => ThingB HH x_12 ∧ badN x_12) (by
        rcases hm with h | h | h | h | h | h | h | h | h | h <;> rw [h] <;> refine ⟨?_, ?_⟩ <;> first | exact .inl rfl | exact .inl (by decide +kernel) | exact .inr ⟨_, _, rfl, .inl (Fr.atk fr 2 rfl)⟩ | exact .inr ⟨_, _, rfl, .inr (Fr.atk fr 1 rfl)⟩ | exact badN_int (by omega) | exact badN_no (fun _ z => nomatch z))
      refine ⟨_, rfl, x_12, rfl, ?_, ?_, fun H_18 no_pack_19 hp_21 sm_20 => ?_⟩
      · exact hth.1
      · exact hth.2
      have fr : Fr H _ [(l_7, (.lst ([(V.int 0), (V.int 61), (V.int ((61 + beyond_1))), (V.int (((-1) - beyond_1))), (V.bl true), (V.bl false), V.non, (V.str ("7")), (V.ref l_3), (V.ref t_5)]) : HO)), (t_5, (.tup [(V.int 3)] : HO)), (l_3, (.lst (List.map V.int ([3])) : HO))] := fr.call sm_20
      subst hp_21
      refine ⟨_, rfl, fun _ => ?_, (fun h => nomatch h)⟩
      refine iteF ?_
      refine ⟨_, rfl, fr⟩
    rintro s_23 H_22 ⟨y_9, rfl, fr⟩
    have fr : Fr H _ [(t_5, (.tup [(V.int 3)] : HO)), (l_3, (.lst (List.map V.int ([3])) : HO))] := Fr.dk fr 0
    have fr : Fr H _ [(l_3, (.lst (List.map V.int ([3])) : HO))] := Fr.dk fr 0
    have fr : Fr H _ [] := Fr.dk fr 0
    exact q _ true (by rfl) fr.same
def sp_must_be_word_x {K : PySem.W.Frag} {mg : Str → Option Value} (T : Txt K mg) : Sp := fun vs H Q E => ∃ (a_marks : Addr) (marks : List Bool) (a_word : Addr) (word : List V) (n : Int), vs = [V.ref a_marks, V.ref a_word, V.int n] ∧ H a_marks = some (.lst (List.map V.bl marks)) ∧ H a_word = some (.lst word) ∧ (Sca word) ∧ (word.length ≤ 1000) ∧ (∀ (H1 : Hp), (isWordV marks.length word n = true) → Same H H1 → Q V.non H1) ∧ (∀ (H1 : Hp), (isWordV marks.length word n = false) → Same H H1 → E (.ref T.C_NoRiffle) none H1)
theorem sc_must_be_word_x : FnScope ["marks", "word", "n"] ["marks", "word", "n"] (defScope s_must_be_word) := ⟨rfl, rfl, rfl, by decide +kernel, rfl, by decide +kernel, by decide +kernel⟩
theorem ok_must_be_word_x (T : Txt K mg) : FnOk P w K mg base (L2.CX P w) 3 T.f_must_be_word T.fd_must_be_word ["marks", "word", "n"] (sp_must_be_word_x T) := by
  refine T.F_must_be_word.okX sc_must_be_word_x (fun vs H Q E h => ?_) (fun cdv A outer s H vs Q E hr h => ?_)
  · obtain ⟨a_marks, marks, a_word, word, n, rfl, _⟩ := h; rfl
  · obtain ⟨a_marks, marks, a_word, word, n, rfl, h_marks, h_word, pre0, pre1, q, qe0⟩ := h
    have fr := Fr.nil H
    refine ⟨_, (pss_one (ps_if (pt_not (pt_valS (pe_call (ok_is_word T) (hr.mono (by decide)) (by rfl) T.g_is_word T.F_is_word.kp T.b_is_word .nil pass0 (pa_cons (pv 0) (pa_cons (pv 1) (pa_cons (pv 2) pa_nil)))))) (pss_one (ps_raise rfl (takes_of rfl rfl rfl rfl) (pmk_own PySem.F.excBase_ValueError T.X_NoRiffle.ex T.X_NoRiffle.g T.X_NoRiffle.kp (raises_own T.X_NoRiffle.c.hs T.X_NoRiffle.ty) rfl))) pss_nil)), ?_⟩
    refine ⟨_, rfl, _, rfl, _, rfl, a_marks, marks, a_word, word, n, rfl, (fr.same _ _ h_marks), (fr.same _ _ h_word), ?_, ?_, fun H_1 is_word_2 hp_4 sm_3 => ?_⟩
    · assumption
    · assumption
    have fr : Fr H _ [] := fr.call sm_3
    subst hp_4
    refine ⟨_, rfl, ?_, ?_⟩
    · intro h5
      refine iteF ?_
      exact q _ (by walk_at "post") fr.same
    · intro h5
      refine iteT ?_
      exact qe0 _ (by walk_at "post") fr.same
def sp_riffled_x {K : PySem.W.Frag} {mg : Str → Option Value} (T : Txt K mg) : Sp := fun vs H Q E => ∃ (a_order : Addr) (order : List Int) (a_marks : Addr) (marks : List Bool) (a_word : Addr) (word : List V), vs = [V.ref a_order, V.ref a_marks, V.ref a_word] ∧ H a_order = some (.lst (List.map V.int order)) ∧ H a_marks = some (.lst (List.map V.bl marks)) ∧ H a_word = some (.lst word) ∧ (Sca word) ∧ (word.length ≤ 1000) ∧ (isWordV marks.length word (order.length : Int) = false) ∧ (∀ (H1 : Hp), (False) → Same H H1 → Q V.non H1) ∧ (∀ (H1 : Hp), Same H H1 → E (.ref T.C_NoRiffle) none H1)
theorem sc_riffled_x : FnScope ["order", "marks", "word", "place"] ["order", "marks", "word"] (defScope s_riffled) := ⟨rfl, rfl, rfl, by decide +kernel, rfl, by decide +kernel, by decide +kernel⟩
theorem ok_riffled_x (T : Txt K mg) : FnOk P w K mg base (L2.CX P w) 4 T.f_riffled T.fd_riffled ["order", "marks", "word"] (sp_riffled_x T) := by
  refine T.F_riffled.okX sc_riffled_x (fun vs H Q E h => ?_) (fun cdv A outer s H vs Q E hr h => ?_)
  · obtain ⟨a_order, order, a_marks, marks, a_word, word, rfl, _⟩ := h; rfl
  · obtain ⟨a_order, order, a_marks, marks, a_word, word, rfl, h_order, h_marks, h_word, pre0, pre1, pre2, q, qe0⟩ := h
    have fr := Fr.nil H
    refine ⟨_, (pss_cons (ps_expr (pe_callS (ok_must_be_word_x T) (hr.mono (by decide)) (by rfl) T.g_must_be_word T.F_must_be_word.kp T.b_must_be_word (fun σ => passAt (takes_of rfl rfl rfl rfl) σ) (pa_cons (pv 1) (pa_cons (pv 2) (pa_cons (pe_callB (show CallR _ _ (rLenL K) from call_lenL) (by rfl) T.m_len (by decide +kernel) (pa_cons (pv 0) pa_nil)) pa_nil)))))
          (pss_one (ps_ret (pe_lc (own := [("place", 3)]) (g := gName 3) (tt := tYes) rfl sc_riffled_x.nd (pi_list (pe_call (ok_numbers_in T) (hr.mono (by decide)) (by rfl) T.g_numbers_in T.F_numbers_in.kp T.b_numbers_in .nil pass0 (pa_cons (pv 1) (pa_cons (pv 2) pa_nil)))) (blkOk_by (N := ["order", "marks", "word", "place"]) (sc := (defScope s_riffled)) (by decide +kernel)) (fun _ _ _ _ _ => pg_name (i := 3) sc_riffled_x.nd rfl (Or.inl rfl)) (fun _ _ _ _ _ => pts_nil) (fun _ _ _ _ _ => (pe_ix (show IxR _ (rIxL K) from ix_list) (pv 0) (pv 3) (fun _ _ => rfl))))))), ?_⟩
    refine ⟨_, rfl, _, rfl, _, rfl, _, _, _, rfl, (SqL.of (fr.same _ _ h_order)), (List.length_map _), a_marks, marks, a_word, word, ((order.length : Int)), rfl, (fr.same _ _ h_marks), (fr.same _ _ h_word), ?_, ?_, ?_, ?_⟩
    · exact pre0
    · exact pre1
    · intro H_1 hp_4 sm_3
      exfalso
      rw [pre2] at hp_4; cases hp_4
    · intro H_9 hr_8 sm_10
      have fr : Fr H _ [] := fr.call sm_10
      exact qe0 _  fr.same
def sp_Pack_riffle_x {K : PySem.W.Frag} {mg : Str → Option Value} (T : Txt K mg) : Sp := fun vs H Q E => ∃ (a_slf : Addr) (slf : PK) (a_marks : Addr) (marks : List V) (a_word : Addr) (word : List V), vs = [V.ref a_slf, V.ref a_marks, V.ref a_word] ∧ PkAt T.C_Pack H a_slf slf ∧ H a_marks = some (.lst marks) ∧ H a_word = some (.lst word) ∧ (Sca marks) ∧ (marks.length ≤ 1000) ∧ (Sca word) ∧ (word.length ≤ 1000) ∧ (marksV marks = false ∨ isWordV marks.length word (slf.order.length : Int) = false) ∧ (∀ (H1 : Hp), (False) → Same H H1 → Q V.non H1) ∧ (∀ (H1 : Hp), (marksV marks = false) → Same H H1 → E (.ref T.C_NoMarks) none H1) ∧ (∀ (H1 : Hp), (marksV marks = true) → Same H H1 → E (.ref T.C_NoRiffle) none H1)
theorem sc_Pack_riffle_x : FnScope ["self", "marks", "word"] ["self", "marks", "word"] (defScope s_Pack_riffle) := ⟨rfl, rfl, rfl, by decide +kernel, rfl, by decide +kernel, by decide +kernel⟩
theorem ok_Pack_riffle_x (T : Txt K mg) : FnOk P w K mg base (L2.CX P w) 5 T.f_Pack_riffle T.fd_Pack_riffle ["self", "marks", "word"] (sp_Pack_riffle_x T) := by
  refine T.F_Pack_riffle.okX sc_Pack_riffle_x (fun vs H Q E h => ?_) (fun cdv A outer s H vs Q E hr h => ?_)
  · obtain ⟨a_slf, slf, a_marks, marks, a_word, word, rfl, _⟩ := h; rfl
  · obtain ⟨a_slf, slf, a_marks, marks, a_word, word, rfl, h_slf, h_marks, h_word, pre0, pre1, pre2, pre3, pre4, q, qe0, qe1⟩ := h
    have fr := Fr.nil H
    refine ⟨_, (pss_cons (ps_if (pt_not (pt_valS (pe_call (ok_are_marks T) (hr.mono (by decide)) (by rfl) T.g_are_marks T.F_are_marks.kp T.b_are_marks .nil pass0 (pa_cons (pv 1) pa_nil)))) (pss_one (ps_raise rfl (takes_of rfl rfl rfl rfl) (pmk_own PySem.F.excBase_ValueError T.X_NoMarks.ex T.X_NoMarks.g T.X_NoMarks.kp (raises_own T.X_NoMarks.c.hs T.X_NoMarks.ty) rfl))) pss_nil)
          (pss_cons (ps_fld (pv 0) (pe_callS (ok_riffled_x T) (hr.mono (by decide)) (by rfl) T.g_riffled T.F_riffled.kp T.b_riffled (fun σ => passAt (takes_of rfl rfl rfl rfl) σ) (pa_cons (pe_fld (pv 0) rfl) (pa_cons (pv 1) (pa_cons (pv 2) pa_nil)))) rfl)
          (pss_cons (ps_expr (pe_bmK (K := K) (pe_bm PySem.F.plainAttrs_list PySem.F.slot_list_append PySem.F.type_list_append mt_append (pe_fld (pv 0) rfl) (pa_cons (pe_tup (pa_cons (pe_callTy (show CallR _ _ (rListL K) from call_listL) (by rfl) T.m_list (by decide +kernel) (pa_cons (pv 1) pa_nil)) (pa_cons (pe_callTy (show CallR _ _ (rListL K) from call_listL) (by rfl) T.m_list (by decide +kernel) (pa_cons (pv 2) pa_nil)) pa_nil))) pa_nil))))
          (pss_one (ps_ret (pe_callTy (show CallR _ _ (rListL K) from call_listL) (by rfl) T.m_list (by decide +kernel) (pa_cons (pe_fld (pv 0) rfl) pa_nil))))))), ?_⟩
    refine ⟨_, rfl, a_marks, marks, rfl, (fr.same _ _ h_marks), ?_, ?_, fun H_1 are_marks_2 hp_4 sm_3 => ?_⟩
    · exact pre0
    · exact pre1
    have fr : Fr H _ [] := fr.call sm_3
    subst hp_4
    refine ⟨_, rfl, ?_, ?_⟩
    · intro h5
      obtain ⟨z_6, ez_7⟩ := marksV_bools h5
      subst ez_7
      refine iteF ?_
      refine ⟨_, rfl, _, _, _, _, _, rfl, (fr.same _ _ (PkAt.p h_slf)), T.cl_Pack, T.na_Pack_cards, (pkF_cards _ _), _, rfl, _, rfl, slf.a, slf.order, a_marks, z_6, a_word, word, rfl, (fr.same _ _ (PkAt.a h_slf)), (fr.same _ _ h_marks), (fr.same _ _ h_word), ?_, ?_, ?_, ?_, ?_⟩
      · exact pre2
      · exact pre3
      · exact badR pre4 (by assumption)
      · intro H_8 hp_11 sm_10
        exfalso
        exact hp_11
      · intro H_15  sm_16
        have fr : Fr H _ [] := fr.call sm_16
        exact qe1 _ (by assumption) fr.same
    · intro h5
      refine iteT ?_
      exact qe0 _ (by assumption) fr.same
def sp_undone_x {K : PySem.W.Frag} {mg : Str → Option Value} (T : Txt K mg) : Sp := fun vs H Q E => ∃ (a_order : Addr) (order : List Int) (a_marks : Addr) (marks : List Bool) (a_word : Addr) (word : List V), vs = [V.ref a_order, V.ref a_marks, V.ref a_word] ∧ H a_order = some (.lst (List.map V.int order)) ∧ H a_marks = some (.lst (List.map V.bl marks)) ∧ H a_word = some (.lst word) ∧ (Sca word) ∧ (word.length ≤ 1000) ∧ (isWordV marks.length word (order.length : Int) = false) ∧ (∀ (H1 : Hp), (False) → Same H H1 → Q V.non H1) ∧ (∀ (H1 : Hp), Same H H1 → E (.ref T.C_NoRiffle) none H1)
theorem sc_undone_x : FnScope ["order", "marks", "word", "found", "card", "place"] ["order", "marks", "word"] (defScope s_undone) := ⟨rfl, rfl, rfl, by decide +kernel, rfl, by decide +kernel, by decide +kernel⟩
theorem ok_undone_x (T : Txt K mg) : FnOk P w K mg base (L2.CX P w) 4 T.f_undone T.fd_undone ["order", "marks", "word"] (sp_undone_x T) := by
  refine T.F_undone.okX sc_undone_x (fun vs H Q E h => ?_) (fun cdv A outer s H vs Q E hr h => ?_)
  · obtain ⟨a_order, order, a_marks, marks, a_word, word, rfl, _⟩ := h; rfl
  · obtain ⟨a_order, order, a_marks, marks, a_word, word, rfl, h_order, h_marks, h_word, pre0, pre1, pre2, q, qe0⟩ := h
    have fr := Fr.nil H
    refine ⟨_, (pss_cons (ps_expr (pe_callS (ok_must_be_word_x T) (hr.mono (by decide)) (by rfl) T.g_must_be_word T.F_must_be_word.kp T.b_must_be_word (fun σ => passAt (takes_of rfl rfl rfl rfl) σ) (pa_cons (pv 1) (pa_cons (pv 2) (pa_cons (pe_callB (show CallR _ _ (rLenL K) from call_lenL) (by rfl) T.m_len (by decide +kernel) (pa_cons (pv 0) pa_nil)) pa_nil)))))
          (pss_cons (ps_setLc (i := 3) (own := [("card", 4)]) (g := gName 4) (tt := tYes) rfl sc_undone_x.nd rfl rfl (sw_true rfl rfl rfl (by decide +kernel)) (pi_list (pv 0)) (blkOk_by (N := ["order", "marks", "word", "found", "card", "place"]) (sc := (defScope s_undone)) (by decide +kernel)) (fun _ _ _ _ _ => pg_name (i := 4) sc_undone_x.nd rfl (Or.inl rfl)) (fun _ _ _ _ _ => pts_nil) (fun _ _ _ _ _ => pe_int))
          (pss_cons (ps_for (passes_of rfl) rfl (pi_zip (by rfl) T.m_zip (pa_cons (pv 0) (pa_cons (pe_call (ok_numbers_in T) (hr.mono (by decide)) (by rfl) T.g_numbers_in T.F_numbers_in.kp T.b_numbers_in .nil pass0 (pa_cons (pv 1) (pa_cons (pv 2) pa_nil))) pa_nil))) (pg_tup rfl (pgs_cons (pg_name (i := 4) sc_undone_x.nd rfl (Or.inl rfl)) (pgs_cons (pg_name (i := 5) sc_undone_x.nd rfl (Or.inl rfl)) pgs_nil))) (pss_one (ps_asg (pv 4) (pg_sub (pv 3) (pv 5) set_list))))
          (pss_one (ps_ret (pv 3)))))), ?_⟩
    refine ⟨_, rfl, _, rfl, _, rfl, _, _, _, rfl, (SqL.of (fr.same _ _ h_order)), (List.length_map _), a_marks, marks, a_word, word, ((order.length : Int)), rfl, (fr.same _ _ h_marks), (fr.same _ _ h_word), ?_, ?_, ?_, ?_⟩
    · exact pre0
    · exact pre1
    · intro H_1 hp_4 sm_3
      exfalso
      rw [pre2] at hp_4; cases hp_4
    · intro H_9 hr_8 sm_10
      have fr : Fr H _ [] := fr.call sm_10
      exact qe0 _  fr.same
def sp_Pack_undo_x {K : PySem.W.Frag} {mg : Str → Option Value} (T : Txt K mg) : Sp := fun vs H Q E => ∃ (a_slf : Addr) (slf : PK), vs = [V.ref a_slf] ∧ PkAt T.C_Pack H a_slf slf ∧ (slf.past.length = 0) ∧ (∀ (H1 : Hp), (False) → Same H H1 → Q V.non H1) ∧ (∀ (H1 : Hp), Same H H1 → E (.ref T.C_NoRiffle) none H1)
theorem sc_Pack_undo_x : FnScope ["self", "marks", "word"] ["self"] (defScope s_Pack_undo) := ⟨rfl, rfl, rfl, by decide +kernel, rfl, by decide +kernel, by decide +kernel⟩
theorem ok_Pack_undo_x (T : Txt K mg) : FnOk P w K mg base (L2.CX P w) 5 T.f_Pack_undo T.fd_Pack_undo ["self"] (sp_Pack_undo_x T) := by
  refine T.F_Pack_undo.okX sc_Pack_undo_x (fun vs H Q E h => ?_) (fun cdv A outer s H vs Q E hr h => ?_)
  · obtain ⟨a_slf, slf, rfl, _⟩ := h; rfl
  · obtain ⟨a_slf, slf, rfl, h_slf, pre0, q, qe0⟩ := h
    have fr := Fr.nil H
    refine ⟨_, (pss_cons (ps_if (pt_cmpR op_eqS (pe_callB (show CallR _ _ (rLenL K) from call_lenL) (by rfl) T.m_len (by decide +kernel) (pa_cons (pe_fld (pv 0) rfl) pa_nil)) pe_int (nomark _)) (pss_one (ps_raise rfl (takes_of rfl rfl rfl rfl) (pmk_own PySem.F.excBase_ValueError T.X_NoRiffle.ex T.X_NoRiffle.g T.X_NoRiffle.kp (raises_own T.X_NoRiffle.c.hs T.X_NoRiffle.ty) rfl))) pss_nil)
          (pss_cons (ps_asg (pe_bm0 PySem.F.plainAttrs_list PySem.F.slot_list_pop PySem.F.type_list_pop mt_pop (pe_fld (pv 0) rfl)) (pg_tup rfl (pgs_cons (pg_name (i := 1) sc_Pack_undo_x.nd rfl (Or.inl rfl)) (pgs_cons (pg_name (i := 2) sc_Pack_undo_x.nd rfl (Or.inl rfl)) pgs_nil))))
          (pss_cons (ps_fld (pv 0) (pe_callS (ok_undone_x T) (hr.mono (by decide)) (by rfl) T.g_undone T.F_undone.kp T.b_undone (fun σ => passAt (takes_of rfl rfl rfl rfl) σ) (pa_cons (pe_fld (pv 0) rfl) (pa_cons (pv 1) (pa_cons (pv 2) pa_nil)))) rfl)
          (pss_one (ps_ret (pe_callTy (show CallR _ _ (rListL K) from call_listL) (by rfl) T.m_list (by decide +kernel) (pa_cons (pe_fld (pv 0) rfl) pa_nil))))))), ?_⟩
    refine ⟨_, rfl, _, _, _, _, _, rfl, (fr.same _ _ (PkAt.p h_slf)), T.cl_Pack, T.na_Pack_past, (pkF_past _ _), _, _, _, rfl, (SqL.of (fr.same _ _ (PkAt.b h_slf))), (pc_len2 (pk_past slf)), _, _, rfl, rfl, ?_, ?_⟩
    · intro h1
      refine ⟨_, rfl, ?_⟩
      refine iteT ?_
      exact qe0 _  fr.same
    · intro h1
      exfalso
      omega
def sp_law_refused_a {K : PySem.W.Frag} {mg : Str → Option Value} (T : Txt K mg) : Sp := fun vs H Q _ => ∃ (a_pack : Addr) (pack : PK) (due : V), vs = [V.ref a_pack, V.non, V.non, due] ∧ PkAt T.C_Pack H a_pack pack ∧ (pack.past.length = 0) ∧ (due = V.str "riffle") ∧ (∀ (H1 : Hp) (res : Bool), (res = true) → Same H H1 → Q (V.bl res) H1)
theorem sc_law_refused_a : FnScope ["_law_pack", "_law_marks_here", "_law_word_here", "_law_due", "_law_e"] ["_law_pack", "_law_marks_here", "_law_word_here", "_law_due"] (defScope s_law_refused) := ⟨rfl, rfl, rfl, by decide +kernel, rfl, by decide +kernel, by decide +kernel⟩
theorem ok_law_refused_a (T : Txt K mg) : FnOk P w K mg base CX0 6 T.f_law_refused T.fd_law_refused ["_law_pack", "_law_marks_here", "_law_word_here", "_law_due"] (sp_law_refused_a T) := by
  refine T.F_law_refused.ok sc_law_refused_a (fun vs H Q E h => ?_) (fun cdv A outer s H vs Q E hr h => ?_)
  · obtain ⟨a_pack, pack, due, rfl, _⟩ := h; rfl
  · obtain ⟨a_pack, pack, due, rfl, h_pack, pre0, pre1, q⟩ := h
    have fr := Fr.nil H
    have hsd : Sca [due] := by rw [pre1]; exact Sca.cons (by decide +kernel) Sca.nil
    refine ⟨_, (pss_cons (ps_try_as (i := 4) (Wout := fun _ _ _ _ => False) rfl rfl sc_law_refused_a.nd rfl rfl ⟨rfl, by decide, .inl T.X_RiftError.g⟩ takes0 (fun W xpn xxe xtk _ => (pss_one (ps_if (pt_cmpR (opS op_isN) (pv 1) pe_non (nomark _)) (pss_one (ps_expr (pe_methX0 (pv 0) T.cl_Pack T.m_Pack_undo (ok_Pack_undo_x T) (hr.mono (by decide)) T.b_Pack_undo (fun σ => passAt xtk σ) ))) (pss_one (ps_expr (pe_methX (pv 0) T.cl_Pack T.m_Pack_riffle (ok_Pack_riffle_x T) (hr.mono (by decide)) T.b_Pack_riffle (fun σ => passAt xtk σ) (pa_cons (pe_callTy (show CallR _ _ (rListL K) from call_listL) (by rfl) T.m_list (by decide +kernel) (pa_cons (pv 1) pa_nil)) (pa_cons (pe_callTy (show CallR _ _ (rListL K) from call_listL) (by rfl) T.m_list (by decide +kernel) (pa_cons (pv 2) pa_nil)) pa_nil)))))))) (fun xa xoe xcls xd xpn xhz xhf => (pss_one (ps_ret (pe_cmpR (show OpR _ _ (rEqX K) from op_eqX (hu64S hr)) (pe_callE xhz xhf (ok_law_words_e T) (roomS (hr.mono (by decide))) (by rfl) T.g_law_words T.F_law_words.kp T.b_law_words (pa_cons (pv 4) pa_nil)) (pe_lst (pa_cons (pv 3) pa_nil)) (nomark _))))))
          (pss_one (ps_ret pe_bl))), ?_⟩
    refine ⟨_, rfl, rfl, _, rfl, fun _ => ?_, (fun h => nomatch h)⟩
    refine ⟨_, rfl, ?_⟩
    refine iteT ?_
    refine ⟨_, rfl, _, _, _, rfl, (PkAt.p (PkAt.same h_pack fr.same)), (pkF_no _ _ (by decide +kernel) (by decide +kernel)), a_pack, pack, rfl, (PkAt.same h_pack fr.same), ?_, ?_, ?_⟩
    · exact pre0
    · intro H_1 hp_4 sm_3
      exfalso
      exact hp_4
    · intro H_8  sm_9
      have fr : Fr H _ [] := fr.call sm_9
      refine ⟨true, T.X_RiftError.exm T.S_NoRiffle_RiftError, fun _ ax_10 _ => ?_, fun q => nomatch q⟩
      refine ⟨_, rfl, rfl, _, rfl, rfl, (.inr (.inr ⟨rfl, fun H_11 p_15 law_words_12 hp_14 sm_13 np_16 ep_17 => ?_⟩))⟩
      subst hp_14
      have fr : Fr H _ [(p_15, (.lst ([V.str "riffle"]) : HO))] := fr.cnew sm_13 np_16 ep_17
      refine ⟨_, rfl, (Evl.sz_of (show 1 ≤ 100000 by decide)), fun l_18 nl_19 => ?_⟩
      have fr : Fr H _ [(l_18, (.lst ([due]) : HO)), (p_15, (.lst ([V.str "riffle"]) : HO))] := fr.new nl_19
      refine ⟨_, _, true, (dp_vals fr.at1 (by walk_at "sca")), (dp_vals fr.at0 (by walk_at "sca")), (Okd.sh (okd_vals (by walk_at "sca"))), (Okd.sh (okd_vals (by walk_at "sca"))), (by rw [pre1]; exact eqv_same rfl (by decide +kernel)), ?_⟩
      exact q _ true (by rfl) fr.same
def sp_law_refused_b {K : PySem.W.Frag} {mg : Str → Option Value} (T : Txt K mg) : Sp := fun vs H Q _ => ∃ (a_pack : Addr) (pack : PK) (a_marks : Addr) (marks : List V) (a_word : Addr) (word : List V) (due : V), vs = [V.ref a_pack, V.ref a_marks, V.ref a_word, due] ∧ PkAt T.C_Pack H a_pack pack ∧ H a_marks = some (.lst marks) ∧ H a_word = some (.lst word) ∧ (Sca marks) ∧ (marks.length ≤ 1000) ∧ (Sca word) ∧ (word.length ≤ 1000) ∧ (marksV marks = false) ∧ (due = V.str "marks") ∧ (∀ (H1 : Hp) (res : Bool), (res = true) → Same H H1 → Q (V.bl res) H1)
theorem sc_law_refused_b : FnScope ["_law_pack", "_law_marks_here", "_law_word_here", "_law_due", "_law_e"] ["_law_pack", "_law_marks_here", "_law_word_here", "_law_due"] (defScope s_law_refused) := ⟨rfl, rfl, rfl, by decide +kernel, rfl, by decide +kernel, by decide +kernel⟩
theorem ok_law_refused_b (T : Txt K mg) : FnOk P w K mg base CX0 6 T.f_law_refused T.fd_law_refused ["_law_pack", "_law_marks_here", "_law_word_here", "_law_due"] (sp_law_refused_b T) := by
  refine T.F_law_refused.ok sc_law_refused_b (fun vs H Q E h => ?_) (fun cdv A outer s H vs Q E hr h => ?_)
  · obtain ⟨a_pack, pack, a_marks, marks, a_word, word, due, rfl, _⟩ := h; rfl
  · obtain ⟨a_pack, pack, a_marks, marks, a_word, word, due, rfl, h_pack, h_marks, h_word, pre0, pre1, pre2, pre3, pre4, pre5, q⟩ := h
    have fr := Fr.nil H
    have hsd : Sca [due] := by rw [pre5]; exact Sca.cons (by decide +kernel) Sca.nil
    refine ⟨_, (pss_cons (ps_try_as (i := 4) (Wout := fun _ _ _ _ => False) rfl rfl sc_law_refused_b.nd rfl rfl ⟨rfl, by decide, .inl T.X_RiftError.g⟩ takes0 (fun W xpn xxe xtk _ => (pss_one (ps_if (pt_cmpR (opS op_isN) (pv 1) pe_non (nomark _)) (pss_one (ps_expr (pe_methX0 (pv 0) T.cl_Pack T.m_Pack_undo (ok_Pack_undo_x T) (hr.mono (by decide)) T.b_Pack_undo (fun σ => passAt xtk σ) ))) (pss_one (ps_expr (pe_methX (pv 0) T.cl_Pack T.m_Pack_riffle (ok_Pack_riffle_x T) (hr.mono (by decide)) T.b_Pack_riffle (fun σ => passAt xtk σ) (pa_cons (pe_callTy (show CallR _ _ (rListL K) from call_listL) (by rfl) T.m_list (by decide +kernel) (pa_cons (pv 1) pa_nil)) (pa_cons (pe_callTy (show CallR _ _ (rListL K) from call_listL) (by rfl) T.m_list (by decide +kernel) (pa_cons (pv 2) pa_nil)) pa_nil)))))))) (fun xa xoe xcls xd xpn xhz xhf => (pss_one (ps_ret (pe_cmpR (show OpR _ _ (rEqX K) from op_eqX (hu64S hr)) (pe_callE xhz xhf (ok_law_words_e T) (roomS (hr.mono (by decide))) (by rfl) T.g_law_words T.F_law_words.kp T.b_law_words (pa_cons (pv 4) pa_nil)) (pe_lst (pa_cons (pv 3) pa_nil)) (nomark _))))))
          (pss_one (ps_ret pe_bl))), ?_⟩
    refine ⟨_, rfl, rfl, _, rfl, (fun h => nomatch h), fun _ => ?_⟩
    refine ⟨_, rfl, ?_⟩
    refine iteF ?_
    refine ⟨_, rfl, _, _, _, rfl, (PkAt.p (PkAt.same h_pack fr.same)), (pkF_no _ _ (by decide +kernel) (by decide +kernel)), _, rfl, _, _, rfl, (.inl (SqL.of (fr.same _ _ h_marks))), fun l_1 nl_2 => ?_⟩
    have fr : Fr H _ [(l_1, (.lst marks : HO))] := fr.new nl_2
    refine ⟨_, rfl, _, _, rfl, (.inl (SqL.of (fr.same _ _ h_word))), fun l_3 nl_4 => ?_⟩
    have fr : Fr H _ [(l_3, (.lst word : HO)), (l_1, (.lst marks : HO))] := fr.new nl_4
    refine ⟨a_pack, pack, l_1, marks, l_3, word, rfl, (PkAt.same h_pack fr.same), fr.at1, fr.at0, ?_, ?_, ?_, ?_, ?_, ?_, ?_, ?_⟩
    · exact pre0
    · exact pre1
    · exact pre2
    · exact pre3
    · exact .inl pre4
    · intro H_5 hp_8 sm_7
      exfalso
      exact hp_8
    · intro H_13 hr_12 sm_14
      have fr : Fr H _ [(l_3, (.lst word : HO)), (l_1, (.lst marks : HO))] := fr.call sm_14
      refine ⟨true, T.X_RiftError.exm T.S_NoMarks_RiftError, fun _ ax_15 _ => ?_, fun q => nomatch q⟩
      refine ⟨_, rfl, rfl, _, rfl, rfl, (.inr (.inl ⟨rfl, fun H_16 p_20 law_words_17 hp_19 sm_18 np_21 ep_22 => ?_⟩))⟩
      subst hp_19
      have fr : Fr H _ [(p_20, (.lst ([V.str "marks"]) : HO)), (l_3, (.lst word : HO)), (l_1, (.lst marks : HO))] := fr.cnew sm_18 np_21 ep_22
      refine ⟨_, rfl, (Evl.sz_of (show 1 ≤ 100000 by decide)), fun l_23 nl_24 => ?_⟩
      have fr : Fr H _ [(l_23, (.lst ([due]) : HO)), (p_20, (.lst ([V.str "marks"]) : HO)), (l_3, (.lst word : HO)), (l_1, (.lst marks : HO))] := fr.new nl_24
      refine ⟨_, _, true, (dp_vals fr.at1 (by walk_at "sca")), (dp_vals fr.at0 (by walk_at "sca")), (Okd.sh (okd_vals (by walk_at "sca"))), (Okd.sh (okd_vals (by walk_at "sca"))), (by rw [pre5]; exact eqv_same rfl (by decide +kernel)), ?_⟩
      exact q _ true (by rfl) fr.same
    · intro H_26 hr_25 sm_27
      exfalso
      rw [pre4] at hr_25; cases hr_25
def sp_law_refused_c {K : PySem.W.Frag} {mg : Str → Option Value} (T : Txt K mg) : Sp := fun vs H Q _ => ∃ (a_pack : Addr) (pack : PK) (a_marks : Addr) (marks : List Bool) (a_word : Addr) (word : List V) (due : V), vs = [V.ref a_pack, V.ref a_marks, V.ref a_word, due] ∧ PkAt T.C_Pack H a_pack pack ∧ H a_marks = some (.lst (List.map V.bl marks)) ∧ H a_word = some (.lst word) ∧ (1 ≤ marks.length ∧ marks.length ≤ 400) ∧ (Sca word) ∧ (word.length ≤ 1000) ∧ (isWordV marks.length word (pack.order.length : Int) = false) ∧ (due = V.str "riffle") ∧ (∀ (H1 : Hp) (res : Bool), (res = true) → Same H H1 → Q (V.bl res) H1)
theorem sc_law_refused_c : FnScope ["_law_pack", "_law_marks_here", "_law_word_here", "_law_due", "_law_e"] ["_law_pack", "_law_marks_here", "_law_word_here", "_law_due"] (defScope s_law_refused) := ⟨rfl, rfl, rfl, by decide +kernel, rfl, by decide +kernel, by decide +kernel⟩
theorem ok_law_refused_c (T : Txt K mg) : FnOk P w K mg base CX0 6 T.f_law_refused T.fd_law_refused ["_law_pack", "_law_marks_here", "_law_word_here", "_law_due"] (sp_law_refused_c T) := by
  refine T.F_law_refused.ok sc_law_refused_c (fun vs H Q E h => ?_) (fun cdv A outer s H vs Q E hr h => ?_)
  · obtain ⟨a_pack, pack, a_marks, marks, a_word, word, due, rfl, _⟩ := h; rfl
  · obtain ⟨a_pack, pack, a_marks, marks, a_word, word, due, rfl, h_pack, h_marks, h_word, pre0, pre1, pre2, pre3, pre4, q⟩ := h
    have fr := Fr.nil H
    have hsd : Sca [due] := by rw [pre4]; exact Sca.cons (by decide +kernel) Sca.nil
    refine ⟨_, (pss_cons (ps_try_as (i := 4) (Wout := fun _ _ _ _ => False) rfl rfl sc_law_refused_c.nd rfl rfl ⟨rfl, by decide, .inl T.X_RiftError.g⟩ takes0 (fun W xpn xxe xtk _ => (pss_one (ps_if (pt_cmpR (opS op_isN) (pv 1) pe_non (nomark _)) (pss_one (ps_expr (pe_methX0 (pv 0) T.cl_Pack T.m_Pack_undo (ok_Pack_undo_x T) (hr.mono (by decide)) T.b_Pack_undo (fun σ => passAt xtk σ) ))) (pss_one (ps_expr (pe_methX (pv 0) T.cl_Pack T.m_Pack_riffle (ok_Pack_riffle_x T) (hr.mono (by decide)) T.b_Pack_riffle (fun σ => passAt xtk σ) (pa_cons (pe_callTy (show CallR _ _ (rListL K) from call_listL) (by rfl) T.m_list (by decide +kernel) (pa_cons (pv 1) pa_nil)) (pa_cons (pe_callTy (show CallR _ _ (rListL K) from call_listL) (by rfl) T.m_list (by decide +kernel) (pa_cons (pv 2) pa_nil)) pa_nil)))))))) (fun xa xoe xcls xd xpn xhz xhf => (pss_one (ps_ret (pe_cmpR (show OpR _ _ (rEqX K) from op_eqX (hu64S hr)) (pe_callE xhz xhf (ok_law_words_e T) (roomS (hr.mono (by decide))) (by rfl) T.g_law_words T.F_law_words.kp T.b_law_words (pa_cons (pv 4) pa_nil)) (pe_lst (pa_cons (pv 3) pa_nil)) (nomark _))))))
          (pss_one (ps_ret pe_bl))), ?_⟩
    refine ⟨_, rfl, rfl, _, rfl, (fun h => nomatch h), fun _ => ?_⟩
    refine ⟨_, rfl, ?_⟩
    refine iteF ?_
    refine ⟨_, rfl, _, _, _, rfl, (PkAt.p (PkAt.same h_pack fr.same)), (pkF_no _ _ (by decide +kernel) (by decide +kernel)), _, rfl, _, _, rfl, (.inl (SqL.of (fr.same _ _ h_marks))), fun l_1 nl_2 => ?_⟩
    have fr : Fr H _ [(l_1, (.lst (List.map V.bl marks) : HO))] := fr.new nl_2
    refine ⟨_, rfl, _, _, rfl, (.inl (SqL.of (fr.same _ _ h_word))), fun l_3 nl_4 => ?_⟩
    have fr : Fr H _ [(l_3, (.lst word : HO)), (l_1, (.lst (List.map V.bl marks) : HO))] := fr.new nl_4
    refine ⟨a_pack, pack, l_1, ((List.map V.bl marks)), l_3, word, rfl, (PkAt.same h_pack fr.same), fr.at1, fr.at0, ?_, ?_, ?_, ?_, ?_, ?_, ?_, ?_⟩
    · exact Sca.bls _
    · rw [List.length_map]; omega
    · exact pre1
    · exact pre2
    · refine .inr ?_; rw [List.length_map]; exact pre3
    · intro H_5 hp_8 sm_7
      exfalso
      exact hp_8
    · intro H_13 hr_12 sm_14
      exfalso
      rw [marksV_bls pre0] at hr_12; cases hr_12
    · intro H_16 hr_15 sm_17
      have fr : Fr H _ [(l_3, (.lst word : HO)), (l_1, (.lst (List.map V.bl marks) : HO))] := fr.call sm_17
      refine ⟨true, T.X_RiftError.exm T.S_NoRiffle_RiftError, fun _ ax_18 _ => ?_, fun q => nomatch q⟩
      refine ⟨_, rfl, rfl, _, rfl, rfl, (.inr (.inr ⟨rfl, fun H_19 p_23 law_words_20 hp_22 sm_21 np_24 ep_25 => ?_⟩))⟩
      subst hp_22
      have fr : Fr H _ [(p_23, (.lst ([V.str "riffle"]) : HO)), (l_3, (.lst word : HO)), (l_1, (.lst (List.map V.bl marks) : HO))] := fr.cnew sm_21 np_24 ep_25
      refine ⟨_, rfl, (Evl.sz_of (show 1 ≤ 100000 by decide)), fun l_26 nl_27 => ?_⟩
      have fr : Fr H _ [(l_26, (.lst ([due]) : HO)), (p_23, (.lst ([V.str "riffle"]) : HO)), (l_3, (.lst word : HO)), (l_1, (.lst (List.map V.bl marks) : HO))] := fr.new nl_27
      refine ⟨_, _, true, (dp_vals fr.at1 (by walk_at "sca")), (dp_vals fr.at0 (by walk_at "sca")), (Okd.sh (okd_vals (by walk_at "sca"))), (Okd.sh (okd_vals (by walk_at "sca"))), (by rw [pre4]; exact eqv_same rfl (by decide +kernel)), ?_⟩
      exact q _ true (by rfl) fr.same
def sp_law_word (K : PySem.W.Frag) : Sp := fun vs H Q _ => ∃ (cell : Int) (heaps : Int) (n : Int), vs = [V.int cell, V.int heaps, V.int n] ∧ (1 ≤ heaps ∧ heaps ≤ 400) ∧ (1 ≤ n ∧ n ≤ 60) ∧ (∀ (H1 : Hp) (rA : Addr) (res : List Int), ((res.length : Int) = n) → (IsW (Int.toNat heaps) res) → Same H H1 → H rA = none → H1 rA = some (.lst (List.map V.int res)) → Q (V.ref rA) H1)
theorem sc_law_word : FnScope ["_law_cell", "_law_heaps", "_law_n", "_law_rest", "_law_word_here", "_law_k", "_law_number"] ["_law_cell", "_law_heaps", "_law_n"] (defScope s_law_word) := ⟨rfl, rfl, rfl, by decide +kernel, rfl, by decide +kernel, by decide +kernel⟩
theorem ok_law_word (T : Txt K mg) : FnOk P w K mg base CX0 2 T.f_law_word T.fd_law_word ["_law_cell", "_law_heaps", "_law_n"] (sp_law_word K) := by
  refine T.F_law_word.ok sc_law_word (fun vs H Q E h => ?_) (fun cdv A outer s H vs Q E hr h => ?_)
  · obtain ⟨cell, heaps, n, rfl, _⟩ := h; rfl
  · obtain ⟨cell, heaps, n, rfl, pre0, pre1, q⟩ := h
    have fr := Fr.nil H
    refine ⟨_, (pss_cons (ps_set (i := 3) sc_law_word.nd rfl (Or.inl rfl) (pv 0))
          (pss_cons (ps_set (i := 4) sc_law_word.nd rfl (Or.inl rfl) (pe_lst pa_nil))
          (pss_cons (ps_for PassesOwn.never rfl (pi_range1 (by rfl) T.m_range (pa_cons (pv 2) pa_nil)) (pg_name (i := 5) sc_law_word.nd rfl (Or.inl rfl)) (pss_cons (ps_set (i := 6) sc_law_word.nd rfl (Or.inl rfl) (pe_op op_mod (pv 3) (pv 1)))
          (pss_cons (ps_set (i := 3) sc_law_word.nd rfl (Or.inl rfl) (pe_op op_fdiv (pv 3) (pv 1)))
          (pss_cut (ps_if (pt_cmpR op_ltS (pe_callB call_absI (by rfl) T.m_abs (by decide +kernel) (pa_cons (pv 0) pa_nil)) (pe_op op_powL pe_int pe_int) (nomark _)) (pss_one (ps_set (i := 6) sc_law_word.nd rfl (Or.inl rfl) (pe_op op_mod (pe_op op_fdiv (pe_call (ok_law_mixed T) (hr.mono (by decide)) (by rfl) T.g_law_mixed T.F_law_mixed.kp T.b_law_mixed .nil pass0 (pa_cons (pv 0) (pa_cons (pe_op op_add (pv 5) pe_int) pa_nil))) pe_int) (pv 1)))) pss_nil)
          (pss_one (ps_expr (pe_bmK (K := K) (pe_bm PySem.F.plainAttrs_list PySem.F.slot_list_append PySem.F.type_list_append mt_append (pv 4) (pa_cons (pv 6) pa_nil)))))))))
          (pss_one (ps_ret (pv 4)))))), ?_⟩
    refine ⟨_, rfl, ?_⟩
    refine ⟨(Evl.sz_of (show 0 ≤ 100000 by decide)), fun l_1 nl_2 => ?_⟩
    have fr : Fr H _ [(l_1, (.lst [] : HO))] := fr.new nl_2
    have fr : Fr H _ [(l_1, (.lst (List.map V.int ([])) : HO))] := fr
    refine ⟨_, rfl, _, rfl, ?_, ?_, ?_⟩
    · walk_at "side"
    · walk_at "side"
    refine for_it (walkR (n := (Int.toNat n))) (fun (i : Nat) σ H1 => ∃ (rest_3 : Int) (word_4 : List Int) (y_5 : Option V) (y_6 : Option V), σ = [some (V.int cell), some (V.int heaps), some (V.int n), some (V.int rest_3), some (V.ref l_1), y_5, y_6] ∧ Fr H H1 [(l_1, (.lst (List.map V.int word_4) : HO))] ∧ (word_4.length = i) ∧ (IsW (Int.toNat heaps) word_4)) ?_ ?_ ?_ ?_
    · refine ⟨cell, [], _, _, rfl, fr, ?_, ?_⟩
      · walk_at "inv"
      · exact IsW.nil _
    · rintro i σ H1 hi ⟨rest_3, word_4, y_5, y_6, rfl, fr, hl, hw⟩
      exact trivial
    · rintro i_7 x_9 s_12 H_10 H_11 hi_8 ⟨rest_3, word_4, y_5, y_6, rfl, fr, hl, hw⟩ ⟨rfl, rfl⟩
      have hmm1 := Int.emod_nonneg rest_3 (show heaps ≠ 0 by omega)
      have hmm2 := Int.emod_lt_of_pos rest_3 (show 0 < heaps by omega)
      refine ⟨_, rfl, _, rfl, _, _, rfl, rfl, ?_, ?_⟩
      · walk_at "side"
      refine ⟨_, rfl, _, rfl, _, _, rfl, rfl, ?_, ?_⟩
      · walk_at "div"
      refine ⟨fun σ H1 => ∃ (number_13 : Int), σ = [some (V.int cell), some (V.int heaps), some (V.int n), some (V.int ((rest_3 / heaps))), some (V.ref l_1), some (V.int ((i_7 : Int))), some (V.int number_13)] ∧ Fr H H1 [(l_1, (.lst (List.map V.int word_4) : HO))] ∧ (0 ≤ number_13 ∧ number_13 < heaps), ?_, ?_⟩
      · refine ⟨_, rfl, _, rfl, _, _, 1000000000000000000, rfl, rfl, ⟨by decide, by decide, by decide⟩, (by decide), _, _, rfl, rfl, ?_, ?_⟩
        · intro h14
          refine ⟨_, rfl, ?_⟩
          refine iteT ?_
          refine ⟨_, rfl, _, rfl, _, _, rfl, rfl, cell, (((i_7 : Int) + 300)), rfl, ?_, fun H_15 mixed_16 hp_18 sm_17 => ?_⟩
          · walk_at "side"
          have fr : Fr H _ [(l_1, (.lst (List.map V.int word_4) : HO))] := fr.call sm_17
          refine ⟨_, _, rfl, rfl, ⟨by decide, by decide⟩, _, rfl, _, _, rfl, rfl, ?_, ?_⟩
          · walk_at "side"
          refine ⟨((mixed_16 / 5) % heaps), rfl, fr, ?_⟩
          · first | exact ⟨hmm1, hmm2⟩ | exact ⟨Int.emod_nonneg _ (by omega), Int.emod_lt_of_pos _ (by omega)⟩
        · intro h14
          refine ⟨_, rfl, ?_⟩
          refine iteF ?_
          refine ⟨(rest_3 % heaps), rfl, fr, ?_⟩
          · first | exact ⟨hmm1, hmm2⟩ | exact ⟨Int.emod_nonneg _ (by omega), Int.emod_lt_of_pos _ (by omega)⟩
      rintro s_20 H_19 ⟨number_13, rfl, fr, hpk⟩
      refine ⟨_, rfl, (.inl ⟨rfl, _, (SqL.of fr.at0)⟩), _, rfl, _, _, _, rfl, rfl, fr.at0, ?_, ?_⟩
      · walk_at "size"
      have fr : Fr H _ [(l_1, (.lst (List.map V.int ((word_4 ++ [number_13]))) : HO))] := Fr.wrk fr 0 rfl (lst_app V.int _ _)
      refine ⟨(rest_3 / heaps), (word_4 ++ [number_13]), _, _, rfl, fr, ?_, ?_⟩
      · walk_at "inv"
      · exact hw.app hpk.1 (by omega)
    rintro s_22 H_21 ⟨rest_3, word_4, y_5, y_6, rfl, fr, hl, hw⟩
    refine ⟨_, rfl, ?_⟩
    exact q _ _ word_4 (by omega) (by exact hw) fr.same fr.n0 fr.at0
def sp_law (K : PySem.W.Frag) : Sp := fun vs H Q _ => ∃ (a_script : Addr) (script : List Int), vs = [V.ref a_script] ∧ SqL K H a_script (List.map V.int script) ∧ (script.length ≤ 63) ∧ (∀ (H1 : Hp) (res : Bool), (res = true) → Same H H1 → Q (V.bl res) H1)
theorem sc_law : FnScope ["_law_script", "_law_head", "_law_n", "_law_pack", "_law_second", "_law_k", "_law_marks_here", "_law_seen", "_law_cell", "_law_bad"] ["_law_script"] (defScope s_law) := ⟨rfl, rfl, rfl, by decide +kernel, rfl, by decide +kernel, by decide +kernel⟩
theorem ok_law (T : Txt K mg) : FnOk P w K mg base CX0 7 T.f_law T.fd_law ["_law_script"] (sp_law K) := by
  refine T.F_law.ok sc_law (fun vs H Q E h => ?_) (fun cdv A outer s H vs Q E hr h => ?_)
  · obtain ⟨a_script, script, rfl, _⟩ := h; rfl
  · obtain ⟨a_script, script, rfl, h_script, pre0, q⟩ := h
    have fr := Fr.nil H
    refine ⟨_, (pss_cons (ps_set (i := 1) sc_law.nd rfl (Or.inl rfl) (pe_call (ok_law_cell_at T) (hr.mono (by decide)) (by rfl) T.g_law_cell_at T.F_law_cell_at.kp T.b_law_cell_at .nil pass0 (pa_cons (pv 0) (pa_cons pe_int pa_nil))))
          (pss_cons (ps_set (i := 2) sc_law.nd rfl (Or.inl rfl) (pe_op op_add pe_int (pe_op op_mod (pv 1) pe_int)))
          (pss_cons (ps_set (i := 3) sc_law.nd rfl (Or.inl rfl) (pe_make T.mk_Pack (ok_Pack___init T) (hr.mono (by decide)) (by rfl) T.mg_Pack T.b_Pack___init .nil pass0 (pa_cons (pv 2) pa_nil)))
          (pss_cons (ps_if (pt_not (pt_valS (pe_call (ok_law_refused_a T) (hr.mono (by decide)) (by rfl) T.g_law_refused T.F_law_refused.kp T.b_law_refused .nil pass0 (pa_cons (pv 3) (pa_cons pe_non (pa_cons pe_non (pa_cons pe_str pa_nil))))))) (pss_one (ps_ret pe_bl)) pss_nil)
          (pss_cons (ps_set (i := 4) sc_law.nd rfl (Or.inl rfl) (pe_call (ok_law_cell_at T) (hr.mono (by decide)) (by rfl) T.g_law_cell_at T.F_law_cell_at.kp T.b_law_cell_at .nil pass0 (pa_cons (pv 0) (pa_cons pe_int pa_nil))))
          (pss_cons (ps_for PassesOwn.never rfl (pi_range1 (by rfl) T.m_range (pa_cons (pe_op op_mod (pv 4) pe_int) pa_nil)) (pg_name (i := 5) sc_law.nd rfl (Or.inl rfl)) (pss_cons (ps_set (i := 6) sc_law.nd rfl (Or.inl rfl) (pe_call (ok_law_marks T) (hr.mono (by decide)) (by rfl) T.g_law_marks T.F_law_marks.kp T.b_law_marks .nil pass0 (pa_cons (pe_op op_add (pe_op op_fdiv (pv 4) pe_int) (pv 5)) (pa_cons pe_int pa_nil))))
          (pss_one (ps_expr (pe_meth (pv 3) T.cl_Pack T.m_Pack_riffle (ok_Pack_riffle T) (hr.mono (by decide)) T.b_Pack_riffle .nil pass0 (pa_cons (pv 6) (pa_cons (pe_call (ok_law_word T) (hr.mono (by decide)) (by rfl) T.g_law_word T.F_law_word.kp T.b_law_word .nil pass0 (pa_cons (pe_op op_add (pv 1) (pv 5)) (pa_cons (pe_callB (show CallR _ _ (rLenL K) from call_lenL) (by rfl) T.m_len (by decide +kernel) (pa_cons (pv 6) pa_nil)) (pa_cons (pv 2) pa_nil)))) pa_nil)))))))
          (pss_cons (ps_set (i := 7) sc_law.nd rfl (Or.inl rfl) (pe_tup (pa_cons (pe_meth0 (pv 3) T.cl_Pack T.m_Pack_order (ok_Pack_order T) (hr.mono (by decide)) T.b_Pack_order .nil pass0 ) (pa_cons (pe_meth0 (pv 3) T.cl_Pack T.m_Pack_done (ok_Pack_done T) (hr.mono (by decide)) T.b_Pack_done .nil pass0 ) (pa_cons (pe_meth0 (pv 3) T.cl_Pack T.m_Pack_whole (ok_Pack_whole T) (hr.mono (by decide)) T.b_Pack_whole .nil pass0 ) pa_nil)))))
          (pss_cons (ps_for PassesOwn.never rfl (pi_list (pe_op op_cat (pe_slice (show SlR _ (rSlL K) from sl_list) (pv 0) (po_some pe_int) (po_some pe_int)) (pe_lst (pa_cons pe_int pa_nil)))) (pg_name (i := 8) sc_law.nd rfl (Or.inl rfl)) (pss_cons (ps_set (i := 6) sc_law.nd rfl (Or.inl rfl) (pe_call (ok_law_marks T) (hr.mono (by decide)) (by rfl) T.g_law_marks T.F_law_marks.kp T.b_law_marks .nil pass0 (pa_cons (pv 8) (pa_cons pe_int pa_nil))))
          (pss_cons (ps_for PassesOwn.never rfl (pi_list (pe_call (ok_law_bad_marks T) (hr.mono (by decide)) (by rfl) T.g_law_bad_marks T.F_law_bad_marks.kp T.b_law_bad_marks .nil pass0 (pa_cons (pe_op op_fdiv (pv 8) pe_int) pa_nil))) (pg_name (i := 9) sc_law.nd rfl (Or.inl rfl)) (pss_one (ps_if (pt_not (pt_valS (pe_call (ok_law_refused_b T) (hr.mono (by decide)) (by rfl) T.g_law_refused T.F_law_refused.kp T.b_law_refused .nil pass0 (pa_cons (pv 3) (pa_cons (pv 9) (pa_cons (pe_op op_rep (pe_lst (pa_cons pe_int pa_nil)) (pe_op op_add (pv 2) (pe_op op_mod (pv 8) pe_int))) (pa_cons pe_str pa_nil))))))) (pss_one (ps_ret pe_bl)) pss_nil)))
          (pss_cons (ps_for PassesOwn.never rfl (pi_list (pe_call (ok_law_bad_words T) (hr.mono (by decide)) (by rfl) T.g_law_bad_words T.F_law_bad_words.kp T.b_law_bad_words .nil pass0 (pa_cons (pv 2) (pa_cons (pe_callB (show CallR _ _ (rLenL K) from call_lenL) (by rfl) T.m_len (by decide +kernel) (pa_cons (pv 6) pa_nil)) (pa_cons (pe_op op_fdiv (pv 8) pe_int) pa_nil))))) (pg_name (i := 9) sc_law.nd rfl (Or.inl rfl)) (pss_one (ps_if (pt_not (pt_valS (pe_call (ok_law_refused_c T) (hr.mono (by decide)) (by rfl) T.g_law_refused T.F_law_refused.kp T.b_law_refused .nil pass0 (pa_cons (pv 3) (pa_cons (pv 6) (pa_cons (pv 9) (pa_cons pe_str pa_nil))))))) (pss_one (ps_ret pe_bl)) pss_nil)))
          (pss_one (ps_if (PW.pt (pw_or (pt_not (pt_valS (pe_call (ok_law_packs T) (hr.mono (by decide)) (by rfl) T.g_law_packs T.F_law_packs.kp T.b_law_packs .nil pass0 (pa_cons (pv 8) pa_nil)))) (pw_or1 (pt_cmpR (opS (show OpR _ _ (rNeX K) from op_neX (hu64 hr))) (pe_tup (pa_cons (pe_meth0 (pv 3) T.cl_Pack T.m_Pack_order (ok_Pack_order T) (hr.mono (by decide)) T.b_Pack_order .nil pass0 ) (pa_cons (pe_meth0 (pv 3) T.cl_Pack T.m_Pack_done (ok_Pack_done T) (hr.mono (by decide)) T.b_Pack_done .nil pass0 ) (pa_cons (pe_meth0 (pv 3) T.cl_Pack T.m_Pack_whole (ok_Pack_whole T) (hr.mono (by decide)) T.b_Pack_whole .nil pass0 ) pa_nil)))) (pv 7) (nomark _))))) (pss_one (ps_ret pe_bl)) pss_nil))))))
          (pss_cons (ps_for PassesOwn.never rfl (pi_range1 (by rfl) T.m_range (pa_cons (pe_op op_mod (pv 4) pe_int) pa_nil)) (pg_name (i := 5) sc_law.nd rfl (Or.inl rfl)) (pss_one (ps_expr (pe_meth0 (pv 3) T.cl_Pack T.m_Pack_undo (ok_Pack_undo T) (hr.mono (by decide)) T.b_Pack_undo .nil pass0 ))))
          (pss_cons (ps_if (PW.pt (pw_or (pt_not (pt_valS (pe_call (ok_law_refused_a T) (hr.mono (by decide)) (by rfl) T.g_law_refused T.F_law_refused.kp T.b_law_refused .nil pass0 (pa_cons (pv 3) (pa_cons pe_non (pa_cons pe_non (pa_cons pe_str pa_nil))))))) (pw_or1 (pt_cmpR (opS (show OpR _ _ (rNeX K) from op_neX (hu64 hr))) (pe_meth0 (pv 3) T.cl_Pack T.m_Pack_order (ok_Pack_order T) (hr.mono (by decide)) T.b_Pack_order .nil pass0 ) (pe_listRg rfl (by rfl) T.m_list (prg_1 (by rfl) T.m_range (pv 2))) (nomark _))))) (pss_one (ps_ret pe_bl)) pss_nil)
          (pss_one (ps_ret (pe_cmpR (show OpR _ _ (rEqX K) from op_eqX (hu64 hr)) (pe_meth (pv 3) T.cl_Pack T.m_Pack_riffle (ok_Pack_riffle T) (hr.mono (by decide)) T.b_Pack_riffle .nil pass0 (pa_cons (pe_lst (pa_cons pe_bl pa_nil)) (pa_cons (pe_op op_rep (pe_lst (pa_cons pe_int pa_nil)) (pv 2)) pa_nil))) (pe_listRevR rfl (by rfl) T.m_list (by rfl) T.m_reversed (by rfl) T.m_range (pv 2)) (nomark _)))))))))))))), ?_⟩
    refine ⟨_, rfl, a_script, script, 0, rfl, (fr.same.seq h_script), ?_, fun H_1 cell_at_2 hp_4 sm_3 => ?_⟩
    · omega
    have fr : Fr H _ [] := fr.call sm_3
    refine ⟨_, rfl, _, _, rfl, rfl, (show (0 : Int) < _ by decide), _, _, rfl, rfl, ?_⟩
    refine ⟨_, rfl, fun ob_5 dx_6 nob_7 ndx_8 nex_9 => ?_⟩
    have fr : Fr H _ [(ob_5, (.ins T.C_Pack dx_6 [] : HO)), (dx_6, (.own ob_5 : HO))] := Fr.made fr nob_7 ndx_8 nex_9
    have fr : Fr H _ [(dx_6, (.own ob_5 : HO)), (ob_5, (.ins T.C_Pack dx_6 [] : HO))] := Fr.upk fr 1 rfl
    have fr : Fr H _ [(ob_5, (.ins T.C_Pack dx_6 [] : HO)), (dx_6, (.own ob_5 : HO))] := Fr.upk fr 1 rfl
    have frF_10 := Fr.split (bpre := [(ob_5, (.ins T.C_Pack dx_6 [] : HO)), (dx_6, (.own ob_5 : HO))]) (pre := []) (bts := []) (ts := []) fr
    have fr : Fr H _ [] := Fr.mn frF_10
    refine ⟨ob_5, dx_6, ((1 + (cell_at_2 % 12))), _, rfl, (Fr.lent frF_10), ?_, fun H_11 k_13 hp_14 hp_15 ff_12 => ?_⟩
    · omega
    have fr : Fr H _ ([] ++ List.flatten [pkOwn T.C_Pack ob_5 k_13]) := Fr.back2 (bpre := [(ob_5, (.ins T.C_Pack dx_6 [] : HO)), (dx_6, (.own ob_5 : HO))]) (pre := []) (bts := []) (ts := []) (bpre' := []) (bts' := [pkOwn T.C_Pack ob_5 k_13]) frF_10 ff_12
    refine ⟨rfl, ?_⟩
    refine ⟨_, rfl, ob_5, k_13, ((V.str ("riffle"))), rfl, (Fr.pk (pre := []) (ts := [pkOwn T.C_Pack ob_5 k_13]) fr 0 rfl), ?_, ?_, fun H_16 refused_17 hp_19 sm_18 => ?_⟩
    · first | exact List.length_eq_zero_iff.mpr (by assumption) | exact List.length_eq_zero_iff.mpr hpn.1
    · rfl
    have fr : Fr H _ ([] ++ List.flatten [pkOwn T.C_Pack ob_5 k_13]) := fr.call sm_18
    subst hp_19
    refine ⟨_, rfl, fun _ => ?_, (fun h => nomatch h)⟩
    refine iteF ?_
    refine ⟨_, rfl, a_script, script, 1, rfl, (fr.same.seq h_script), ?_, fun H_20 cell_at_21 hp_23 sm_22 => ?_⟩
    · omega
    have fr : Fr H _ ([] ++ List.flatten [pkOwn T.C_Pack ob_5 k_13]) := fr.call sm_22
    refine ⟨_, rfl, _, _, rfl, rfl, (show (0 : Int) < _ by decide), _, rfl, ?_, ?_, ?_⟩
    · walk_at "side"
    · walk_at "side"
    refine for_it (walkR (n := (Int.toNat ((cell_at_21 % 4))))) (fun (i : Nat) σ H1 => ∃ (k_24 : PK) (y_25 : Option V) (y_26 : Option V), σ = [some (V.ref a_script), some (V.int cell_at_2), some (V.int ((1 + (cell_at_2 % 12)))), some (V.ref ob_5), some (V.int cell_at_21), y_25, y_26, none, none, none] ∧ Fr H H1 ([] ++ List.flatten [pkOwn T.C_Pack ob_5 k_24]) ∧ (PkS (Int.toNat ((1 + (cell_at_2 % 12)))) i k_24)) ?_ ?_ ?_ ?_
    · refine ⟨k_13, _, _, rfl, fr, ?_⟩
      · exact PkS.start (by omega) (by assumption) (by assumption)
    · rintro i σ H1 hi ⟨k_24, y_25, y_26, rfl, fr, hps⟩
      exact trivial
    · rintro i_27 x_29 s_32 H_30 H_31 hi_28 ⟨k_24, y_25, y_26, rfl, fr, hps⟩ ⟨rfl, rfl⟩
      refine ⟨_, rfl, _, _, rfl, rfl, ⟨by decide, by decide⟩, _, rfl, _, _, rfl, rfl, (((cell_at_21 / 4) + (i_27 : Int))), 4, rfl, ?_, fun H_33 p_37 marks_34 hp_36 sm_35 np_38 ep_39 => ?_⟩
      · omega
      have fr : Fr H _ ([(p_37, (.lst (List.map V.bl marks_34) : HO))] ++ List.flatten [pkOwn T.C_Pack ob_5 k_24]) := fr.cnew sm_35 np_38 ep_39
      have hml := hp_36
      refine ⟨_, rfl, _, _, _, rfl, (PkAt.p (Fr.pk (pre := [(p_37, (.lst (List.map V.bl marks_34) : HO))]) (ts := [pkOwn T.C_Pack ob_5 k_24]) fr 0 rfl)), (pkF_no _ _ (by decide +kernel) (by decide +kernel)), _, rfl, _, rfl, _, rfl, _, _, rfl, rfl, _, rfl, _, _, _, rfl, (SqL.of fr.at0), (List.length_map _), _, rfl, ((cell_at_2 + (i_27 : Int))), ((marks_34.length : Int)), ((1 + (cell_at_2 % 12))), rfl, ?_, ?_, fun H_40 p_45 word_41 hp_43 hp_44 sm_42 np_46 ep_47 => ?_⟩
      · omega
      · omega
      have fr : Fr H _ ([(p_45, (.lst (List.map V.int word_41) : HO)), (p_37, (.lst (List.map V.bl marks_34) : HO))] ++ List.flatten [pkOwn T.C_Pack ob_5 k_24]) := fr.cnew sm_42 np_46 ep_47
      have hwl := hp_43
      have hww := hp_44
      rw [Int.toNat_natCast] at hww
      have frF_48 := Fr.split (bpre := []) (pre := [(p_45, (.lst (List.map V.int word_41) : HO)), (p_37, (.lst (List.map V.bl marks_34) : HO))]) (bts := [pkOwn T.C_Pack ob_5 k_24]) (ts := []) fr
      have fr : Fr H _ [(p_45, (.lst (List.map V.int word_41) : HO)), (p_37, (.lst (List.map V.bl marks_34) : HO))] := Fr.mn frF_48
      refine ⟨ob_5, k_24, p_37, marks_34, p_45, word_41, _, rfl, (Fr.lent frF_48), fr.at1, fr.at0, ?_, ?_, ?_, fun H_49 k_51 p_52 riffle_53 hp_54 hp_55 hp_56 ff_50 => ?_⟩
      · exact hww
      · have := hps.u.olen; omega
      · have := hps.u.len; omega
      have fr : Fr H _ ([(p_52, (.lst (List.map V.int riffle_53) : HO)), (p_45, (.lst (List.map V.int word_41) : HO)), (p_37, (.lst (List.map V.bl marks_34) : HO))] ++ List.flatten [pkOwn T.C_Pack ob_5 k_51]) := Fr.back2 (bpre := []) (pre := [(p_45, (.lst (List.map V.int word_41) : HO)), (p_37, (.lst (List.map V.bl marks_34) : HO))]) (bts := [pkOwn T.C_Pack ob_5 k_24]) (ts := []) (bpre' := [(p_52, (.lst (List.map V.int riffle_53) : HO))]) (bts' := [pkOwn T.C_Pack ob_5 k_51]) frF_48 ff_50
      subst hp_56
      have hps2 := hps.riffle (by omega) (by omega) hww hp_54 hp_55
      have fr : Fr H _ ([(p_45, (.lst (List.map V.int word_41) : HO)), (p_37, (.lst (List.map V.bl marks_34) : HO))] ++ List.flatten [pkOwn T.C_Pack ob_5 k_51]) := Fr.dk fr 0
      have fr : Fr H _ ([(p_37, (.lst (List.map V.bl marks_34) : HO))] ++ List.flatten [pkOwn T.C_Pack ob_5 k_51]) := Fr.dk fr 0
      have fr : Fr H _ ([] ++ List.flatten [pkOwn T.C_Pack ob_5 k_51]) := Fr.dk fr 0
      refine ⟨k_51, _, _, rfl, fr, ?_⟩
      · exact hps2
    rintro s_58 H_57 ⟨k_24, y_25, y_26, rfl, fr, hps⟩
    have hpu := hps.u
    have hol := hpu.olen
    have hph := Nat.le_trans hps.hp (pow4 (by omega))
    refine ⟨_, rfl, _, _, _, rfl, (PkAt.p (Fr.pk (pre := []) (ts := [pkOwn T.C_Pack ob_5 k_24]) fr 0 rfl)), (pkF_no _ _ (by decide +kernel) (by decide +kernel)), ob_5, k_24, rfl, (Fr.pk (pre := []) (ts := [pkOwn T.C_Pack ob_5 k_24]) fr 0 rfl), fun H_59 p_63 Pack_order_60 hp_62 sm_61 np_64 ep_65 => ?_⟩
    have fr : Fr H _ ([(p_63, (.lst (List.map V.int Pack_order_60) : HO))] ++ List.flatten [pkOwn T.C_Pack ob_5 k_24]) := fr.cnew sm_61 np_64 ep_65
    subst hp_62
    refine ⟨_, rfl, _, _, _, rfl, (PkAt.p (Fr.pk (pre := [(p_63, (.lst (List.map V.int k_24.order) : HO))]) (ts := [pkOwn T.C_Pack ob_5 k_24]) fr 0 rfl)), (pkF_no _ _ (by decide +kernel) (by decide +kernel)), ?_⟩
    refine ⟨ob_5, k_24, rfl, (Fr.pk (pre := [(p_63, (.lst (List.map V.int k_24.order) : HO))]) (ts := [pkOwn T.C_Pack ob_5 k_24]) fr 0 rfl), ?_, fun H_66 p_68 r_69 done_70 hp_72 hc_71 ff_67 => ?_⟩
    · have := hpu.len; omega
    have fr : Fr H _ ([(p_68, (.lst (List.map peRef r_69) : HO)), (p_63, (.lst (List.map V.int k_24.order) : HO))] ++ List.flatten [pesOwn r_69, pkOwn T.C_Pack ob_5 k_24]) := Fr.comp2 (pre := [(p_63, (.lst (List.map V.int k_24.order) : HO))]) (ts := [pkOwn T.C_Pack ob_5 k_24]) (bpre' := [(p_68, (.lst (List.map peRef r_69) : HO))]) (bts' := [pesOwn r_69]) fr ff_67
    subst hp_72
    refine ⟨_, rfl, _, _, _, rfl, (PkAt.p (Fr.pk (pre := [(p_68, (.lst (List.map peRef r_69) : HO)), (p_63, (.lst (List.map V.int k_24.order) : HO))]) (ts := [pesOwn r_69, pkOwn T.C_Pack ob_5 k_24]) fr 1 rfl)), (pkF_no _ _ (by decide +kernel) (by decide +kernel)), ob_5, k_24, rfl, (Fr.pk (pre := [(p_68, (.lst (List.map peRef r_69) : HO)), (p_63, (.lst (List.map V.int k_24.order) : HO))]) (ts := [pesOwn r_69, pkOwn T.C_Pack ob_5 k_24]) fr 1 rfl), ?_, ?_, ?_, fun H_73 p_78 a_81 Pack_whole_80 a_83 Pack_whole_82 hp_76 hp_77 ff_79 => ?_⟩
    · exact hpu.okO
    · omega
    · exact hph
    subst hp_76
    subst hp_77
    have fr : Fr H _ ([(p_78, (.tup [(V.ref a_81), (V.ref a_83)] : HO)), (a_81, (.lst (List.map V.bl ((((wholeP k_24.order.length k_24.past).1)))) : HO)), (a_83, (.lst (List.map V.int ((((wholeP k_24.order.length k_24.past).2)))) : HO)), (p_68, (.lst (List.map peRef r_69) : HO)), (p_63, (.lst (List.map V.int k_24.order) : HO))] ++ List.flatten [pesOwn r_69, pkOwn T.C_Pack ob_5 k_24]) := (Fr.comp fr ff_79 :)
    refine ⟨(Evl.sz_of (show 3 ≤ 100000 by decide)), fun t_84 nt_85 => ?_⟩
    have fr : Fr H _ ([(t_84, (.tup [(V.ref p_63), (V.ref p_68), (V.ref p_78)] : HO)), (p_78, (.tup [(V.ref a_81), (V.ref a_83)] : HO)), (a_81, (.lst (List.map V.bl ((((wholeP k_24.order.length k_24.past).1)))) : HO)), (a_83, (.lst (List.map V.int ((((wholeP k_24.order.length k_24.past).2)))) : HO)), (p_68, (.lst (List.map peRef r_69) : HO)), (p_63, (.lst (List.map V.int k_24.order) : HO))] ++ List.flatten [pesOwn r_69, pkOwn T.C_Pack ob_5 k_24]) := fr.new nt_85
    refine ⟨_, rfl, _, rfl, _, rfl, _, _, rfl, (fr.same.seq h_script), fun l_86 nl_87 => ?_⟩
    have fr : Fr H _ ([(l_86, (.lst (List.map V.int ((cutL script (some 2) (some 14)))) : HO)), (t_84, (.tup [(V.ref p_63), (V.ref p_68), (V.ref p_78)] : HO)), (p_78, (.tup [(V.ref a_81), (V.ref a_83)] : HO)), (a_81, (.lst (List.map V.bl ((((wholeP k_24.order.length k_24.past).1)))) : HO)), (a_83, (.lst (List.map V.int ((((wholeP k_24.order.length k_24.past).2)))) : HO)), (p_68, (.lst (List.map peRef r_69) : HO)), (p_63, (.lst (List.map V.int k_24.order) : HO))] ++ List.flatten [pesOwn r_69, pkOwn T.C_Pack ob_5 k_24]) := (fr.new nl_87).cast (lst_cut _ _ _ _)
    refine ⟨(Evl.sz_of (show 1 ≤ 100000 by decide)), fun l_88 nl_89 => ?_⟩
    have fr : Fr H _ ([(l_88, (.lst (List.map V.int ([5])) : HO)), (l_86, (.lst (List.map V.int ((cutL script (some 2) (some 14)))) : HO)), (t_84, (.tup [(V.ref p_63), (V.ref p_68), (V.ref p_78)] : HO)), (p_78, (.tup [(V.ref a_81), (V.ref a_83)] : HO)), (a_81, (.lst (List.map V.bl ((((wholeP k_24.order.length k_24.past).1)))) : HO)), (a_83, (.lst (List.map V.int ((((wholeP k_24.order.length k_24.past).2)))) : HO)), (p_68, (.lst (List.map peRef r_69) : HO)), (p_63, (.lst (List.map V.int k_24.order) : HO))] ++ List.flatten [pesOwn r_69, pkOwn T.C_Pack ob_5 k_24]) := fr.new nl_89
    refine ⟨_, _, _, _, rfl, rfl, fr.at1, fr.at0, ?_, fun l_90 nl_91 => ?_⟩
    · walk_at "size"
    have fr : Fr H _ ([(l_90, (.lst (List.map V.int ((((cutL script (some 2) (some 14))) ++ ([5])))) : HO)), (l_88, (.lst (List.map V.int ([5])) : HO)), (l_86, (.lst (List.map V.int ((cutL script (some 2) (some 14)))) : HO)), (t_84, (.tup [(V.ref p_63), (V.ref p_68), (V.ref p_78)] : HO)), (p_78, (.tup [(V.ref a_81), (V.ref a_83)] : HO)), (a_81, (.lst (List.map V.bl ((((wholeP k_24.order.length k_24.past).1)))) : HO)), (a_83, (.lst (List.map V.int ((((wholeP k_24.order.length k_24.past).2)))) : HO)), (p_68, (.lst (List.map peRef r_69) : HO)), (p_63, (.lst (List.map V.int k_24.order) : HO))] ++ List.flatten [pesOwn r_69, pkOwn T.C_Pack ob_5 k_24]) := (fr.new nl_91).cast (lst_cat _ _ _)
    refine ⟨_, rfl, ⟨_, (SqL.of fr.at0)⟩, ?_⟩
    have fr : Fr H _ ([(l_90, (.lst (List.map V.int ((((cutL script (some 2) (some 14))) ++ ([5])))) : HO)), (l_86, (.lst (List.map V.int ((cutL script (some 2) (some 14)))) : HO)), (t_84, (.tup [(V.ref p_63), (V.ref p_68), (V.ref p_78)] : HO)), (p_78, (.tup [(V.ref a_81), (V.ref a_83)] : HO)), (a_81, (.lst (List.map V.bl ((((wholeP k_24.order.length k_24.past).1)))) : HO)), (a_83, (.lst (List.map V.int ((((wholeP k_24.order.length k_24.past).2)))) : HO)), (p_68, (.lst (List.map peRef r_69) : HO)), (p_63, (.lst (List.map V.int k_24.order) : HO))] ++ List.flatten [pesOwn r_69, pkOwn T.C_Pack ob_5 k_24]) := Fr.dk fr 1
    have fr : Fr H _ ([(l_90, (.lst (List.map V.int ((((cutL script (some 2) (some 14))) ++ ([5])))) : HO)), (t_84, (.tup [(V.ref p_63), (V.ref p_68), (V.ref p_78)] : HO)), (p_78, (.tup [(V.ref a_81), (V.ref a_83)] : HO)), (a_81, (.lst (List.map V.bl ((((wholeP k_24.order.length k_24.past).1)))) : HO)), (a_83, (.lst (List.map V.int ((((wholeP k_24.order.length k_24.past).2)))) : HO)), (p_68, (.lst (List.map peRef r_69) : HO)), (p_63, (.lst (List.map V.int k_24.order) : HO))] ++ List.flatten [pesOwn r_69, pkOwn T.C_Pack ob_5 k_24]) := Fr.dk fr 1
    refine for_it (walkL V.int ((((cutL script (some 2) (some 14))) ++ ([5])))) (fun (i : Nat) σ H1 => ∃ (y_92 : Option V) (y_93 : Option V) (y_94 : Option V), σ = [some (V.ref a_script), some (V.int cell_at_2), some (V.int ((1 + (cell_at_2 % 12)))), some (V.ref ob_5), some (V.int cell_at_21), y_25, y_92, some (V.ref t_84), y_93, y_94] ∧ Fr H H1 ([(l_90, (.lst (List.map V.int ((((cutL script (some 2) (some 14))) ++ ([5])))) : HO)), (t_84, (.tup [(V.ref p_63), (V.ref p_68), (V.ref p_78)] : HO)), (p_78, (.tup [(V.ref a_81), (V.ref a_83)] : HO)), (a_81, (.lst (List.map V.bl ((((wholeP k_24.order.length k_24.past).1)))) : HO)), (a_83, (.lst (List.map V.int ((((wholeP k_24.order.length k_24.past).2)))) : HO)), (p_68, (.lst (List.map peRef r_69) : HO)), (p_63, (.lst (List.map V.int k_24.order) : HO))] ++ List.flatten [pesOwn r_69, pkOwn T.C_Pack ob_5 k_24])) ?_ ?_ ?_ ?_
    · have fr : Fr H _ ([(l_90, (.lst (List.map V.int ((((cutL script (some 2) (some 14))) ++ ([5])))) : HO)), (t_84, (.tup [(V.ref p_63), (V.ref p_68), (V.ref p_78)] : HO)), (p_78, (.tup [(V.ref a_81), (V.ref a_83)] : HO)), (a_81, (.lst (List.map V.bl ((((wholeP k_24.order.length k_24.past).1)))) : HO)), (a_83, (.lst (List.map V.int ((((wholeP k_24.order.length k_24.past).2)))) : HO)), (p_68, (.lst (List.map peRef r_69) : HO)), (p_63, (.lst (List.map V.int k_24.order) : HO))] ++ List.flatten [pkOwn T.C_Pack ob_5 k_24, pesOwn r_69]) := Fr.tup (pre := [(l_90, (.lst (List.map V.int ((((cutL script (some 2) (some 14))) ++ ([5])))) : HO)), (t_84, (.tup [(V.ref p_63), (V.ref p_68), (V.ref p_78)] : HO)), (p_78, (.tup [(V.ref a_81), (V.ref a_83)] : HO)), (a_81, (.lst (List.map V.bl ((((wholeP k_24.order.length k_24.past).1)))) : HO)), (a_83, (.lst (List.map V.int ((((wholeP k_24.order.length k_24.past).2)))) : HO)), (p_68, (.lst (List.map peRef r_69) : HO)), (p_63, (.lst (List.map V.int k_24.order) : HO))]) (ts := [pesOwn r_69, pkOwn T.C_Pack ob_5 k_24]) fr 1 rfl
      have fr : Fr H _ ([(l_90, (.lst (List.map V.int ((((cutL script (some 2) (some 14))) ++ ([5])))) : HO)), (t_84, (.tup [(V.ref p_63), (V.ref p_68), (V.ref p_78)] : HO)), (p_78, (.tup [(V.ref a_81), (V.ref a_83)] : HO)), (a_81, (.lst (List.map V.bl ((((wholeP k_24.order.length k_24.past).1)))) : HO)), (a_83, (.lst (List.map V.int ((((wholeP k_24.order.length k_24.past).2)))) : HO)), (p_68, (.lst (List.map peRef r_69) : HO)), (p_63, (.lst (List.map V.int k_24.order) : HO))] ++ List.flatten [pesOwn r_69, pkOwn T.C_Pack ob_5 k_24]) := Fr.tup (pre := [(l_90, (.lst (List.map V.int ((((cutL script (some 2) (some 14))) ++ ([5])))) : HO)), (t_84, (.tup [(V.ref p_63), (V.ref p_68), (V.ref p_78)] : HO)), (p_78, (.tup [(V.ref a_81), (V.ref a_83)] : HO)), (a_81, (.lst (List.map V.bl ((((wholeP k_24.order.length k_24.past).1)))) : HO)), (a_83, (.lst (List.map V.int ((((wholeP k_24.order.length k_24.past).2)))) : HO)), (p_68, (.lst (List.map peRef r_69) : HO)), (p_63, (.lst (List.map V.int k_24.order) : HO))]) (ts := [pkOwn T.C_Pack ob_5 k_24, pesOwn r_69]) fr 1 rfl
      refine ⟨_, _, _, rfl, fr⟩
    · rintro i σ H1 hi ⟨y_92, y_93, y_94, rfl, fr⟩
      exact fr.at0
    · rintro i_95 x_97 s_100 H_98 H_99 hi_96 ⟨y_92, y_93, y_94, rfl, fr⟩ ⟨rfl, y_101, hy_102, rfl⟩
      refine ⟨_, rfl, y_101, 5, rfl, ?_, fun H_103 p_107 marks_104 hp_106 sm_105 np_108 ep_109 => ?_⟩
      · omega
      have fr : Fr H _ ([(p_107, (.lst (List.map V.bl marks_104) : HO)), (l_90, (.lst (List.map V.int ((((cutL script (some 2) (some 14))) ++ ([5])))) : HO)), (t_84, (.tup [(V.ref p_63), (V.ref p_68), (V.ref p_78)] : HO)), (p_78, (.tup [(V.ref a_81), (V.ref a_83)] : HO)), (a_81, (.lst (List.map V.bl ((((wholeP k_24.order.length k_24.past).1)))) : HO)), (a_83, (.lst (List.map V.int ((((wholeP k_24.order.length k_24.past).2)))) : HO)), (p_68, (.lst (List.map peRef r_69) : HO)), (p_63, (.lst (List.map V.int k_24.order) : HO))] ++ List.flatten [pesOwn r_69, pkOwn T.C_Pack ob_5 k_24]) := fr.cnew sm_105 np_108 ep_109
      have hml := hp_106
      refine ⟨_, rfl, _, _, rfl, rfl, ⟨by decide, by decide⟩, ((y_101 / 7)), rfl, fun H_110 p_114 rw_115 bad_marks_111 hp_113 tn_116 sm_112 => ?_⟩
      have fr : Fr H _ ([(p_114, (.lst (List.map rref rw_115) : HO)), (p_107, (.lst (List.map V.bl marks_104) : HO)), (l_90, (.lst (List.map V.int ((((cutL script (some 2) (some 14))) ++ ([5])))) : HO)), (t_84, (.tup [(V.ref p_63), (V.ref p_68), (V.ref p_78)] : HO)), (p_78, (.tup [(V.ref a_81), (V.ref a_83)] : HO)), (a_81, (.lst (List.map V.bl ((((wholeP k_24.order.length k_24.past).1)))) : HO)), (a_83, (.lst (List.map V.int ((((wholeP k_24.order.length k_24.past).2)))) : HO)), (p_68, (.lst (List.map peRef r_69) : HO)), (p_63, (.lst (List.map V.int k_24.order) : HO))] ++ List.flatten [rosOwn gV rw_115, pesOwn r_69, pkOwn T.C_Pack ob_5 k_24]) := Fr.ctab (pre := [(p_107, (.lst (List.map V.bl marks_104) : HO)), (l_90, (.lst (List.map V.int ((((cutL script (some 2) (some 14))) ++ ([5])))) : HO)), (t_84, (.tup [(V.ref p_63), (V.ref p_68), (V.ref p_78)] : HO)), (p_78, (.tup [(V.ref a_81), (V.ref a_83)] : HO)), (a_81, (.lst (List.map V.bl ((((wholeP k_24.order.length k_24.past).1)))) : HO)), (a_83, (.lst (List.map V.int ((((wholeP k_24.order.length k_24.past).2)))) : HO)), (p_68, (.lst (List.map peRef r_69) : HO)), (p_63, (.lst (List.map V.int k_24.order) : HO))]) (ts := [pesOwn r_69, pkOwn T.C_Pack ob_5 k_24]) fr sm_112 tn_116
      have hbad := hp_113
      refine ⟨_, rfl, ⟨_, (SqL.of fr.at0)⟩, ?_⟩
      refine for_it (walkT (K := K) (a := p_114) (rows := rw_115) tn_116.c) (fun (i : Nat) σ H1 => ∃ (y_117 : Option V), σ = [some (V.ref a_script), some (V.int cell_at_2), some (V.int ((1 + (cell_at_2 % 12)))), some (V.ref ob_5), some (V.int cell_at_21), y_25, some (V.ref p_107), some (V.ref t_84), some (V.int y_101), y_117] ∧ Fr H H1 ([(p_114, (.lst (List.map rref rw_115) : HO)), (p_107, (.lst (List.map V.bl marks_104) : HO)), (l_90, (.lst (List.map V.int ((((cutL script (some 2) (some 14))) ++ ([5])))) : HO)), (t_84, (.tup [(V.ref p_63), (V.ref p_68), (V.ref p_78)] : HO)), (p_78, (.tup [(V.ref a_81), (V.ref a_83)] : HO)), (a_81, (.lst (List.map V.bl ((((wholeP k_24.order.length k_24.past).1)))) : HO)), (a_83, (.lst (List.map V.int ((((wholeP k_24.order.length k_24.past).2)))) : HO)), (p_68, (.lst (List.map peRef r_69) : HO)), (p_63, (.lst (List.map V.int k_24.order) : HO))] ++ List.flatten [rosOwn gV rw_115, pesOwn r_69, pkOwn T.C_Pack ob_5 k_24])) ?_ ?_ ?_ ?_
      · have fr : Fr H _ ([(p_114, (.lst (List.map rref rw_115) : HO)), (p_107, (.lst (List.map V.bl marks_104) : HO)), (l_90, (.lst (List.map V.int ((((cutL script (some 2) (some 14))) ++ ([5])))) : HO)), (t_84, (.tup [(V.ref p_63), (V.ref p_68), (V.ref p_78)] : HO)), (p_78, (.tup [(V.ref a_81), (V.ref a_83)] : HO)), (a_81, (.lst (List.map V.bl ((((wholeP k_24.order.length k_24.past).1)))) : HO)), (a_83, (.lst (List.map V.int ((((wholeP k_24.order.length k_24.past).2)))) : HO)), (p_68, (.lst (List.map peRef r_69) : HO)), (p_63, (.lst (List.map V.int k_24.order) : HO))] ++ List.flatten [pkOwn T.C_Pack ob_5 k_24, rosOwn gV rw_115, pesOwn r_69]) := Fr.tup (pre := [(p_114, (.lst (List.map rref rw_115) : HO)), (p_107, (.lst (List.map V.bl marks_104) : HO)), (l_90, (.lst (List.map V.int ((((cutL script (some 2) (some 14))) ++ ([5])))) : HO)), (t_84, (.tup [(V.ref p_63), (V.ref p_68), (V.ref p_78)] : HO)), (p_78, (.tup [(V.ref a_81), (V.ref a_83)] : HO)), (a_81, (.lst (List.map V.bl ((((wholeP k_24.order.length k_24.past).1)))) : HO)), (a_83, (.lst (List.map V.int ((((wholeP k_24.order.length k_24.past).2)))) : HO)), (p_68, (.lst (List.map peRef r_69) : HO)), (p_63, (.lst (List.map V.int k_24.order) : HO))]) (ts := [rosOwn gV rw_115, pesOwn r_69, pkOwn T.C_Pack ob_5 k_24]) fr 2 rfl
        have fr : Fr H _ ([(p_114, (.lst (List.map rref rw_115) : HO)), (p_107, (.lst (List.map V.bl marks_104) : HO)), (l_90, (.lst (List.map V.int ((((cutL script (some 2) (some 14))) ++ ([5])))) : HO)), (t_84, (.tup [(V.ref p_63), (V.ref p_68), (V.ref p_78)] : HO)), (p_78, (.tup [(V.ref a_81), (V.ref a_83)] : HO)), (a_81, (.lst (List.map V.bl ((((wholeP k_24.order.length k_24.past).1)))) : HO)), (a_83, (.lst (List.map V.int ((((wholeP k_24.order.length k_24.past).2)))) : HO)), (p_68, (.lst (List.map peRef r_69) : HO)), (p_63, (.lst (List.map V.int k_24.order) : HO))] ++ List.flatten [pesOwn r_69, pkOwn T.C_Pack ob_5 k_24, rosOwn gV rw_115]) := Fr.tup (pre := [(p_114, (.lst (List.map rref rw_115) : HO)), (p_107, (.lst (List.map V.bl marks_104) : HO)), (l_90, (.lst (List.map V.int ((((cutL script (some 2) (some 14))) ++ ([5])))) : HO)), (t_84, (.tup [(V.ref p_63), (V.ref p_68), (V.ref p_78)] : HO)), (p_78, (.tup [(V.ref a_81), (V.ref a_83)] : HO)), (a_81, (.lst (List.map V.bl ((((wholeP k_24.order.length k_24.past).1)))) : HO)), (a_83, (.lst (List.map V.int ((((wholeP k_24.order.length k_24.past).2)))) : HO)), (p_68, (.lst (List.map peRef r_69) : HO)), (p_63, (.lst (List.map V.int k_24.order) : HO))]) (ts := [pkOwn T.C_Pack ob_5 k_24, rosOwn gV rw_115, pesOwn r_69]) fr 2 rfl
        have fr : Fr H _ ([(p_114, (.lst (List.map rref rw_115) : HO)), (p_107, (.lst (List.map V.bl marks_104) : HO)), (l_90, (.lst (List.map V.int ((((cutL script (some 2) (some 14))) ++ ([5])))) : HO)), (t_84, (.tup [(V.ref p_63), (V.ref p_68), (V.ref p_78)] : HO)), (p_78, (.tup [(V.ref a_81), (V.ref a_83)] : HO)), (a_81, (.lst (List.map V.bl ((((wholeP k_24.order.length k_24.past).1)))) : HO)), (a_83, (.lst (List.map V.int ((((wholeP k_24.order.length k_24.past).2)))) : HO)), (p_68, (.lst (List.map peRef r_69) : HO)), (p_63, (.lst (List.map V.int k_24.order) : HO))] ++ List.flatten [rosOwn gV rw_115, pesOwn r_69, pkOwn T.C_Pack ob_5 k_24]) := Fr.tup (pre := [(p_114, (.lst (List.map rref rw_115) : HO)), (p_107, (.lst (List.map V.bl marks_104) : HO)), (l_90, (.lst (List.map V.int ((((cutL script (some 2) (some 14))) ++ ([5])))) : HO)), (t_84, (.tup [(V.ref p_63), (V.ref p_68), (V.ref p_78)] : HO)), (p_78, (.tup [(V.ref a_81), (V.ref a_83)] : HO)), (a_81, (.lst (List.map V.bl ((((wholeP k_24.order.length k_24.past).1)))) : HO)), (a_83, (.lst (List.map V.int ((((wholeP k_24.order.length k_24.past).2)))) : HO)), (p_68, (.lst (List.map peRef r_69) : HO)), (p_63, (.lst (List.map V.int k_24.order) : HO))]) (ts := [pesOwn r_69, pkOwn T.C_Pack ob_5 k_24, rosOwn gV rw_115]) fr 2 rfl
        refine ⟨_, rfl, fr⟩
      · rintro i σ H1 hi ⟨y_117, rfl, fr⟩
        exact fr.at0
      · rintro i_118 x_120 s_123 H_121 H_122 hi_119 ⟨y_117, rfl, fr⟩ ⟨rfl, y_124, hr_125, hy_126, rfl⟩
        have hbm := hbad _ (List.mem_of_getElem? hy_126)
        refine ⟨_, rfl, _, rfl, (Evl.sz_of (show 1 ≤ 100000 by decide)), fun l_127 nl_128 => ?_⟩
        have fr : Fr H _ ([(l_127, (.lst (List.map V.int ([0])) : HO)), (p_114, (.lst (List.map rref rw_115) : HO)), (p_107, (.lst (List.map V.bl marks_104) : HO)), (l_90, (.lst (List.map V.int ((((cutL script (some 2) (some 14))) ++ ([5])))) : HO)), (t_84, (.tup [(V.ref p_63), (V.ref p_68), (V.ref p_78)] : HO)), (p_78, (.tup [(V.ref a_81), (V.ref a_83)] : HO)), (a_81, (.lst (List.map V.bl ((((wholeP k_24.order.length k_24.past).1)))) : HO)), (a_83, (.lst (List.map V.int ((((wholeP k_24.order.length k_24.past).2)))) : HO)), (p_68, (.lst (List.map peRef r_69) : HO)), (p_63, (.lst (List.map V.int k_24.order) : HO))] ++ List.flatten [rosOwn gV rw_115, pesOwn r_69, pkOwn T.C_Pack ob_5 k_24]) := fr.new nl_128
        refine ⟨_, rfl, _, rfl, _, _, rfl, rfl, (show (0 : Int) < _ by decide), _, _, rfl, rfl, _, _, _, rfl, rfl, fr.at0, ?_, ?_, ?_, fun l_129 nl_130 => ?_⟩
        · walk_at "side"
        · walk_at "side"
        · walk_at "size"
        have fr : Fr H _ ([(l_129, (.lst (List.map V.int ((List.replicate (Int.toNat (((1 + (cell_at_2 % 12)) + (y_101 % 2)))) 0))) : HO)), (l_127, (.lst (List.map V.int ([0])) : HO)), (p_114, (.lst (List.map rref rw_115) : HO)), (p_107, (.lst (List.map V.bl marks_104) : HO)), (l_90, (.lst (List.map V.int ((((cutL script (some 2) (some 14))) ++ ([5])))) : HO)), (t_84, (.tup [(V.ref p_63), (V.ref p_68), (V.ref p_78)] : HO)), (p_78, (.tup [(V.ref a_81), (V.ref a_83)] : HO)), (a_81, (.lst (List.map V.bl ((((wholeP k_24.order.length k_24.past).1)))) : HO)), (a_83, (.lst (List.map V.int ((((wholeP k_24.order.length k_24.past).2)))) : HO)), (p_68, (.lst (List.map peRef r_69) : HO)), (p_63, (.lst (List.map V.int k_24.order) : HO))] ++ List.flatten [rosOwn gV rw_115, pesOwn r_69, pkOwn T.C_Pack ob_5 k_24]) := (fr.new nl_130).cast (lst_rep1 _ _ _)
        refine ⟨ob_5, k_24, y_124.1, y_124.2, l_129, ((List.map V.int ((List.replicate (Int.toNat (((1 + (cell_at_2 % 12)) + (y_101 % 2)))) 0)))), ((V.str ("marks"))), rfl, (Fr.pk (pre := [(l_129, (.lst (List.map V.int ((List.replicate (Int.toNat (((1 + (cell_at_2 % 12)) + (y_101 % 2)))) 0))) : HO)), (l_127, (.lst (List.map V.int ([0])) : HO)), (p_114, (.lst (List.map rref rw_115) : HO)), (p_107, (.lst (List.map V.bl marks_104) : HO)), (l_90, (.lst (List.map V.int ((((cutL script (some 2) (some 14))) ++ ([5])))) : HO)), (t_84, (.tup [(V.ref p_63), (V.ref p_68), (V.ref p_78)] : HO)), (p_78, (.tup [(V.ref a_81), (V.ref a_83)] : HO)), (a_81, (.lst (List.map V.bl ((((wholeP k_24.order.length k_24.past).1)))) : HO)), (a_83, (.lst (List.map V.int ((((wholeP k_24.order.length k_24.past).2)))) : HO)), (p_68, (.lst (List.map peRef r_69) : HO)), (p_63, (.lst (List.map V.int k_24.order) : HO))]) (ts := [rosOwn gV rw_115, pesOwn r_69, pkOwn T.C_Pack ob_5 k_24]) fr 2 rfl), (Fr.rmem (pre := [(l_129, (.lst (List.map V.int ((List.replicate (Int.toNat (((1 + (cell_at_2 % 12)) + (y_101 % 2)))) 0))) : HO)), (l_127, (.lst (List.map V.int ([0])) : HO)), (p_114, (.lst (List.map rref rw_115) : HO)), (p_107, (.lst (List.map V.bl marks_104) : HO)), (l_90, (.lst (List.map V.int ((((cutL script (some 2) (some 14))) ++ ([5])))) : HO)), (t_84, (.tup [(V.ref p_63), (V.ref p_68), (V.ref p_78)] : HO)), (p_78, (.tup [(V.ref a_81), (V.ref a_83)] : HO)), (a_81, (.lst (List.map V.bl ((((wholeP k_24.order.length k_24.past).1)))) : HO)), (a_83, (.lst (List.map V.int ((((wholeP k_24.order.length k_24.past).2)))) : HO)), (p_68, (.lst (List.map peRef r_69) : HO)), (p_63, (.lst (List.map V.int k_24.order) : HO))]) (ts := [rosOwn gV rw_115, pesOwn r_69, pkOwn T.C_Pack ob_5 k_24]) fr 0 rfl (List.mem_of_getElem? hr_125)), fr.at0, ?_, ?_, ?_, ?_, ?_, ?_, fun H_131 refused_132 hp_134 sm_133 => ?_⟩
        · exact hbm.1
        · exact hbm.2.1
        · exact Sca.ints _
        · simp; omega
        · exact hbm.2.2
        · rfl
        have fr : Fr H _ ([(l_129, (.lst (List.map V.int ((List.replicate (Int.toNat (((1 + (cell_at_2 % 12)) + (y_101 % 2)))) 0))) : HO)), (l_127, (.lst (List.map V.int ([0])) : HO)), (p_114, (.lst (List.map rref rw_115) : HO)), (p_107, (.lst (List.map V.bl marks_104) : HO)), (l_90, (.lst (List.map V.int ((((cutL script (some 2) (some 14))) ++ ([5])))) : HO)), (t_84, (.tup [(V.ref p_63), (V.ref p_68), (V.ref p_78)] : HO)), (p_78, (.tup [(V.ref a_81), (V.ref a_83)] : HO)), (a_81, (.lst (List.map V.bl ((((wholeP k_24.order.length k_24.past).1)))) : HO)), (a_83, (.lst (List.map V.int ((((wholeP k_24.order.length k_24.past).2)))) : HO)), (p_68, (.lst (List.map peRef r_69) : HO)), (p_63, (.lst (List.map V.int k_24.order) : HO))] ++ List.flatten [rosOwn gV rw_115, pesOwn r_69, pkOwn T.C_Pack ob_5 k_24]) := fr.call sm_133
        subst hp_134
        refine ⟨_, rfl, fun _ => ?_, (fun h => nomatch h)⟩
        refine iteF ?_
        have fr : Fr H _ ([(l_127, (.lst (List.map V.int ([0])) : HO)), (p_114, (.lst (List.map rref rw_115) : HO)), (p_107, (.lst (List.map V.bl marks_104) : HO)), (l_90, (.lst (List.map V.int ((((cutL script (some 2) (some 14))) ++ ([5])))) : HO)), (t_84, (.tup [(V.ref p_63), (V.ref p_68), (V.ref p_78)] : HO)), (p_78, (.tup [(V.ref a_81), (V.ref a_83)] : HO)), (a_81, (.lst (List.map V.bl ((((wholeP k_24.order.length k_24.past).1)))) : HO)), (a_83, (.lst (List.map V.int ((((wholeP k_24.order.length k_24.past).2)))) : HO)), (p_68, (.lst (List.map peRef r_69) : HO)), (p_63, (.lst (List.map V.int k_24.order) : HO))] ++ List.flatten [rosOwn gV rw_115, pesOwn r_69, pkOwn T.C_Pack ob_5 k_24]) := Fr.dk fr 0
        have fr : Fr H _ ([(p_114, (.lst (List.map rref rw_115) : HO)), (p_107, (.lst (List.map V.bl marks_104) : HO)), (l_90, (.lst (List.map V.int ((((cutL script (some 2) (some 14))) ++ ([5])))) : HO)), (t_84, (.tup [(V.ref p_63), (V.ref p_68), (V.ref p_78)] : HO)), (p_78, (.tup [(V.ref a_81), (V.ref a_83)] : HO)), (a_81, (.lst (List.map V.bl ((((wholeP k_24.order.length k_24.past).1)))) : HO)), (a_83, (.lst (List.map V.int ((((wholeP k_24.order.length k_24.past).2)))) : HO)), (p_68, (.lst (List.map peRef r_69) : HO)), (p_63, (.lst (List.map V.int k_24.order) : HO))] ++ List.flatten [rosOwn gV rw_115, pesOwn r_69, pkOwn T.C_Pack ob_5 k_24]) := Fr.dk fr 0
        have fr : Fr H _ ([(p_114, (.lst (List.map rref rw_115) : HO)), (p_107, (.lst (List.map V.bl marks_104) : HO)), (l_90, (.lst (List.map V.int ((((cutL script (some 2) (some 14))) ++ ([5])))) : HO)), (t_84, (.tup [(V.ref p_63), (V.ref p_68), (V.ref p_78)] : HO)), (p_78, (.tup [(V.ref a_81), (V.ref a_83)] : HO)), (a_81, (.lst (List.map V.bl ((((wholeP k_24.order.length k_24.past).1)))) : HO)), (a_83, (.lst (List.map V.int ((((wholeP k_24.order.length k_24.past).2)))) : HO)), (p_68, (.lst (List.map peRef r_69) : HO)), (p_63, (.lst (List.map V.int k_24.order) : HO))] ++ List.flatten [pkOwn T.C_Pack ob_5 k_24, rosOwn gV rw_115, pesOwn r_69]) := Fr.tup (pre := [(p_114, (.lst (List.map rref rw_115) : HO)), (p_107, (.lst (List.map V.bl marks_104) : HO)), (l_90, (.lst (List.map V.int ((((cutL script (some 2) (some 14))) ++ ([5])))) : HO)), (t_84, (.tup [(V.ref p_63), (V.ref p_68), (V.ref p_78)] : HO)), (p_78, (.tup [(V.ref a_81), (V.ref a_83)] : HO)), (a_81, (.lst (List.map V.bl ((((wholeP k_24.order.length k_24.past).1)))) : HO)), (a_83, (.lst (List.map V.int ((((wholeP k_24.order.length k_24.past).2)))) : HO)), (p_68, (.lst (List.map peRef r_69) : HO)), (p_63, (.lst (List.map V.int k_24.order) : HO))]) (ts := [rosOwn gV rw_115, pesOwn r_69, pkOwn T.C_Pack ob_5 k_24]) fr 2 rfl
        have fr : Fr H _ ([(p_114, (.lst (List.map rref rw_115) : HO)), (p_107, (.lst (List.map V.bl marks_104) : HO)), (l_90, (.lst (List.map V.int ((((cutL script (some 2) (some 14))) ++ ([5])))) : HO)), (t_84, (.tup [(V.ref p_63), (V.ref p_68), (V.ref p_78)] : HO)), (p_78, (.tup [(V.ref a_81), (V.ref a_83)] : HO)), (a_81, (.lst (List.map V.bl ((((wholeP k_24.order.length k_24.past).1)))) : HO)), (a_83, (.lst (List.map V.int ((((wholeP k_24.order.length k_24.past).2)))) : HO)), (p_68, (.lst (List.map peRef r_69) : HO)), (p_63, (.lst (List.map V.int k_24.order) : HO))] ++ List.flatten [pesOwn r_69, pkOwn T.C_Pack ob_5 k_24, rosOwn gV rw_115]) := Fr.tup (pre := [(p_114, (.lst (List.map rref rw_115) : HO)), (p_107, (.lst (List.map V.bl marks_104) : HO)), (l_90, (.lst (List.map V.int ((((cutL script (some 2) (some 14))) ++ ([5])))) : HO)), (t_84, (.tup [(V.ref p_63), (V.ref p_68), (V.ref p_78)] : HO)), (p_78, (.tup [(V.ref a_81), (V.ref a_83)] : HO)), (a_81, (.lst (List.map V.bl ((((wholeP k_24.order.length k_24.past).1)))) : HO)), (a_83, (.lst (List.map V.int ((((wholeP k_24.order.length k_24.past).2)))) : HO)), (p_68, (.lst (List.map peRef r_69) : HO)), (p_63, (.lst (List.map V.int k_24.order) : HO))]) (ts := [pkOwn T.C_Pack ob_5 k_24, rosOwn gV rw_115, pesOwn r_69]) fr 2 rfl
        have fr : Fr H _ ([(p_114, (.lst (List.map rref rw_115) : HO)), (p_107, (.lst (List.map V.bl marks_104) : HO)), (l_90, (.lst (List.map V.int ((((cutL script (some 2) (some 14))) ++ ([5])))) : HO)), (t_84, (.tup [(V.ref p_63), (V.ref p_68), (V.ref p_78)] : HO)), (p_78, (.tup [(V.ref a_81), (V.ref a_83)] : HO)), (a_81, (.lst (List.map V.bl ((((wholeP k_24.order.length k_24.past).1)))) : HO)), (a_83, (.lst (List.map V.int ((((wholeP k_24.order.length k_24.past).2)))) : HO)), (p_68, (.lst (List.map peRef r_69) : HO)), (p_63, (.lst (List.map V.int k_24.order) : HO))] ++ List.flatten [rosOwn gV rw_115, pesOwn r_69, pkOwn T.C_Pack ob_5 k_24]) := Fr.tup (pre := [(p_114, (.lst (List.map rref rw_115) : HO)), (p_107, (.lst (List.map V.bl marks_104) : HO)), (l_90, (.lst (List.map V.int ((((cutL script (some 2) (some 14))) ++ ([5])))) : HO)), (t_84, (.tup [(V.ref p_63), (V.ref p_68), (V.ref p_78)] : HO)), (p_78, (.tup [(V.ref a_81), (V.ref a_83)] : HO)), (a_81, (.lst (List.map V.bl ((((wholeP k_24.order.length k_24.past).1)))) : HO)), (a_83, (.lst (List.map V.int ((((wholeP k_24.order.length k_24.past).2)))) : HO)), (p_68, (.lst (List.map peRef r_69) : HO)), (p_63, (.lst (List.map V.int k_24.order) : HO))]) (ts := [pesOwn r_69, pkOwn T.C_Pack ob_5 k_24, rosOwn gV rw_115]) fr 2 rfl
        refine ⟨_, rfl, fr⟩
      rintro s_136 H_135 ⟨y_117, rfl, fr⟩
      have fr : Fr H _ ([(p_114, (.lst (List.map rref rw_115) : HO)), (p_107, (.lst (List.map V.bl marks_104) : HO)), (l_90, (.lst (List.map V.int ((((cutL script (some 2) (some 14))) ++ ([5])))) : HO)), (t_84, (.tup [(V.ref p_63), (V.ref p_68), (V.ref p_78)] : HO)), (p_78, (.tup [(V.ref a_81), (V.ref a_83)] : HO)), (a_81, (.lst (List.map V.bl ((((wholeP k_24.order.length k_24.past).1)))) : HO)), (a_83, (.lst (List.map V.int ((((wholeP k_24.order.length k_24.past).2)))) : HO)), (p_68, (.lst (List.map peRef r_69) : HO)), (p_63, (.lst (List.map V.int k_24.order) : HO))] ++ List.flatten [pesOwn r_69, pkOwn T.C_Pack ob_5 k_24]) := Fr.tdrop (pre := [(p_114, (.lst (List.map rref rw_115) : HO)), (p_107, (.lst (List.map V.bl marks_104) : HO)), (l_90, (.lst (List.map V.int ((((cutL script (some 2) (some 14))) ++ ([5])))) : HO)), (t_84, (.tup [(V.ref p_63), (V.ref p_68), (V.ref p_78)] : HO)), (p_78, (.tup [(V.ref a_81), (V.ref a_83)] : HO)), (a_81, (.lst (List.map V.bl ((((wholeP k_24.order.length k_24.past).1)))) : HO)), (a_83, (.lst (List.map V.int ((((wholeP k_24.order.length k_24.past).2)))) : HO)), (p_68, (.lst (List.map peRef r_69) : HO)), (p_63, (.lst (List.map V.int k_24.order) : HO))]) (ts := [rosOwn gV rw_115, pesOwn r_69, pkOwn T.C_Pack ob_5 k_24]) fr 0 rfl
      have fr : Fr H _ ([(p_107, (.lst (List.map V.bl marks_104) : HO)), (l_90, (.lst (List.map V.int ((((cutL script (some 2) (some 14))) ++ ([5])))) : HO)), (t_84, (.tup [(V.ref p_63), (V.ref p_68), (V.ref p_78)] : HO)), (p_78, (.tup [(V.ref a_81), (V.ref a_83)] : HO)), (a_81, (.lst (List.map V.bl ((((wholeP k_24.order.length k_24.past).1)))) : HO)), (a_83, (.lst (List.map V.int ((((wholeP k_24.order.length k_24.past).2)))) : HO)), (p_68, (.lst (List.map peRef r_69) : HO)), (p_63, (.lst (List.map V.int k_24.order) : HO))] ++ List.flatten [pesOwn r_69, pkOwn T.C_Pack ob_5 k_24]) := Fr.dk fr 0
      refine ⟨_, rfl, _, rfl, _, _, _, rfl, (SqL.of fr.at0), (List.length_map _), _, rfl, _, _, rfl, rfl, ⟨by decide, by decide⟩, ((1 + (cell_at_2 % 12))), ((marks_104.length : Int)), ((y_101 / 3)), rfl, ?_, ?_, fun H_137 p_141 rw_142 bad_words_138 hp_140 tn_143 sm_139 => ?_⟩
      · omega
      · omega
      have fr : Fr H _ ([(p_141, (.lst (List.map rref rw_142) : HO)), (p_107, (.lst (List.map V.bl marks_104) : HO)), (l_90, (.lst (List.map V.int ((((cutL script (some 2) (some 14))) ++ ([5])))) : HO)), (t_84, (.tup [(V.ref p_63), (V.ref p_68), (V.ref p_78)] : HO)), (p_78, (.tup [(V.ref a_81), (V.ref a_83)] : HO)), (a_81, (.lst (List.map V.bl ((((wholeP k_24.order.length k_24.past).1)))) : HO)), (a_83, (.lst (List.map V.int ((((wholeP k_24.order.length k_24.past).2)))) : HO)), (p_68, (.lst (List.map peRef r_69) : HO)), (p_63, (.lst (List.map V.int k_24.order) : HO))] ++ List.flatten [rosOwn gV rw_142, pesOwn r_69, pkOwn T.C_Pack ob_5 k_24]) := Fr.ctab (pre := [(p_107, (.lst (List.map V.bl marks_104) : HO)), (l_90, (.lst (List.map V.int ((((cutL script (some 2) (some 14))) ++ ([5])))) : HO)), (t_84, (.tup [(V.ref p_63), (V.ref p_68), (V.ref p_78)] : HO)), (p_78, (.tup [(V.ref a_81), (V.ref a_83)] : HO)), (a_81, (.lst (List.map V.bl ((((wholeP k_24.order.length k_24.past).1)))) : HO)), (a_83, (.lst (List.map V.int ((((wholeP k_24.order.length k_24.past).2)))) : HO)), (p_68, (.lst (List.map peRef r_69) : HO)), (p_63, (.lst (List.map V.int k_24.order) : HO))]) (ts := [pesOwn r_69, pkOwn T.C_Pack ob_5 k_24]) fr sm_139 tn_143
      have hbad2 := hp_140
      refine ⟨_, rfl, ⟨_, (SqL.of fr.at0)⟩, ?_⟩
      refine for_it (walkT (K := K) (a := p_141) (rows := rw_142) tn_143.c) (fun (i : Nat) σ H1 => ∃ (y_144 : Option V), σ = [some (V.ref a_script), some (V.int cell_at_2), some (V.int ((1 + (cell_at_2 % 12)))), some (V.ref ob_5), some (V.int cell_at_21), y_25, some (V.ref p_107), some (V.ref t_84), some (V.int y_101), y_144] ∧ Fr H H1 ([(p_141, (.lst (List.map rref rw_142) : HO)), (p_107, (.lst (List.map V.bl marks_104) : HO)), (l_90, (.lst (List.map V.int ((((cutL script (some 2) (some 14))) ++ ([5])))) : HO)), (t_84, (.tup [(V.ref p_63), (V.ref p_68), (V.ref p_78)] : HO)), (p_78, (.tup [(V.ref a_81), (V.ref a_83)] : HO)), (a_81, (.lst (List.map V.bl ((((wholeP k_24.order.length k_24.past).1)))) : HO)), (a_83, (.lst (List.map V.int ((((wholeP k_24.order.length k_24.past).2)))) : HO)), (p_68, (.lst (List.map peRef r_69) : HO)), (p_63, (.lst (List.map V.int k_24.order) : HO))] ++ List.flatten [rosOwn gV rw_142, pesOwn r_69, pkOwn T.C_Pack ob_5 k_24])) ?_ ?_ ?_ ?_
      · have fr : Fr H _ ([(p_141, (.lst (List.map rref rw_142) : HO)), (p_107, (.lst (List.map V.bl marks_104) : HO)), (l_90, (.lst (List.map V.int ((((cutL script (some 2) (some 14))) ++ ([5])))) : HO)), (t_84, (.tup [(V.ref p_63), (V.ref p_68), (V.ref p_78)] : HO)), (p_78, (.tup [(V.ref a_81), (V.ref a_83)] : HO)), (a_81, (.lst (List.map V.bl ((((wholeP k_24.order.length k_24.past).1)))) : HO)), (a_83, (.lst (List.map V.int ((((wholeP k_24.order.length k_24.past).2)))) : HO)), (p_68, (.lst (List.map peRef r_69) : HO)), (p_63, (.lst (List.map V.int k_24.order) : HO))] ++ List.flatten [pkOwn T.C_Pack ob_5 k_24, rosOwn gV rw_142, pesOwn r_69]) := Fr.tup (pre := [(p_141, (.lst (List.map rref rw_142) : HO)), (p_107, (.lst (List.map V.bl marks_104) : HO)), (l_90, (.lst (List.map V.int ((((cutL script (some 2) (some 14))) ++ ([5])))) : HO)), (t_84, (.tup [(V.ref p_63), (V.ref p_68), (V.ref p_78)] : HO)), (p_78, (.tup [(V.ref a_81), (V.ref a_83)] : HO)), (a_81, (.lst (List.map V.bl ((((wholeP k_24.order.length k_24.past).1)))) : HO)), (a_83, (.lst (List.map V.int ((((wholeP k_24.order.length k_24.past).2)))) : HO)), (p_68, (.lst (List.map peRef r_69) : HO)), (p_63, (.lst (List.map V.int k_24.order) : HO))]) (ts := [rosOwn gV rw_142, pesOwn r_69, pkOwn T.C_Pack ob_5 k_24]) fr 2 rfl
        have fr : Fr H _ ([(p_141, (.lst (List.map rref rw_142) : HO)), (p_107, (.lst (List.map V.bl marks_104) : HO)), (l_90, (.lst (List.map V.int ((((cutL script (some 2) (some 14))) ++ ([5])))) : HO)), (t_84, (.tup [(V.ref p_63), (V.ref p_68), (V.ref p_78)] : HO)), (p_78, (.tup [(V.ref a_81), (V.ref a_83)] : HO)), (a_81, (.lst (List.map V.bl ((((wholeP k_24.order.length k_24.past).1)))) : HO)), (a_83, (.lst (List.map V.int ((((wholeP k_24.order.length k_24.past).2)))) : HO)), (p_68, (.lst (List.map peRef r_69) : HO)), (p_63, (.lst (List.map V.int k_24.order) : HO))] ++ List.flatten [pesOwn r_69, pkOwn T.C_Pack ob_5 k_24, rosOwn gV rw_142]) := Fr.tup (pre := [(p_141, (.lst (List.map rref rw_142) : HO)), (p_107, (.lst (List.map V.bl marks_104) : HO)), (l_90, (.lst (List.map V.int ((((cutL script (some 2) (some 14))) ++ ([5])))) : HO)), (t_84, (.tup [(V.ref p_63), (V.ref p_68), (V.ref p_78)] : HO)), (p_78, (.tup [(V.ref a_81), (V.ref a_83)] : HO)), (a_81, (.lst (List.map V.bl ((((wholeP k_24.order.length k_24.past).1)))) : HO)), (a_83, (.lst (List.map V.int ((((wholeP k_24.order.length k_24.past).2)))) : HO)), (p_68, (.lst (List.map peRef r_69) : HO)), (p_63, (.lst (List.map V.int k_24.order) : HO))]) (ts := [pkOwn T.C_Pack ob_5 k_24, rosOwn gV rw_142, pesOwn r_69]) fr 2 rfl
        have fr : Fr H _ ([(p_141, (.lst (List.map rref rw_142) : HO)), (p_107, (.lst (List.map V.bl marks_104) : HO)), (l_90, (.lst (List.map V.int ((((cutL script (some 2) (some 14))) ++ ([5])))) : HO)), (t_84, (.tup [(V.ref p_63), (V.ref p_68), (V.ref p_78)] : HO)), (p_78, (.tup [(V.ref a_81), (V.ref a_83)] : HO)), (a_81, (.lst (List.map V.bl ((((wholeP k_24.order.length k_24.past).1)))) : HO)), (a_83, (.lst (List.map V.int ((((wholeP k_24.order.length k_24.past).2)))) : HO)), (p_68, (.lst (List.map peRef r_69) : HO)), (p_63, (.lst (List.map V.int k_24.order) : HO))] ++ List.flatten [rosOwn gV rw_142, pesOwn r_69, pkOwn T.C_Pack ob_5 k_24]) := Fr.tup (pre := [(p_141, (.lst (List.map rref rw_142) : HO)), (p_107, (.lst (List.map V.bl marks_104) : HO)), (l_90, (.lst (List.map V.int ((((cutL script (some 2) (some 14))) ++ ([5])))) : HO)), (t_84, (.tup [(V.ref p_63), (V.ref p_68), (V.ref p_78)] : HO)), (p_78, (.tup [(V.ref a_81), (V.ref a_83)] : HO)), (a_81, (.lst (List.map V.bl ((((wholeP k_24.order.length k_24.past).1)))) : HO)), (a_83, (.lst (List.map V.int ((((wholeP k_24.order.length k_24.past).2)))) : HO)), (p_68, (.lst (List.map peRef r_69) : HO)), (p_63, (.lst (List.map V.int k_24.order) : HO))]) (ts := [pesOwn r_69, pkOwn T.C_Pack ob_5 k_24, rosOwn gV rw_142]) fr 2 rfl
        refine ⟨_, rfl, fr⟩
      · rintro i σ H1 hi ⟨y_144, rfl, fr⟩
        exact fr.at0
      · rintro i_145 x_147 s_150 H_148 H_149 hi_146 ⟨y_144, rfl, fr⟩ ⟨rfl, y_151, hr_152, hy_153, rfl⟩
        have hbw := hbad2 _ (List.mem_of_getElem? hy_153)
        refine ⟨_, rfl, _, rfl, _, rfl, ob_5, k_24, p_107, marks_104, y_151.1, y_151.2, ((V.str ("riffle"))), rfl, (Fr.pk (pre := [(p_141, (.lst (List.map rref rw_142) : HO)), (p_107, (.lst (List.map V.bl marks_104) : HO)), (l_90, (.lst (List.map V.int ((((cutL script (some 2) (some 14))) ++ ([5])))) : HO)), (t_84, (.tup [(V.ref p_63), (V.ref p_68), (V.ref p_78)] : HO)), (p_78, (.tup [(V.ref a_81), (V.ref a_83)] : HO)), (a_81, (.lst (List.map V.bl ((((wholeP k_24.order.length k_24.past).1)))) : HO)), (a_83, (.lst (List.map V.int ((((wholeP k_24.order.length k_24.past).2)))) : HO)), (p_68, (.lst (List.map peRef r_69) : HO)), (p_63, (.lst (List.map V.int k_24.order) : HO))]) (ts := [rosOwn gV rw_142, pesOwn r_69, pkOwn T.C_Pack ob_5 k_24]) fr 2 rfl), fr.at1, (Fr.rmem (pre := [(p_141, (.lst (List.map rref rw_142) : HO)), (p_107, (.lst (List.map V.bl marks_104) : HO)), (l_90, (.lst (List.map V.int ((((cutL script (some 2) (some 14))) ++ ([5])))) : HO)), (t_84, (.tup [(V.ref p_63), (V.ref p_68), (V.ref p_78)] : HO)), (p_78, (.tup [(V.ref a_81), (V.ref a_83)] : HO)), (a_81, (.lst (List.map V.bl ((((wholeP k_24.order.length k_24.past).1)))) : HO)), (a_83, (.lst (List.map V.int ((((wholeP k_24.order.length k_24.past).2)))) : HO)), (p_68, (.lst (List.map peRef r_69) : HO)), (p_63, (.lst (List.map V.int k_24.order) : HO))]) (ts := [rosOwn gV rw_142, pesOwn r_69, pkOwn T.C_Pack ob_5 k_24]) fr 0 rfl (List.mem_of_getElem? hr_152)), ?_, ?_, ?_, ?_, ?_, fun H_154 refused_155 hp_157 sm_156 => ?_⟩
        · omega
        · exact hbw.1
        · exact hbw.2.1
        · rw [hol, show ((Int.toNat ((1 + (cell_at_2 % 12))) : Nat) : Int) = ((1 + (cell_at_2 % 12))) by omega]; have h9 := hbw.2.2; rw [Int.toNat_natCast] at h9; exact h9
        · rfl
        have fr : Fr H _ ([(p_141, (.lst (List.map rref rw_142) : HO)), (p_107, (.lst (List.map V.bl marks_104) : HO)), (l_90, (.lst (List.map V.int ((((cutL script (some 2) (some 14))) ++ ([5])))) : HO)), (t_84, (.tup [(V.ref p_63), (V.ref p_68), (V.ref p_78)] : HO)), (p_78, (.tup [(V.ref a_81), (V.ref a_83)] : HO)), (a_81, (.lst (List.map V.bl ((((wholeP k_24.order.length k_24.past).1)))) : HO)), (a_83, (.lst (List.map V.int ((((wholeP k_24.order.length k_24.past).2)))) : HO)), (p_68, (.lst (List.map peRef r_69) : HO)), (p_63, (.lst (List.map V.int k_24.order) : HO))] ++ List.flatten [rosOwn gV rw_142, pesOwn r_69, pkOwn T.C_Pack ob_5 k_24]) := fr.call sm_156
        subst hp_157
        refine ⟨_, rfl, fun _ => ?_, (fun h => nomatch h)⟩
        refine iteF ?_
        have fr : Fr H _ ([(p_141, (.lst (List.map rref rw_142) : HO)), (p_107, (.lst (List.map V.bl marks_104) : HO)), (l_90, (.lst (List.map V.int ((((cutL script (some 2) (some 14))) ++ ([5])))) : HO)), (t_84, (.tup [(V.ref p_63), (V.ref p_68), (V.ref p_78)] : HO)), (p_78, (.tup [(V.ref a_81), (V.ref a_83)] : HO)), (a_81, (.lst (List.map V.bl ((((wholeP k_24.order.length k_24.past).1)))) : HO)), (a_83, (.lst (List.map V.int ((((wholeP k_24.order.length k_24.past).2)))) : HO)), (p_68, (.lst (List.map peRef r_69) : HO)), (p_63, (.lst (List.map V.int k_24.order) : HO))] ++ List.flatten [pkOwn T.C_Pack ob_5 k_24, rosOwn gV rw_142, pesOwn r_69]) := Fr.tup (pre := [(p_141, (.lst (List.map rref rw_142) : HO)), (p_107, (.lst (List.map V.bl marks_104) : HO)), (l_90, (.lst (List.map V.int ((((cutL script (some 2) (some 14))) ++ ([5])))) : HO)), (t_84, (.tup [(V.ref p_63), (V.ref p_68), (V.ref p_78)] : HO)), (p_78, (.tup [(V.ref a_81), (V.ref a_83)] : HO)), (a_81, (.lst (List.map V.bl ((((wholeP k_24.order.length k_24.past).1)))) : HO)), (a_83, (.lst (List.map V.int ((((wholeP k_24.order.length k_24.past).2)))) : HO)), (p_68, (.lst (List.map peRef r_69) : HO)), (p_63, (.lst (List.map V.int k_24.order) : HO))]) (ts := [rosOwn gV rw_142, pesOwn r_69, pkOwn T.C_Pack ob_5 k_24]) fr 2 rfl
        have fr : Fr H _ ([(p_141, (.lst (List.map rref rw_142) : HO)), (p_107, (.lst (List.map V.bl marks_104) : HO)), (l_90, (.lst (List.map V.int ((((cutL script (some 2) (some 14))) ++ ([5])))) : HO)), (t_84, (.tup [(V.ref p_63), (V.ref p_68), (V.ref p_78)] : HO)), (p_78, (.tup [(V.ref a_81), (V.ref a_83)] : HO)), (a_81, (.lst (List.map V.bl ((((wholeP k_24.order.length k_24.past).1)))) : HO)), (a_83, (.lst (List.map V.int ((((wholeP k_24.order.length k_24.past).2)))) : HO)), (p_68, (.lst (List.map peRef r_69) : HO)), (p_63, (.lst (List.map V.int k_24.order) : HO))] ++ List.flatten [pesOwn r_69, pkOwn T.C_Pack ob_5 k_24, rosOwn gV rw_142]) := Fr.tup (pre := [(p_141, (.lst (List.map rref rw_142) : HO)), (p_107, (.lst (List.map V.bl marks_104) : HO)), (l_90, (.lst (List.map V.int ((((cutL script (some 2) (some 14))) ++ ([5])))) : HO)), (t_84, (.tup [(V.ref p_63), (V.ref p_68), (V.ref p_78)] : HO)), (p_78, (.tup [(V.ref a_81), (V.ref a_83)] : HO)), (a_81, (.lst (List.map V.bl ((((wholeP k_24.order.length k_24.past).1)))) : HO)), (a_83, (.lst (List.map V.int ((((wholeP k_24.order.length k_24.past).2)))) : HO)), (p_68, (.lst (List.map peRef r_69) : HO)), (p_63, (.lst (List.map V.int k_24.order) : HO))]) (ts := [pkOwn T.C_Pack ob_5 k_24, rosOwn gV rw_142, pesOwn r_69]) fr 2 rfl
        have fr : Fr H _ ([(p_141, (.lst (List.map rref rw_142) : HO)), (p_107, (.lst (List.map V.bl marks_104) : HO)), (l_90, (.lst (List.map V.int ((((cutL script (some 2) (some 14))) ++ ([5])))) : HO)), (t_84, (.tup [(V.ref p_63), (V.ref p_68), (V.ref p_78)] : HO)), (p_78, (.tup [(V.ref a_81), (V.ref a_83)] : HO)), (a_81, (.lst (List.map V.bl ((((wholeP k_24.order.length k_24.past).1)))) : HO)), (a_83, (.lst (List.map V.int ((((wholeP k_24.order.length k_24.past).2)))) : HO)), (p_68, (.lst (List.map peRef r_69) : HO)), (p_63, (.lst (List.map V.int k_24.order) : HO))] ++ List.flatten [rosOwn gV rw_142, pesOwn r_69, pkOwn T.C_Pack ob_5 k_24]) := Fr.tup (pre := [(p_141, (.lst (List.map rref rw_142) : HO)), (p_107, (.lst (List.map V.bl marks_104) : HO)), (l_90, (.lst (List.map V.int ((((cutL script (some 2) (some 14))) ++ ([5])))) : HO)), (t_84, (.tup [(V.ref p_63), (V.ref p_68), (V.ref p_78)] : HO)), (p_78, (.tup [(V.ref a_81), (V.ref a_83)] : HO)), (a_81, (.lst (List.map V.bl ((((wholeP k_24.order.length k_24.past).1)))) : HO)), (a_83, (.lst (List.map V.int ((((wholeP k_24.order.length k_24.past).2)))) : HO)), (p_68, (.lst (List.map peRef r_69) : HO)), (p_63, (.lst (List.map V.int k_24.order) : HO))]) (ts := [pesOwn r_69, pkOwn T.C_Pack ob_5 k_24, rosOwn gV rw_142]) fr 2 rfl
        refine ⟨_, rfl, fr⟩
      rintro s_159 H_158 ⟨y_144, rfl, fr⟩
      have fr : Fr H _ ([(p_141, (.lst (List.map rref rw_142) : HO)), (p_107, (.lst (List.map V.bl marks_104) : HO)), (l_90, (.lst (List.map V.int ((((cutL script (some 2) (some 14))) ++ ([5])))) : HO)), (t_84, (.tup [(V.ref p_63), (V.ref p_68), (V.ref p_78)] : HO)), (p_78, (.tup [(V.ref a_81), (V.ref a_83)] : HO)), (a_81, (.lst (List.map V.bl ((((wholeP k_24.order.length k_24.past).1)))) : HO)), (a_83, (.lst (List.map V.int ((((wholeP k_24.order.length k_24.past).2)))) : HO)), (p_68, (.lst (List.map peRef r_69) : HO)), (p_63, (.lst (List.map V.int k_24.order) : HO))] ++ List.flatten [pesOwn r_69, pkOwn T.C_Pack ob_5 k_24]) := Fr.tdrop (pre := [(p_141, (.lst (List.map rref rw_142) : HO)), (p_107, (.lst (List.map V.bl marks_104) : HO)), (l_90, (.lst (List.map V.int ((((cutL script (some 2) (some 14))) ++ ([5])))) : HO)), (t_84, (.tup [(V.ref p_63), (V.ref p_68), (V.ref p_78)] : HO)), (p_78, (.tup [(V.ref a_81), (V.ref a_83)] : HO)), (a_81, (.lst (List.map V.bl ((((wholeP k_24.order.length k_24.past).1)))) : HO)), (a_83, (.lst (List.map V.int ((((wholeP k_24.order.length k_24.past).2)))) : HO)), (p_68, (.lst (List.map peRef r_69) : HO)), (p_63, (.lst (List.map V.int k_24.order) : HO))]) (ts := [rosOwn gV rw_142, pesOwn r_69, pkOwn T.C_Pack ob_5 k_24]) fr 0 rfl
      have fr : Fr H _ ([(p_107, (.lst (List.map V.bl marks_104) : HO)), (l_90, (.lst (List.map V.int ((((cutL script (some 2) (some 14))) ++ ([5])))) : HO)), (t_84, (.tup [(V.ref p_63), (V.ref p_68), (V.ref p_78)] : HO)), (p_78, (.tup [(V.ref a_81), (V.ref a_83)] : HO)), (a_81, (.lst (List.map V.bl ((((wholeP k_24.order.length k_24.past).1)))) : HO)), (a_83, (.lst (List.map V.int ((((wholeP k_24.order.length k_24.past).2)))) : HO)), (p_68, (.lst (List.map peRef r_69) : HO)), (p_63, (.lst (List.map V.int k_24.order) : HO))] ++ List.flatten [pesOwn r_69, pkOwn T.C_Pack ob_5 k_24]) := Fr.dk fr 0
      refine ⟨_, rfl, y_101, rfl, fun H_160 packs_161 hp_163 sm_162 => ?_⟩
      have fr : Fr H _ ([(p_107, (.lst (List.map V.bl marks_104) : HO)), (l_90, (.lst (List.map V.int ((((cutL script (some 2) (some 14))) ++ ([5])))) : HO)), (t_84, (.tup [(V.ref p_63), (V.ref p_68), (V.ref p_78)] : HO)), (p_78, (.tup [(V.ref a_81), (V.ref a_83)] : HO)), (a_81, (.lst (List.map V.bl ((((wholeP k_24.order.length k_24.past).1)))) : HO)), (a_83, (.lst (List.map V.int ((((wholeP k_24.order.length k_24.past).2)))) : HO)), (p_68, (.lst (List.map peRef r_69) : HO)), (p_63, (.lst (List.map V.int k_24.order) : HO))] ++ List.flatten [pesOwn r_69, pkOwn T.C_Pack ob_5 k_24]) := fr.call sm_162
      subst hp_163
      refine ⟨_, rfl, fun _ => ?_, (fun h => nomatch h)⟩
      refine iteF ?_
      refine ⟨_, rfl, _, _, _, rfl, (PkAt.p (Fr.pk (pre := [(p_107, (.lst (List.map V.bl marks_104) : HO)), (l_90, (.lst (List.map V.int ((((cutL script (some 2) (some 14))) ++ ([5])))) : HO)), (t_84, (.tup [(V.ref p_63), (V.ref p_68), (V.ref p_78)] : HO)), (p_78, (.tup [(V.ref a_81), (V.ref a_83)] : HO)), (a_81, (.lst (List.map V.bl ((((wholeP k_24.order.length k_24.past).1)))) : HO)), (a_83, (.lst (List.map V.int ((((wholeP k_24.order.length k_24.past).2)))) : HO)), (p_68, (.lst (List.map peRef r_69) : HO)), (p_63, (.lst (List.map V.int k_24.order) : HO))]) (ts := [pesOwn r_69, pkOwn T.C_Pack ob_5 k_24]) fr 1 rfl)), (pkF_no _ _ (by decide +kernel) (by decide +kernel)), ob_5, k_24, rfl, (Fr.pk (pre := [(p_107, (.lst (List.map V.bl marks_104) : HO)), (l_90, (.lst (List.map V.int ((((cutL script (some 2) (some 14))) ++ ([5])))) : HO)), (t_84, (.tup [(V.ref p_63), (V.ref p_68), (V.ref p_78)] : HO)), (p_78, (.tup [(V.ref a_81), (V.ref a_83)] : HO)), (a_81, (.lst (List.map V.bl ((((wholeP k_24.order.length k_24.past).1)))) : HO)), (a_83, (.lst (List.map V.int ((((wholeP k_24.order.length k_24.past).2)))) : HO)), (p_68, (.lst (List.map peRef r_69) : HO)), (p_63, (.lst (List.map V.int k_24.order) : HO))]) (ts := [pesOwn r_69, pkOwn T.C_Pack ob_5 k_24]) fr 1 rfl), fun H_164 p_168 Pack_order_165 hp_167 sm_166 np_169 ep_170 => ?_⟩
      have fr : Fr H _ ([(p_168, (.lst (List.map V.int Pack_order_165) : HO)), (p_107, (.lst (List.map V.bl marks_104) : HO)), (l_90, (.lst (List.map V.int ((((cutL script (some 2) (some 14))) ++ ([5])))) : HO)), (t_84, (.tup [(V.ref p_63), (V.ref p_68), (V.ref p_78)] : HO)), (p_78, (.tup [(V.ref a_81), (V.ref a_83)] : HO)), (a_81, (.lst (List.map V.bl ((((wholeP k_24.order.length k_24.past).1)))) : HO)), (a_83, (.lst (List.map V.int ((((wholeP k_24.order.length k_24.past).2)))) : HO)), (p_68, (.lst (List.map peRef r_69) : HO)), (p_63, (.lst (List.map V.int k_24.order) : HO))] ++ List.flatten [pesOwn r_69, pkOwn T.C_Pack ob_5 k_24]) := fr.cnew sm_166 np_169 ep_170
      subst hp_167
      refine ⟨_, rfl, _, _, _, rfl, (PkAt.p (Fr.pk (pre := [(p_168, (.lst (List.map V.int k_24.order) : HO)), (p_107, (.lst (List.map V.bl marks_104) : HO)), (l_90, (.lst (List.map V.int ((((cutL script (some 2) (some 14))) ++ ([5])))) : HO)), (t_84, (.tup [(V.ref p_63), (V.ref p_68), (V.ref p_78)] : HO)), (p_78, (.tup [(V.ref a_81), (V.ref a_83)] : HO)), (a_81, (.lst (List.map V.bl ((((wholeP k_24.order.length k_24.past).1)))) : HO)), (a_83, (.lst (List.map V.int ((((wholeP k_24.order.length k_24.past).2)))) : HO)), (p_68, (.lst (List.map peRef r_69) : HO)), (p_63, (.lst (List.map V.int k_24.order) : HO))]) (ts := [pesOwn r_69, pkOwn T.C_Pack ob_5 k_24]) fr 1 rfl)), (pkF_no _ _ (by decide +kernel) (by decide +kernel)), ?_⟩
      refine ⟨ob_5, k_24, rfl, (Fr.pk (pre := [(p_168, (.lst (List.map V.int k_24.order) : HO)), (p_107, (.lst (List.map V.bl marks_104) : HO)), (l_90, (.lst (List.map V.int ((((cutL script (some 2) (some 14))) ++ ([5])))) : HO)), (t_84, (.tup [(V.ref p_63), (V.ref p_68), (V.ref p_78)] : HO)), (p_78, (.tup [(V.ref a_81), (V.ref a_83)] : HO)), (a_81, (.lst (List.map V.bl ((((wholeP k_24.order.length k_24.past).1)))) : HO)), (a_83, (.lst (List.map V.int ((((wholeP k_24.order.length k_24.past).2)))) : HO)), (p_68, (.lst (List.map peRef r_69) : HO)), (p_63, (.lst (List.map V.int k_24.order) : HO))]) (ts := [pesOwn r_69, pkOwn T.C_Pack ob_5 k_24]) fr 1 rfl), ?_, fun H_171 p_173 r_174 done_175 hp_177 hc_176 ff_172 => ?_⟩
      · have := hpu.len; omega
      have fr : Fr H _ ([(p_173, (.lst (List.map peRef r_174) : HO)), (p_168, (.lst (List.map V.int k_24.order) : HO)), (p_107, (.lst (List.map V.bl marks_104) : HO)), (l_90, (.lst (List.map V.int ((((cutL script (some 2) (some 14))) ++ ([5])))) : HO)), (t_84, (.tup [(V.ref p_63), (V.ref p_68), (V.ref p_78)] : HO)), (p_78, (.tup [(V.ref a_81), (V.ref a_83)] : HO)), (a_81, (.lst (List.map V.bl ((((wholeP k_24.order.length k_24.past).1)))) : HO)), (a_83, (.lst (List.map V.int ((((wholeP k_24.order.length k_24.past).2)))) : HO)), (p_68, (.lst (List.map peRef r_69) : HO)), (p_63, (.lst (List.map V.int k_24.order) : HO))] ++ List.flatten [pesOwn r_174, pesOwn r_69, pkOwn T.C_Pack ob_5 k_24]) := Fr.comp2 (pre := [(p_168, (.lst (List.map V.int k_24.order) : HO)), (p_107, (.lst (List.map V.bl marks_104) : HO)), (l_90, (.lst (List.map V.int ((((cutL script (some 2) (some 14))) ++ ([5])))) : HO)), (t_84, (.tup [(V.ref p_63), (V.ref p_68), (V.ref p_78)] : HO)), (p_78, (.tup [(V.ref a_81), (V.ref a_83)] : HO)), (a_81, (.lst (List.map V.bl ((((wholeP k_24.order.length k_24.past).1)))) : HO)), (a_83, (.lst (List.map V.int ((((wholeP k_24.order.length k_24.past).2)))) : HO)), (p_68, (.lst (List.map peRef r_69) : HO)), (p_63, (.lst (List.map V.int k_24.order) : HO))]) (ts := [pesOwn r_69, pkOwn T.C_Pack ob_5 k_24]) (bpre' := [(p_173, (.lst (List.map peRef r_174) : HO))]) (bts' := [pesOwn r_174]) fr ff_172
      subst hp_177
      refine ⟨_, rfl, _, _, _, rfl, (PkAt.p (Fr.pk (pre := [(p_173, (.lst (List.map peRef r_174) : HO)), (p_168, (.lst (List.map V.int k_24.order) : HO)), (p_107, (.lst (List.map V.bl marks_104) : HO)), (l_90, (.lst (List.map V.int ((((cutL script (some 2) (some 14))) ++ ([5])))) : HO)), (t_84, (.tup [(V.ref p_63), (V.ref p_68), (V.ref p_78)] : HO)), (p_78, (.tup [(V.ref a_81), (V.ref a_83)] : HO)), (a_81, (.lst (List.map V.bl ((((wholeP k_24.order.length k_24.past).1)))) : HO)), (a_83, (.lst (List.map V.int ((((wholeP k_24.order.length k_24.past).2)))) : HO)), (p_68, (.lst (List.map peRef r_69) : HO)), (p_63, (.lst (List.map V.int k_24.order) : HO))]) (ts := [pesOwn r_174, pesOwn r_69, pkOwn T.C_Pack ob_5 k_24]) fr 2 rfl)), (pkF_no _ _ (by decide +kernel) (by decide +kernel)), ob_5, k_24, rfl, (Fr.pk (pre := [(p_173, (.lst (List.map peRef r_174) : HO)), (p_168, (.lst (List.map V.int k_24.order) : HO)), (p_107, (.lst (List.map V.bl marks_104) : HO)), (l_90, (.lst (List.map V.int ((((cutL script (some 2) (some 14))) ++ ([5])))) : HO)), (t_84, (.tup [(V.ref p_63), (V.ref p_68), (V.ref p_78)] : HO)), (p_78, (.tup [(V.ref a_81), (V.ref a_83)] : HO)), (a_81, (.lst (List.map V.bl ((((wholeP k_24.order.length k_24.past).1)))) : HO)), (a_83, (.lst (List.map V.int ((((wholeP k_24.order.length k_24.past).2)))) : HO)), (p_68, (.lst (List.map peRef r_69) : HO)), (p_63, (.lst (List.map V.int k_24.order) : HO))]) (ts := [pesOwn r_174, pesOwn r_69, pkOwn T.C_Pack ob_5 k_24]) fr 2 rfl), ?_, ?_, ?_, fun H_178 p_183 a_186 Pack_whole_185 a_188 Pack_whole_187 hp_181 hp_182 ff_184 => ?_⟩
      · exact hpu.okO
      · omega
      · exact hph
      subst hp_181
      subst hp_182
      have fr : Fr H _ ([(p_183, (.tup [(V.ref a_186), (V.ref a_188)] : HO)), (a_186, (.lst (List.map V.bl ((((wholeP k_24.order.length k_24.past).1)))) : HO)), (a_188, (.lst (List.map V.int ((((wholeP k_24.order.length k_24.past).2)))) : HO)), (p_173, (.lst (List.map peRef r_174) : HO)), (p_168, (.lst (List.map V.int k_24.order) : HO)), (p_107, (.lst (List.map V.bl marks_104) : HO)), (l_90, (.lst (List.map V.int ((((cutL script (some 2) (some 14))) ++ ([5])))) : HO)), (t_84, (.tup [(V.ref p_63), (V.ref p_68), (V.ref p_78)] : HO)), (p_78, (.tup [(V.ref a_81), (V.ref a_83)] : HO)), (a_81, (.lst (List.map V.bl ((((wholeP k_24.order.length k_24.past).1)))) : HO)), (a_83, (.lst (List.map V.int ((((wholeP k_24.order.length k_24.past).2)))) : HO)), (p_68, (.lst (List.map peRef r_69) : HO)), (p_63, (.lst (List.map V.int k_24.order) : HO))] ++ List.flatten [pesOwn r_174, pesOwn r_69, pkOwn T.C_Pack ob_5 k_24]) := (Fr.comp fr ff_184 :)
      refine ⟨(Evl.sz_of (show 3 ≤ 100000 by decide)), fun t_189 nt_190 => ?_⟩
      have fr : Fr H _ ([(t_189, (.tup [(V.ref p_168), (V.ref p_173), (V.ref p_183)] : HO)), (p_183, (.tup [(V.ref a_186), (V.ref a_188)] : HO)), (a_186, (.lst (List.map V.bl ((((wholeP k_24.order.length k_24.past).1)))) : HO)), (a_188, (.lst (List.map V.int ((((wholeP k_24.order.length k_24.past).2)))) : HO)), (p_173, (.lst (List.map peRef r_174) : HO)), (p_168, (.lst (List.map V.int k_24.order) : HO)), (p_107, (.lst (List.map V.bl marks_104) : HO)), (l_90, (.lst (List.map V.int ((((cutL script (some 2) (some 14))) ++ ([5])))) : HO)), (t_84, (.tup [(V.ref p_63), (V.ref p_68), (V.ref p_78)] : HO)), (p_78, (.tup [(V.ref a_81), (V.ref a_83)] : HO)), (a_81, (.lst (List.map V.bl ((((wholeP k_24.order.length k_24.past).1)))) : HO)), (a_83, (.lst (List.map V.int ((((wholeP k_24.order.length k_24.past).2)))) : HO)), (p_68, (.lst (List.map peRef r_69) : HO)), (p_63, (.lst (List.map V.int k_24.order) : HO))] ++ List.flatten [pesOwn r_174, pesOwn r_69, pkOwn T.C_Pack ob_5 k_24]) := fr.new nt_190
      refine ⟨_, rfl, _, _, true, (Dp.tup (SqT.of fr.at0) (DpAll.cons (dp_ints (Fr.atk fr 5 rfl)) (DpAll.cons (dp_pst (PstAt.mk (Fr.atk fr 4 rfl) (Fr.pes (pre := [(t_189, (.tup [(V.ref p_168), (V.ref p_173), (V.ref p_183)] : HO)), (p_183, (.tup [(V.ref a_186), (V.ref a_188)] : HO)), (a_186, (.lst (List.map V.bl ((((wholeP k_24.order.length k_24.past).1)))) : HO)), (a_188, (.lst (List.map V.int ((((wholeP k_24.order.length k_24.past).2)))) : HO)), (p_173, (.lst (List.map peRef r_174) : HO)), (p_168, (.lst (List.map V.int k_24.order) : HO)), (p_107, (.lst (List.map V.bl marks_104) : HO)), (l_90, (.lst (List.map V.int ((((cutL script (some 2) (some 14))) ++ ([5])))) : HO)), (t_84, (.tup [(V.ref p_63), (V.ref p_68), (V.ref p_78)] : HO)), (p_78, (.tup [(V.ref a_81), (V.ref a_83)] : HO)), (a_81, (.lst (List.map V.bl ((((wholeP k_24.order.length k_24.past).1)))) : HO)), (a_83, (.lst (List.map V.int ((((wholeP k_24.order.length k_24.past).2)))) : HO)), (p_68, (.lst (List.map peRef r_69) : HO)), (p_63, (.lst (List.map V.int k_24.order) : HO))]) (ts := [pesOwn r_174, pesOwn r_69, pkOwn T.C_Pack ob_5 k_24]) fr 0 rfl) hc_176)) (DpAll.cons (Dp.tup (SqT.of fr.at1) (DpAll.cons (dp_bls fr.at2) (DpAll.cons (dp_ints fr.at3) DpAll.nil))) DpAll.nil)))), (Dp.tup (SqT.of (Fr.atk fr 8 rfl)) (DpAll.cons (dp_ints (Fr.atk fr 13 rfl)) (DpAll.cons (dp_pst (PstAt.mk (Fr.atk fr 12 rfl) (Fr.pes (pre := [(t_189, (.tup [(V.ref p_168), (V.ref p_173), (V.ref p_183)] : HO)), (p_183, (.tup [(V.ref a_186), (V.ref a_188)] : HO)), (a_186, (.lst (List.map V.bl ((((wholeP k_24.order.length k_24.past).1)))) : HO)), (a_188, (.lst (List.map V.int ((((wholeP k_24.order.length k_24.past).2)))) : HO)), (p_173, (.lst (List.map peRef r_174) : HO)), (p_168, (.lst (List.map V.int k_24.order) : HO)), (p_107, (.lst (List.map V.bl marks_104) : HO)), (l_90, (.lst (List.map V.int ((((cutL script (some 2) (some 14))) ++ ([5])))) : HO)), (t_84, (.tup [(V.ref p_63), (V.ref p_68), (V.ref p_78)] : HO)), (p_78, (.tup [(V.ref a_81), (V.ref a_83)] : HO)), (a_81, (.lst (List.map V.bl ((((wholeP k_24.order.length k_24.past).1)))) : HO)), (a_83, (.lst (List.map V.int ((((wholeP k_24.order.length k_24.past).2)))) : HO)), (p_68, (.lst (List.map peRef r_69) : HO)), (p_63, (.lst (List.map V.int k_24.order) : HO))]) (ts := [pesOwn r_174, pesOwn r_69, pkOwn T.C_Pack ob_5 k_24]) fr 1 rfl) hc_71)) (DpAll.cons (Dp.tup (SqT.of (Fr.atk fr 9 rfl)) (DpAll.cons (dp_bls (Fr.atk fr 10 rfl)) (DpAll.cons (dp_ints (Fr.atk fr 11 rfl)) DpAll.nil))) DpAll.nil)))), (Okd.sh (okt_cons (okd_ints _) (okt_cons (okd_pst _) (okt_cons (okt_cons (okd_bls _) (okt_cons (okd_ints _) okt_nil)) okt_nil)))), (Okd.sh (okt_cons (okd_ints _) (okt_cons (okd_pst _) (okt_cons (okt_cons (okd_bls _) (okt_cons (okd_ints _) okt_nil)) okt_nil)))), (PySem.SeqAt.eqv_refl _ (Okd.cn (okt_cons (okd_ints _) (okt_cons (okd_pst _) (okt_cons (okt_cons (okd_bls _) (okt_cons (okd_ints _) okt_nil)) okt_nil))))), _, rfl, (fun h => nomatch h), fun _ => ?_⟩
      refine ⟨_, rfl, ?_⟩
      refine iteF ?_
      have fr : Fr H _ ([(t_189, (.tup [(V.ref p_168), (V.ref p_173), (V.ref p_183)] : HO)), (p_183, (.tup [(V.ref a_186), (V.ref a_188)] : HO)), (a_186, (.lst (List.map V.bl ((((wholeP k_24.order.length k_24.past).1)))) : HO)), (a_188, (.lst (List.map V.int ((((wholeP k_24.order.length k_24.past).2)))) : HO)), (p_173, (.lst (List.map peRef r_174) : HO)), (p_168, (.lst (List.map V.int k_24.order) : HO)), (p_107, (.lst (List.map V.bl marks_104) : HO)), (l_90, (.lst (List.map V.int ((((cutL script (some 2) (some 14))) ++ ([5])))) : HO)), (t_84, (.tup [(V.ref p_63), (V.ref p_68), (V.ref p_78)] : HO)), (p_78, (.tup [(V.ref a_81), (V.ref a_83)] : HO)), (a_81, (.lst (List.map V.bl ((((wholeP k_24.order.length k_24.past).1)))) : HO)), (a_83, (.lst (List.map V.int ((((wholeP k_24.order.length k_24.past).2)))) : HO)), (p_68, (.lst (List.map peRef r_69) : HO)), (p_63, (.lst (List.map V.int k_24.order) : HO))] ++ List.flatten [pesOwn r_69, pkOwn T.C_Pack ob_5 k_24]) := Fr.tdrop (pre := [(t_189, (.tup [(V.ref p_168), (V.ref p_173), (V.ref p_183)] : HO)), (p_183, (.tup [(V.ref a_186), (V.ref a_188)] : HO)), (a_186, (.lst (List.map V.bl ((((wholeP k_24.order.length k_24.past).1)))) : HO)), (a_188, (.lst (List.map V.int ((((wholeP k_24.order.length k_24.past).2)))) : HO)), (p_173, (.lst (List.map peRef r_174) : HO)), (p_168, (.lst (List.map V.int k_24.order) : HO)), (p_107, (.lst (List.map V.bl marks_104) : HO)), (l_90, (.lst (List.map V.int ((((cutL script (some 2) (some 14))) ++ ([5])))) : HO)), (t_84, (.tup [(V.ref p_63), (V.ref p_68), (V.ref p_78)] : HO)), (p_78, (.tup [(V.ref a_81), (V.ref a_83)] : HO)), (a_81, (.lst (List.map V.bl ((((wholeP k_24.order.length k_24.past).1)))) : HO)), (a_83, (.lst (List.map V.int ((((wholeP k_24.order.length k_24.past).2)))) : HO)), (p_68, (.lst (List.map peRef r_69) : HO)), (p_63, (.lst (List.map V.int k_24.order) : HO))]) (ts := [pesOwn r_174, pesOwn r_69, pkOwn T.C_Pack ob_5 k_24]) fr 0 rfl
      have fr : Fr H _ ([(p_183, (.tup [(V.ref a_186), (V.ref a_188)] : HO)), (a_186, (.lst (List.map V.bl ((((wholeP k_24.order.length k_24.past).1)))) : HO)), (a_188, (.lst (List.map V.int ((((wholeP k_24.order.length k_24.past).2)))) : HO)), (p_173, (.lst (List.map peRef r_174) : HO)), (p_168, (.lst (List.map V.int k_24.order) : HO)), (p_107, (.lst (List.map V.bl marks_104) : HO)), (l_90, (.lst (List.map V.int ((((cutL script (some 2) (some 14))) ++ ([5])))) : HO)), (t_84, (.tup [(V.ref p_63), (V.ref p_68), (V.ref p_78)] : HO)), (p_78, (.tup [(V.ref a_81), (V.ref a_83)] : HO)), (a_81, (.lst (List.map V.bl ((((wholeP k_24.order.length k_24.past).1)))) : HO)), (a_83, (.lst (List.map V.int ((((wholeP k_24.order.length k_24.past).2)))) : HO)), (p_68, (.lst (List.map peRef r_69) : HO)), (p_63, (.lst (List.map V.int k_24.order) : HO))] ++ List.flatten [pesOwn r_69, pkOwn T.C_Pack ob_5 k_24]) := Fr.dk fr 0
      have fr : Fr H _ ([(a_186, (.lst (List.map V.bl ((((wholeP k_24.order.length k_24.past).1)))) : HO)), (a_188, (.lst (List.map V.int ((((wholeP k_24.order.length k_24.past).2)))) : HO)), (p_173, (.lst (List.map peRef r_174) : HO)), (p_168, (.lst (List.map V.int k_24.order) : HO)), (p_107, (.lst (List.map V.bl marks_104) : HO)), (l_90, (.lst (List.map V.int ((((cutL script (some 2) (some 14))) ++ ([5])))) : HO)), (t_84, (.tup [(V.ref p_63), (V.ref p_68), (V.ref p_78)] : HO)), (p_78, (.tup [(V.ref a_81), (V.ref a_83)] : HO)), (a_81, (.lst (List.map V.bl ((((wholeP k_24.order.length k_24.past).1)))) : HO)), (a_83, (.lst (List.map V.int ((((wholeP k_24.order.length k_24.past).2)))) : HO)), (p_68, (.lst (List.map peRef r_69) : HO)), (p_63, (.lst (List.map V.int k_24.order) : HO))] ++ List.flatten [pesOwn r_69, pkOwn T.C_Pack ob_5 k_24]) := Fr.dk fr 0
      have fr : Fr H _ ([(a_188, (.lst (List.map V.int ((((wholeP k_24.order.length k_24.past).2)))) : HO)), (p_173, (.lst (List.map peRef r_174) : HO)), (p_168, (.lst (List.map V.int k_24.order) : HO)), (p_107, (.lst (List.map V.bl marks_104) : HO)), (l_90, (.lst (List.map V.int ((((cutL script (some 2) (some 14))) ++ ([5])))) : HO)), (t_84, (.tup [(V.ref p_63), (V.ref p_68), (V.ref p_78)] : HO)), (p_78, (.tup [(V.ref a_81), (V.ref a_83)] : HO)), (a_81, (.lst (List.map V.bl ((((wholeP k_24.order.length k_24.past).1)))) : HO)), (a_83, (.lst (List.map V.int ((((wholeP k_24.order.length k_24.past).2)))) : HO)), (p_68, (.lst (List.map peRef r_69) : HO)), (p_63, (.lst (List.map V.int k_24.order) : HO))] ++ List.flatten [pesOwn r_69, pkOwn T.C_Pack ob_5 k_24]) := Fr.dk fr 0
      have fr : Fr H _ ([(p_173, (.lst (List.map peRef r_174) : HO)), (p_168, (.lst (List.map V.int k_24.order) : HO)), (p_107, (.lst (List.map V.bl marks_104) : HO)), (l_90, (.lst (List.map V.int ((((cutL script (some 2) (some 14))) ++ ([5])))) : HO)), (t_84, (.tup [(V.ref p_63), (V.ref p_68), (V.ref p_78)] : HO)), (p_78, (.tup [(V.ref a_81), (V.ref a_83)] : HO)), (a_81, (.lst (List.map V.bl ((((wholeP k_24.order.length k_24.past).1)))) : HO)), (a_83, (.lst (List.map V.int ((((wholeP k_24.order.length k_24.past).2)))) : HO)), (p_68, (.lst (List.map peRef r_69) : HO)), (p_63, (.lst (List.map V.int k_24.order) : HO))] ++ List.flatten [pesOwn r_69, pkOwn T.C_Pack ob_5 k_24]) := Fr.dk fr 0
      have fr : Fr H _ ([(p_168, (.lst (List.map V.int k_24.order) : HO)), (p_107, (.lst (List.map V.bl marks_104) : HO)), (l_90, (.lst (List.map V.int ((((cutL script (some 2) (some 14))) ++ ([5])))) : HO)), (t_84, (.tup [(V.ref p_63), (V.ref p_68), (V.ref p_78)] : HO)), (p_78, (.tup [(V.ref a_81), (V.ref a_83)] : HO)), (a_81, (.lst (List.map V.bl ((((wholeP k_24.order.length k_24.past).1)))) : HO)), (a_83, (.lst (List.map V.int ((((wholeP k_24.order.length k_24.past).2)))) : HO)), (p_68, (.lst (List.map peRef r_69) : HO)), (p_63, (.lst (List.map V.int k_24.order) : HO))] ++ List.flatten [pesOwn r_69, pkOwn T.C_Pack ob_5 k_24]) := Fr.dk fr 0
      have fr : Fr H _ ([(p_107, (.lst (List.map V.bl marks_104) : HO)), (l_90, (.lst (List.map V.int ((((cutL script (some 2) (some 14))) ++ ([5])))) : HO)), (t_84, (.tup [(V.ref p_63), (V.ref p_68), (V.ref p_78)] : HO)), (p_78, (.tup [(V.ref a_81), (V.ref a_83)] : HO)), (a_81, (.lst (List.map V.bl ((((wholeP k_24.order.length k_24.past).1)))) : HO)), (a_83, (.lst (List.map V.int ((((wholeP k_24.order.length k_24.past).2)))) : HO)), (p_68, (.lst (List.map peRef r_69) : HO)), (p_63, (.lst (List.map V.int k_24.order) : HO))] ++ List.flatten [pesOwn r_69, pkOwn T.C_Pack ob_5 k_24]) := Fr.dk fr 0
      have fr : Fr H _ ([(p_107, (.lst (List.map V.bl marks_104) : HO)), (l_90, (.lst (List.map V.int ((((cutL script (some 2) (some 14))) ++ ([5])))) : HO)), (t_84, (.tup [(V.ref p_63), (V.ref p_68), (V.ref p_78)] : HO)), (p_78, (.tup [(V.ref a_81), (V.ref a_83)] : HO)), (a_81, (.lst (List.map V.bl ((((wholeP k_24.order.length k_24.past).1)))) : HO)), (a_83, (.lst (List.map V.int ((((wholeP k_24.order.length k_24.past).2)))) : HO)), (p_68, (.lst (List.map peRef r_69) : HO)), (p_63, (.lst (List.map V.int k_24.order) : HO))] ++ List.flatten [pkOwn T.C_Pack ob_5 k_24, pesOwn r_69]) := Fr.tup (pre := [(p_107, (.lst (List.map V.bl marks_104) : HO)), (l_90, (.lst (List.map V.int ((((cutL script (some 2) (some 14))) ++ ([5])))) : HO)), (t_84, (.tup [(V.ref p_63), (V.ref p_68), (V.ref p_78)] : HO)), (p_78, (.tup [(V.ref a_81), (V.ref a_83)] : HO)), (a_81, (.lst (List.map V.bl ((((wholeP k_24.order.length k_24.past).1)))) : HO)), (a_83, (.lst (List.map V.int ((((wholeP k_24.order.length k_24.past).2)))) : HO)), (p_68, (.lst (List.map peRef r_69) : HO)), (p_63, (.lst (List.map V.int k_24.order) : HO))]) (ts := [pesOwn r_69, pkOwn T.C_Pack ob_5 k_24]) fr 1 rfl
      have fr : Fr H _ ([(p_107, (.lst (List.map V.bl marks_104) : HO)), (l_90, (.lst (List.map V.int ((((cutL script (some 2) (some 14))) ++ ([5])))) : HO)), (t_84, (.tup [(V.ref p_63), (V.ref p_68), (V.ref p_78)] : HO)), (p_78, (.tup [(V.ref a_81), (V.ref a_83)] : HO)), (a_81, (.lst (List.map V.bl ((((wholeP k_24.order.length k_24.past).1)))) : HO)), (a_83, (.lst (List.map V.int ((((wholeP k_24.order.length k_24.past).2)))) : HO)), (p_68, (.lst (List.map peRef r_69) : HO)), (p_63, (.lst (List.map V.int k_24.order) : HO))] ++ List.flatten [pesOwn r_69, pkOwn T.C_Pack ob_5 k_24]) := Fr.tup (pre := [(p_107, (.lst (List.map V.bl marks_104) : HO)), (l_90, (.lst (List.map V.int ((((cutL script (some 2) (some 14))) ++ ([5])))) : HO)), (t_84, (.tup [(V.ref p_63), (V.ref p_68), (V.ref p_78)] : HO)), (p_78, (.tup [(V.ref a_81), (V.ref a_83)] : HO)), (a_81, (.lst (List.map V.bl ((((wholeP k_24.order.length k_24.past).1)))) : HO)), (a_83, (.lst (List.map V.int ((((wholeP k_24.order.length k_24.past).2)))) : HO)), (p_68, (.lst (List.map peRef r_69) : HO)), (p_63, (.lst (List.map V.int k_24.order) : HO))]) (ts := [pkOwn T.C_Pack ob_5 k_24, pesOwn r_69]) fr 1 rfl
      have fr : Fr H _ ([(l_90, (.lst (List.map V.int ((((cutL script (some 2) (some 14))) ++ ([5])))) : HO)), (t_84, (.tup [(V.ref p_63), (V.ref p_68), (V.ref p_78)] : HO)), (p_78, (.tup [(V.ref a_81), (V.ref a_83)] : HO)), (a_81, (.lst (List.map V.bl ((((wholeP k_24.order.length k_24.past).1)))) : HO)), (a_83, (.lst (List.map V.int ((((wholeP k_24.order.length k_24.past).2)))) : HO)), (p_68, (.lst (List.map peRef r_69) : HO)), (p_63, (.lst (List.map V.int k_24.order) : HO))] ++ List.flatten [pesOwn r_69, pkOwn T.C_Pack ob_5 k_24]) := Fr.dk fr 0
      refine ⟨_, _, _, rfl, fr⟩
    rintro s_192 H_191 ⟨y_92, y_93, y_94, rfl, fr⟩
    have fr : Fr H _ ([(t_84, (.tup [(V.ref p_63), (V.ref p_68), (V.ref p_78)] : HO)), (p_78, (.tup [(V.ref a_81), (V.ref a_83)] : HO)), (a_81, (.lst (List.map V.bl ((((wholeP k_24.order.length k_24.past).1)))) : HO)), (a_83, (.lst (List.map V.int ((((wholeP k_24.order.length k_24.past).2)))) : HO)), (p_68, (.lst (List.map peRef r_69) : HO)), (p_63, (.lst (List.map V.int k_24.order) : HO))] ++ List.flatten [pesOwn r_69, pkOwn T.C_Pack ob_5 k_24]) := Fr.dk fr 0
    refine ⟨_, rfl, _, _, rfl, rfl, (show (0 : Int) < _ by decide), _, rfl, ?_, ?_, ?_⟩
    · walk_at "side"
    · walk_at "side"
    refine for_it (walkR (n := (Int.toNat ((cell_at_21 % 4))))) (fun (i : Nat) σ H1 => ∃ (k_193 : PK) (y_194 : Option V), σ = [some (V.ref a_script), some (V.int cell_at_2), some (V.int ((1 + (cell_at_2 % 12)))), some (V.ref ob_5), some (V.int cell_at_21), y_194, y_92, some (V.ref t_84), y_93, y_94] ∧ Fr H H1 ([(t_84, (.tup [(V.ref p_63), (V.ref p_68), (V.ref p_78)] : HO)), (p_78, (.tup [(V.ref a_81), (V.ref a_83)] : HO)), (a_81, (.lst (List.map V.bl ((((wholeP k_24.order.length k_24.past).1)))) : HO)), (a_83, (.lst (List.map V.int ((((wholeP k_24.order.length k_24.past).2)))) : HO)), (p_68, (.lst (List.map peRef r_69) : HO)), (p_63, (.lst (List.map V.int k_24.order) : HO))] ++ List.flatten [pkOwn T.C_Pack ob_5 k_193, pesOwn r_69]) ∧ (PkU (Int.toNat ((1 + (cell_at_2 % 12)))) (Int.toNat (cell_at_21 % 4) - i) k_193)) ?_ ?_ ?_ ?_
    · have fr : Fr H _ ([(t_84, (.tup [(V.ref p_63), (V.ref p_68), (V.ref p_78)] : HO)), (p_78, (.tup [(V.ref a_81), (V.ref a_83)] : HO)), (a_81, (.lst (List.map V.bl ((((wholeP k_24.order.length k_24.past).1)))) : HO)), (a_83, (.lst (List.map V.int ((((wholeP k_24.order.length k_24.past).2)))) : HO)), (p_68, (.lst (List.map peRef r_69) : HO)), (p_63, (.lst (List.map V.int k_24.order) : HO))] ++ List.flatten [pkOwn T.C_Pack ob_5 k_24, pesOwn r_69]) := Fr.tup (pre := [(t_84, (.tup [(V.ref p_63), (V.ref p_68), (V.ref p_78)] : HO)), (p_78, (.tup [(V.ref a_81), (V.ref a_83)] : HO)), (a_81, (.lst (List.map V.bl ((((wholeP k_24.order.length k_24.past).1)))) : HO)), (a_83, (.lst (List.map V.int ((((wholeP k_24.order.length k_24.past).2)))) : HO)), (p_68, (.lst (List.map peRef r_69) : HO)), (p_63, (.lst (List.map V.int k_24.order) : HO))]) (ts := [pesOwn r_69, pkOwn T.C_Pack ob_5 k_24]) fr 1 rfl
      refine ⟨k_24, _, rfl, fr, ?_⟩
      · exact hpu
    · rintro i σ H1 hi ⟨k_193, y_194, rfl, fr, hpu⟩
      exact trivial
    · rintro i_195 x_197 s_200 H_198 H_199 hi_196 ⟨k_193, y_194, rfl, fr, hpu⟩ ⟨rfl, rfl⟩
      have hpv : PkU (Int.toNat ((1 + (cell_at_2 % 12)))) ((Int.toNat (cell_at_21 % 4) - (i_195 + 1)) + 1) k_193 := by rw [show (Int.toNat (cell_at_21 % 4) - (i_195 + 1)) + 1 = Int.toNat (cell_at_21 % 4) - i_195 by omega]; exact hpu
      have hla := hpv.last (by omega)
      refine ⟨_, rfl, _, _, _, rfl, (PkAt.p (Fr.pk (pre := [(t_84, (.tup [(V.ref p_63), (V.ref p_68), (V.ref p_78)] : HO)), (p_78, (.tup [(V.ref a_81), (V.ref a_83)] : HO)), (a_81, (.lst (List.map V.bl ((((wholeP k_24.order.length k_24.past).1)))) : HO)), (a_83, (.lst (List.map V.int ((((wholeP k_24.order.length k_24.past).2)))) : HO)), (p_68, (.lst (List.map peRef r_69) : HO)), (p_63, (.lst (List.map V.int k_24.order) : HO))]) (ts := [pkOwn T.C_Pack ob_5 k_193, pesOwn r_69]) fr 0 rfl)), (pkF_no _ _ (by decide +kernel) (by decide +kernel)), ?_⟩
      have frF_201 := Fr.split (bpre := []) (pre := [(t_84, (.tup [(V.ref p_63), (V.ref p_68), (V.ref p_78)] : HO)), (p_78, (.tup [(V.ref a_81), (V.ref a_83)] : HO)), (a_81, (.lst (List.map V.bl ((((wholeP k_24.order.length k_24.past).1)))) : HO)), (a_83, (.lst (List.map V.int ((((wholeP k_24.order.length k_24.past).2)))) : HO)), (p_68, (.lst (List.map peRef r_69) : HO)), (p_63, (.lst (List.map V.int k_24.order) : HO))]) (bts := [pkOwn T.C_Pack ob_5 k_193]) (ts := [pesOwn r_69]) fr
      have fr : Fr H _ ([(t_84, (.tup [(V.ref p_63), (V.ref p_68), (V.ref p_78)] : HO)), (p_78, (.tup [(V.ref a_81), (V.ref a_83)] : HO)), (a_81, (.lst (List.map V.bl ((((wholeP k_24.order.length k_24.past).1)))) : HO)), (a_83, (.lst (List.map V.int ((((wholeP k_24.order.length k_24.past).2)))) : HO)), (p_68, (.lst (List.map peRef r_69) : HO)), (p_63, (.lst (List.map V.int k_24.order) : HO))] ++ List.flatten [pesOwn r_69]) := Fr.mn frF_201
      refine ⟨ob_5, k_193, _, rfl, (Fr.lent frF_201), ?_, ?_, ?_, fun H_202 k_204 p_205 undo_206 hp_207 hp_208 hp_209 ff_203 => ?_⟩
      · exact hla.1
      · exact hla.2.1
      · exact hla.2.2
      have fr : Fr H _ ([(p_205, (.lst (List.map V.int undo_206) : HO)), (t_84, (.tup [(V.ref p_63), (V.ref p_68), (V.ref p_78)] : HO)), (p_78, (.tup [(V.ref a_81), (V.ref a_83)] : HO)), (a_81, (.lst (List.map V.bl ((((wholeP k_24.order.length k_24.past).1)))) : HO)), (a_83, (.lst (List.map V.int ((((wholeP k_24.order.length k_24.past).2)))) : HO)), (p_68, (.lst (List.map peRef r_69) : HO)), (p_63, (.lst (List.map V.int k_24.order) : HO))] ++ List.flatten [pkOwn T.C_Pack ob_5 k_204, pesOwn r_69]) := Fr.back2 (bpre := []) (pre := [(t_84, (.tup [(V.ref p_63), (V.ref p_68), (V.ref p_78)] : HO)), (p_78, (.tup [(V.ref a_81), (V.ref a_83)] : HO)), (a_81, (.lst (List.map V.bl ((((wholeP k_24.order.length k_24.past).1)))) : HO)), (a_83, (.lst (List.map V.int ((((wholeP k_24.order.length k_24.past).2)))) : HO)), (p_68, (.lst (List.map peRef r_69) : HO)), (p_63, (.lst (List.map V.int k_24.order) : HO))]) (bts := [pkOwn T.C_Pack ob_5 k_193]) (ts := [pesOwn r_69]) (bpre' := [(p_205, (.lst (List.map V.int undo_206) : HO))]) (bts' := [pkOwn T.C_Pack ob_5 k_204]) frF_201 ff_203
      subst hp_209
      have hpo := hp_207
      have hpp := hp_208
      have fr : Fr H _ ([(t_84, (.tup [(V.ref p_63), (V.ref p_68), (V.ref p_78)] : HO)), (p_78, (.tup [(V.ref a_81), (V.ref a_83)] : HO)), (a_81, (.lst (List.map V.bl ((((wholeP k_24.order.length k_24.past).1)))) : HO)), (a_83, (.lst (List.map V.int ((((wholeP k_24.order.length k_24.past).2)))) : HO)), (p_68, (.lst (List.map peRef r_69) : HO)), (p_63, (.lst (List.map V.int k_24.order) : HO))] ++ List.flatten [pkOwn T.C_Pack ob_5 k_204, pesOwn r_69]) := Fr.dk fr 0
      have fr : Fr H _ ([(t_84, (.tup [(V.ref p_63), (V.ref p_68), (V.ref p_78)] : HO)), (p_78, (.tup [(V.ref a_81), (V.ref a_83)] : HO)), (a_81, (.lst (List.map V.bl ((((wholeP k_24.order.length k_24.past).1)))) : HO)), (a_83, (.lst (List.map V.int ((((wholeP k_24.order.length k_24.past).2)))) : HO)), (p_68, (.lst (List.map peRef r_69) : HO)), (p_63, (.lst (List.map V.int k_24.order) : HO))] ++ List.flatten [pesOwn r_69, pkOwn T.C_Pack ob_5 k_204]) := Fr.tup (pre := [(t_84, (.tup [(V.ref p_63), (V.ref p_68), (V.ref p_78)] : HO)), (p_78, (.tup [(V.ref a_81), (V.ref a_83)] : HO)), (a_81, (.lst (List.map V.bl ((((wholeP k_24.order.length k_24.past).1)))) : HO)), (a_83, (.lst (List.map V.int ((((wholeP k_24.order.length k_24.past).2)))) : HO)), (p_68, (.lst (List.map peRef r_69) : HO)), (p_63, (.lst (List.map V.int k_24.order) : HO))]) (ts := [pkOwn T.C_Pack ob_5 k_204, pesOwn r_69]) fr 1 rfl
      have fr : Fr H _ ([(t_84, (.tup [(V.ref p_63), (V.ref p_68), (V.ref p_78)] : HO)), (p_78, (.tup [(V.ref a_81), (V.ref a_83)] : HO)), (a_81, (.lst (List.map V.bl ((((wholeP k_24.order.length k_24.past).1)))) : HO)), (a_83, (.lst (List.map V.int ((((wholeP k_24.order.length k_24.past).2)))) : HO)), (p_68, (.lst (List.map peRef r_69) : HO)), (p_63, (.lst (List.map V.int k_24.order) : HO))] ++ List.flatten [pkOwn T.C_Pack ob_5 k_204, pesOwn r_69]) := Fr.tup (pre := [(t_84, (.tup [(V.ref p_63), (V.ref p_68), (V.ref p_78)] : HO)), (p_78, (.tup [(V.ref a_81), (V.ref a_83)] : HO)), (a_81, (.lst (List.map V.bl ((((wholeP k_24.order.length k_24.past).1)))) : HO)), (a_83, (.lst (List.map V.int ((((wholeP k_24.order.length k_24.past).2)))) : HO)), (p_68, (.lst (List.map peRef r_69) : HO)), (p_63, (.lst (List.map V.int k_24.order) : HO))]) (ts := [pesOwn r_69, pkOwn T.C_Pack ob_5 k_204]) fr 1 rfl
      refine ⟨k_204, _, rfl, fr, ?_⟩
      · exact hpv.undo hpo hpp
    rintro s_211 H_210 ⟨k_193, y_194, rfl, fr, hpu⟩
    have hpz : PkU (Int.toNat ((1 + (cell_at_2 % 12)))) 0 k_193 := by rw [show Int.toNat (cell_at_21 % 4) - Int.toNat (cell_at_21 % 4) = 0 by omega] at hpu; exact hpu
    have hpn := hpz.none
    have hol2 := hpz.olen
    refine ⟨_, rfl, ob_5, k_193, ((V.str ("riffle"))), rfl, (Fr.pk (pre := [(t_84, (.tup [(V.ref p_63), (V.ref p_68), (V.ref p_78)] : HO)), (p_78, (.tup [(V.ref a_81), (V.ref a_83)] : HO)), (a_81, (.lst (List.map V.bl ((((wholeP k_24.order.length k_24.past).1)))) : HO)), (a_83, (.lst (List.map V.int ((((wholeP k_24.order.length k_24.past).2)))) : HO)), (p_68, (.lst (List.map peRef r_69) : HO)), (p_63, (.lst (List.map V.int k_24.order) : HO))]) (ts := [pkOwn T.C_Pack ob_5 k_193, pesOwn r_69]) fr 0 rfl), ?_, ?_, fun H_212 refused_213 hp_215 sm_214 => ?_⟩
    · first | exact List.length_eq_zero_iff.mpr (by assumption) | exact List.length_eq_zero_iff.mpr hpn.1
    · rfl
    have fr : Fr H _ ([(t_84, (.tup [(V.ref p_63), (V.ref p_68), (V.ref p_78)] : HO)), (p_78, (.tup [(V.ref a_81), (V.ref a_83)] : HO)), (a_81, (.lst (List.map V.bl ((((wholeP k_24.order.length k_24.past).1)))) : HO)), (a_83, (.lst (List.map V.int ((((wholeP k_24.order.length k_24.past).2)))) : HO)), (p_68, (.lst (List.map peRef r_69) : HO)), (p_63, (.lst (List.map V.int k_24.order) : HO))] ++ List.flatten [pkOwn T.C_Pack ob_5 k_193, pesOwn r_69]) := fr.call sm_214
    subst hp_215
    refine ⟨_, rfl, fun _ => ?_, (fun h => nomatch h)⟩
    refine iteF ?_
    refine ⟨_, rfl, _, _, _, rfl, (PkAt.p (Fr.pk (pre := [(t_84, (.tup [(V.ref p_63), (V.ref p_68), (V.ref p_78)] : HO)), (p_78, (.tup [(V.ref a_81), (V.ref a_83)] : HO)), (a_81, (.lst (List.map V.bl ((((wholeP k_24.order.length k_24.past).1)))) : HO)), (a_83, (.lst (List.map V.int ((((wholeP k_24.order.length k_24.past).2)))) : HO)), (p_68, (.lst (List.map peRef r_69) : HO)), (p_63, (.lst (List.map V.int k_24.order) : HO))]) (ts := [pkOwn T.C_Pack ob_5 k_193, pesOwn r_69]) fr 0 rfl)), (pkF_no _ _ (by decide +kernel) (by decide +kernel)), ob_5, k_193, rfl, (Fr.pk (pre := [(t_84, (.tup [(V.ref p_63), (V.ref p_68), (V.ref p_78)] : HO)), (p_78, (.tup [(V.ref a_81), (V.ref a_83)] : HO)), (a_81, (.lst (List.map V.bl ((((wholeP k_24.order.length k_24.past).1)))) : HO)), (a_83, (.lst (List.map V.int ((((wholeP k_24.order.length k_24.past).2)))) : HO)), (p_68, (.lst (List.map peRef r_69) : HO)), (p_63, (.lst (List.map V.int k_24.order) : HO))]) (ts := [pkOwn T.C_Pack ob_5 k_193, pesOwn r_69]) fr 0 rfl), fun H_216 p_220 Pack_order_217 hp_219 sm_218 np_221 ep_222 => ?_⟩
    have fr : Fr H _ ([(p_220, (.lst (List.map V.int Pack_order_217) : HO)), (t_84, (.tup [(V.ref p_63), (V.ref p_68), (V.ref p_78)] : HO)), (p_78, (.tup [(V.ref a_81), (V.ref a_83)] : HO)), (a_81, (.lst (List.map V.bl ((((wholeP k_24.order.length k_24.past).1)))) : HO)), (a_83, (.lst (List.map V.int ((((wholeP k_24.order.length k_24.past).2)))) : HO)), (p_68, (.lst (List.map peRef r_69) : HO)), (p_63, (.lst (List.map V.int k_24.order) : HO))] ++ List.flatten [pkOwn T.C_Pack ob_5 k_193, pesOwn r_69]) := fr.cnew sm_218 np_221 ep_222
    subst hp_219
    refine ⟨_, rfl, _, rfl, ?_, fun l_223 nl_224 => ?_⟩
    · walk_at "rgok"
    have fr : Fr H _ ([(l_223, (.lst (List.map V.int ((rangeI ((1 + (cell_at_2 % 12)))))) : HO)), (p_220, (.lst (List.map V.int k_193.order) : HO)), (t_84, (.tup [(V.ref p_63), (V.ref p_68), (V.ref p_78)] : HO)), (p_78, (.tup [(V.ref a_81), (V.ref a_83)] : HO)), (a_81, (.lst (List.map V.bl ((((wholeP k_24.order.length k_24.past).1)))) : HO)), (a_83, (.lst (List.map V.int ((((wholeP k_24.order.length k_24.past).2)))) : HO)), (p_68, (.lst (List.map peRef r_69) : HO)), (p_63, (.lst (List.map V.int k_24.order) : HO))] ++ List.flatten [pkOwn T.C_Pack ob_5 k_193, pesOwn r_69]) := (fr.new nl_224).cast (lst_rng _)
    refine ⟨_, _, decide (k_193.order = (rangeI ((1 + (cell_at_2 % 12))))), (dp_ints fr.at1), (dp_ints fr.at0), (Okd.sh (okd_ints _)), (Okd.sh (okd_ints _)), (eqv_ints _ _), _, rfl, ?_, ?_⟩
    · intro h225
      replace h225 := not_of_nd h225
      exfalso
      exact h225 hpn.2
    · intro h225
      replace h225 := of_nd h225
      refine ⟨_, rfl, ?_⟩
      refine iteF ?_
      have fr : Fr H _ ([(p_220, (.lst (List.map V.int k_193.order) : HO)), (t_84, (.tup [(V.ref p_63), (V.ref p_68), (V.ref p_78)] : HO)), (p_78, (.tup [(V.ref a_81), (V.ref a_83)] : HO)), (a_81, (.lst (List.map V.bl ((((wholeP k_24.order.length k_24.past).1)))) : HO)), (a_83, (.lst (List.map V.int ((((wholeP k_24.order.length k_24.past).2)))) : HO)), (p_68, (.lst (List.map peRef r_69) : HO)), (p_63, (.lst (List.map V.int k_24.order) : HO))] ++ List.flatten [pkOwn T.C_Pack ob_5 k_193, pesOwn r_69]) := Fr.dk fr 0
      have fr : Fr H _ ([(t_84, (.tup [(V.ref p_63), (V.ref p_68), (V.ref p_78)] : HO)), (p_78, (.tup [(V.ref a_81), (V.ref a_83)] : HO)), (a_81, (.lst (List.map V.bl ((((wholeP k_24.order.length k_24.past).1)))) : HO)), (a_83, (.lst (List.map V.int ((((wholeP k_24.order.length k_24.past).2)))) : HO)), (p_68, (.lst (List.map peRef r_69) : HO)), (p_63, (.lst (List.map V.int k_24.order) : HO))] ++ List.flatten [pkOwn T.C_Pack ob_5 k_193, pesOwn r_69]) := Fr.dk fr 0
      refine ⟨_, rfl, _, _, _, rfl, (PkAt.p (Fr.pk (pre := [(t_84, (.tup [(V.ref p_63), (V.ref p_68), (V.ref p_78)] : HO)), (p_78, (.tup [(V.ref a_81), (V.ref a_83)] : HO)), (a_81, (.lst (List.map V.bl ((((wholeP k_24.order.length k_24.past).1)))) : HO)), (a_83, (.lst (List.map V.int ((((wholeP k_24.order.length k_24.past).2)))) : HO)), (p_68, (.lst (List.map peRef r_69) : HO)), (p_63, (.lst (List.map V.int k_24.order) : HO))]) (ts := [pkOwn T.C_Pack ob_5 k_193, pesOwn r_69]) fr 0 rfl)), (pkF_no _ _ (by decide +kernel) (by decide +kernel)), (Evl.sz_of (show 1 ≤ 100000 by decide)), fun l_226 nl_227 => ?_⟩
      have fr : Fr H _ ([(l_226, (.lst (List.map V.bl ([true])) : HO)), (t_84, (.tup [(V.ref p_63), (V.ref p_68), (V.ref p_78)] : HO)), (p_78, (.tup [(V.ref a_81), (V.ref a_83)] : HO)), (a_81, (.lst (List.map V.bl ((((wholeP k_24.order.length k_24.past).1)))) : HO)), (a_83, (.lst (List.map V.int ((((wholeP k_24.order.length k_24.past).2)))) : HO)), (p_68, (.lst (List.map peRef r_69) : HO)), (p_63, (.lst (List.map V.int k_24.order) : HO))] ++ List.flatten [pkOwn T.C_Pack ob_5 k_193, pesOwn r_69]) := fr.new nl_227
      refine ⟨(Evl.sz_of (show 1 ≤ 100000 by decide)), fun l_228 nl_229 => ?_⟩
      have fr : Fr H _ ([(l_228, (.lst (List.map V.int ([0])) : HO)), (l_226, (.lst (List.map V.bl ([true])) : HO)), (t_84, (.tup [(V.ref p_63), (V.ref p_68), (V.ref p_78)] : HO)), (p_78, (.tup [(V.ref a_81), (V.ref a_83)] : HO)), (a_81, (.lst (List.map V.bl ((((wholeP k_24.order.length k_24.past).1)))) : HO)), (a_83, (.lst (List.map V.int ((((wholeP k_24.order.length k_24.past).2)))) : HO)), (p_68, (.lst (List.map peRef r_69) : HO)), (p_63, (.lst (List.map V.int k_24.order) : HO))] ++ List.flatten [pkOwn T.C_Pack ob_5 k_193, pesOwn r_69]) := fr.new nl_229
      refine ⟨_, rfl, _, _, _, rfl, rfl, fr.at0, ?_, ?_, ?_, fun l_230 nl_231 => ?_⟩
      · walk_at "side"
      · walk_at "side"
      · walk_at "size"
      have fr : Fr H _ ([(l_230, (.lst (List.map V.int ((List.replicate (Int.toNat ((1 + (cell_at_2 % 12)))) 0))) : HO)), (l_228, (.lst (List.map V.int ([0])) : HO)), (l_226, (.lst (List.map V.bl ([true])) : HO)), (t_84, (.tup [(V.ref p_63), (V.ref p_68), (V.ref p_78)] : HO)), (p_78, (.tup [(V.ref a_81), (V.ref a_83)] : HO)), (a_81, (.lst (List.map V.bl ((((wholeP k_24.order.length k_24.past).1)))) : HO)), (a_83, (.lst (List.map V.int ((((wholeP k_24.order.length k_24.past).2)))) : HO)), (p_68, (.lst (List.map peRef r_69) : HO)), (p_63, (.lst (List.map V.int k_24.order) : HO))] ++ List.flatten [pkOwn T.C_Pack ob_5 k_193, pesOwn r_69]) := (fr.new nl_231).cast (lst_rep1 _ _ _)
      have frF_232 := Fr.split (bpre := []) (pre := [(l_230, (.lst (List.map V.int ((List.replicate (Int.toNat ((1 + (cell_at_2 % 12)))) 0))) : HO)), (l_228, (.lst (List.map V.int ([0])) : HO)), (l_226, (.lst (List.map V.bl ([true])) : HO)), (t_84, (.tup [(V.ref p_63), (V.ref p_68), (V.ref p_78)] : HO)), (p_78, (.tup [(V.ref a_81), (V.ref a_83)] : HO)), (a_81, (.lst (List.map V.bl ((((wholeP k_24.order.length k_24.past).1)))) : HO)), (a_83, (.lst (List.map V.int ((((wholeP k_24.order.length k_24.past).2)))) : HO)), (p_68, (.lst (List.map peRef r_69) : HO)), (p_63, (.lst (List.map V.int k_24.order) : HO))]) (bts := [pkOwn T.C_Pack ob_5 k_193]) (ts := [pesOwn r_69]) fr
      have fr : Fr H _ ([(l_230, (.lst (List.map V.int ((List.replicate (Int.toNat ((1 + (cell_at_2 % 12)))) 0))) : HO)), (l_228, (.lst (List.map V.int ([0])) : HO)), (l_226, (.lst (List.map V.bl ([true])) : HO)), (t_84, (.tup [(V.ref p_63), (V.ref p_68), (V.ref p_78)] : HO)), (p_78, (.tup [(V.ref a_81), (V.ref a_83)] : HO)), (a_81, (.lst (List.map V.bl ((((wholeP k_24.order.length k_24.past).1)))) : HO)), (a_83, (.lst (List.map V.int ((((wholeP k_24.order.length k_24.past).2)))) : HO)), (p_68, (.lst (List.map peRef r_69) : HO)), (p_63, (.lst (List.map V.int k_24.order) : HO))] ++ List.flatten [pesOwn r_69]) := Fr.mn frF_232
      refine ⟨ob_5, k_193, l_226, ([true]), l_230, ((List.replicate (Int.toNat ((1 + (cell_at_2 % 12)))) 0)), _, rfl, (Fr.lent frF_232), fr.at2, fr.at0, ?_, ?_, ?_, fun H_233 k_235 p_236 riffle_237 hp_238 hp_239 hp_240 ff_234 => ?_⟩
      · exact zeros_isW _
      · simp; omega
      · rw [hpn.1]; simp
      have fr : Fr H _ ([(p_236, (.lst (List.map V.int riffle_237) : HO)), (l_230, (.lst (List.map V.int ((List.replicate (Int.toNat ((1 + (cell_at_2 % 12)))) 0))) : HO)), (l_228, (.lst (List.map V.int ([0])) : HO)), (l_226, (.lst (List.map V.bl ([true])) : HO)), (t_84, (.tup [(V.ref p_63), (V.ref p_68), (V.ref p_78)] : HO)), (p_78, (.tup [(V.ref a_81), (V.ref a_83)] : HO)), (a_81, (.lst (List.map V.bl ((((wholeP k_24.order.length k_24.past).1)))) : HO)), (a_83, (.lst (List.map V.int ((((wholeP k_24.order.length k_24.past).2)))) : HO)), (p_68, (.lst (List.map peRef r_69) : HO)), (p_63, (.lst (List.map V.int k_24.order) : HO))] ++ List.flatten [pkOwn T.C_Pack ob_5 k_235, pesOwn r_69]) := Fr.back2 (bpre := []) (pre := [(l_230, (.lst (List.map V.int ((List.replicate (Int.toNat ((1 + (cell_at_2 % 12)))) 0))) : HO)), (l_228, (.lst (List.map V.int ([0])) : HO)), (l_226, (.lst (List.map V.bl ([true])) : HO)), (t_84, (.tup [(V.ref p_63), (V.ref p_68), (V.ref p_78)] : HO)), (p_78, (.tup [(V.ref a_81), (V.ref a_83)] : HO)), (a_81, (.lst (List.map V.bl ((((wholeP k_24.order.length k_24.past).1)))) : HO)), (a_83, (.lst (List.map V.int ((((wholeP k_24.order.length k_24.past).2)))) : HO)), (p_68, (.lst (List.map peRef r_69) : HO)), (p_63, (.lst (List.map V.int k_24.order) : HO))]) (bts := [pkOwn T.C_Pack ob_5 k_193]) (ts := [pesOwn r_69]) (bpre' := [(p_236, (.lst (List.map V.int riffle_237) : HO))]) (bts' := [pkOwn T.C_Pack ob_5 k_235]) frF_232 ff_234
      subst hp_240
      refine ⟨_, rfl, _, rfl, _, rfl, rfl, ?_, ?_, fun l_241 nl_242 => ?_⟩
      · omega
      · omega
      have fr : Fr H _ ([(l_241, (.lst (List.map V.int ((List.reverse (List.map (fun i : Nat => (i : Int)) (List.range (Int.toNat ((1 + (cell_at_2 % 12))))))))) : HO)), (p_236, (.lst (List.map V.int ((riffleI k_193.order ([true]) ((List.replicate (Int.toNat ((1 + (cell_at_2 % 12)))) 0))))) : HO)), (l_230, (.lst (List.map V.int ((List.replicate (Int.toNat ((1 + (cell_at_2 % 12)))) 0))) : HO)), (l_228, (.lst (List.map V.int ([0])) : HO)), (l_226, (.lst (List.map V.bl ([true])) : HO)), (t_84, (.tup [(V.ref p_63), (V.ref p_68), (V.ref p_78)] : HO)), (p_78, (.tup [(V.ref a_81), (V.ref a_83)] : HO)), (a_81, (.lst (List.map V.bl ((((wholeP k_24.order.length k_24.past).1)))) : HO)), (a_83, (.lst (List.map V.int ((((wholeP k_24.order.length k_24.past).2)))) : HO)), (p_68, (.lst (List.map peRef r_69) : HO)), (p_63, (.lst (List.map V.int k_24.order) : HO))] ++ List.flatten [pkOwn T.C_Pack ob_5 k_235, pesOwn r_69]) := fr.new nl_242
      refine ⟨_, _, decide (((riffleI k_193.order ([true]) ((List.replicate (Int.toNat ((1 + (cell_at_2 % 12)))) 0)))) = (List.reverse (List.map (fun i : Nat => (i : Int)) (List.range (Int.toNat ((1 + (cell_at_2 % 12)))))))), (dp_ints fr.at1), (dp_ints fr.at0), (Okd.sh (okd_ints _)), (Okd.sh (okd_ints _)), (eqv_ints _ _), ?_⟩
      exact q _ (decide (((riffleI k_193.order ([true]) ((List.replicate (Int.toNat ((1 + (cell_at_2 % 12)))) 0)))) = (List.reverse (List.map (fun i : Nat => (i : Int)) (List.range (Int.toNat ((1 + (cell_at_2 % 12))))))))) (by first | rfl | exact decide_eq_true (by rw [hpn.2]; exact riffle_rev _)) fr.same
end
theorem all_mk {l : PySem.W.OpenLaw} {w : World} {K : PySem.W.Frag} {h : Heap} {mg : Str → Option Value} {fa : Addr} {CPack : Addr} {flaw_cell_at : Addr} {odlaw_cell_at anlaw_cell_at : Option Addr} {sllaw_cell_at : Array (Option Value)} {oclaw_cell_at kVlaw_cell_at dclaw_cell_at pmlaw_cell_at cdlaw_cell_at ctlaw_cell_at : Value} {ffirst : Addr} {odfirst anfirst : Option Addr} {slfirst : Array (Option Value)} {ocfirst kVfirst dcfirst pmfirst cdfirst ctfirst : Value} {fis_whole : Addr} {odis_whole anis_whole : Option Addr} {slis_whole : Array (Option Value)} {ocis_whole kVis_whole dcis_whole pmis_whole cdis_whole ctis_whole : Value} {fPack___init : Addr} {odPack___init anPack___init : Option Addr} {slPack___init : Array (Option Value)} {ocPack___init kVPack___init dcPack___init pmPack___init cdPack___init ctPack___init : Value} {fis_word : Addr} {odis_word anis_word : Option Addr} {slis_word : Array (Option Value)} {ocis_word kVis_word dcis_word pmis_word cdis_word ctis_word : Value} {fmust_be_word : Addr} {odmust_be_word anmust_be_word : Option Addr} {slmust_be_word : Array (Option Value)} {ocmust_be_word kVmust_be_word dcmust_be_word pmmust_be_word cdmust_be_word ctmust_be_word : Value} {fsizes : Addr} {odsizes ansizes : Option Addr} {slsizes : Array (Option Value)} {ocsizes kVsizes dcsizes pmsizes cdsizes ctsizes : Value} {fnumbers_in : Addr} {odnumbers_in annumbers_in : Option Addr} {slnumbers_in : Array (Option Value)} {ocnumbers_in kVnumbers_in dcnumbers_in pmnumbers_in cdnumbers_in ctnumbers_in : Value} {friffled : Addr} {odriffled anriffled : Option Addr} {slriffled : Array (Option Value)} {ocriffled kVriffled dcriffled pmriffled cdriffled ctriffled : Value} {fare_marks : Addr} {odare_marks anare_marks : Option Addr} {slare_marks : Array (Option Value)} {ocare_marks kVare_marks dcare_marks pmare_marks cdare_marks ctare_marks : Value} {fPack_riffle : Addr} {odPack_riffle anPack_riffle : Option Addr} {slPack_riffle : Array (Option Value)} {ocPack_riffle kVPack_riffle dcPack_riffle pmPack_riffle cdPack_riffle ctPack_riffle : Value} {fPack_order : Addr} {odPack_order anPack_order : Option Addr} {slPack_order : Array (Option Value)} {ocPack_order kVPack_order dcPack_order pmPack_order cdPack_order ctPack_order : Value} {fPack_done : Addr} {odPack_done anPack_done : Option Addr} {slPack_done : Array (Option Value)} {ocPack_done kVPack_done dcPack_done pmPack_done cdPack_done ctPack_done : Value} {fcheck : Addr} {odcheck ancheck : Option Addr} {slcheck : Array (Option Value)} {occheck kVcheck dccheck pmcheck cdcheck ctcheck : Value} {fturned_about : Addr} {odturned_about anturned_about : Option Addr} {slturned_about : Array (Option Value)} {octurned_about kVturned_about dcturned_about pmturned_about cdturned_about ctturned_about : Value} {fjoined : Addr} {odjoined anjoined : Option Addr} {sljoined : Array (Option Value)} {ocjoined kVjoined dcjoined pmjoined cdjoined ctjoined : Value} {fjoined_marks : Addr} {odjoined_marks anjoined_marks : Option Addr} {sljoined_marks : Array (Option Value)} {ocjoined_marks kVjoined_marks dcjoined_marks pmjoined_marks cdjoined_marks ctjoined_marks : Value} {fPack_whole : Addr} {odPack_whole anPack_whole : Option Addr} {slPack_whole : Array (Option Value)} {ocPack_whole kVPack_whole dcPack_whole pmPack_whole cdPack_whole ctPack_whole : Value} {fundone : Addr} {odundone anundone : Option Addr} {slundone : Array (Option Value)} {ocundone kVundone dcundone pmundone cdundone ctundone : Value} {fPack_undo : Addr} {odPack_undo anPack_undo : Option Addr} {slPack_undo : Array (Option Value)} {ocPack_undo kVPack_undo dcPack_undo pmPack_undo cdPack_undo ctPack_undo : Value} {flaw_words : Addr} {odlaw_words anlaw_words : Option Addr} {sllaw_words : Array (Option Value)} {oclaw_words kVlaw_words dclaw_words pmlaw_words cdlaw_words ctlaw_words : Value} {flaw_refused : Addr} {odlaw_refused anlaw_refused : Option Addr} {sllaw_refused : Array (Option Value)} {oclaw_refused kVlaw_refused dclaw_refused pmlaw_refused cdlaw_refused ctlaw_refused : Value} {flaw_mixed : Addr} {odlaw_mixed anlaw_mixed : Option Addr} {sllaw_mixed : Array (Option Value)} {oclaw_mixed kVlaw_mixed dclaw_mixed pmlaw_mixed cdlaw_mixed ctlaw_mixed : Value} {flaw_marks : Addr} {odlaw_marks anlaw_marks : Option Addr} {sllaw_marks : Array (Option Value)} {oclaw_marks kVlaw_marks dclaw_marks pmlaw_marks cdlaw_marks ctlaw_marks : Value} {flaw_bad_marks : Addr} {odlaw_bad_marks anlaw_bad_marks : Option Addr} {sllaw_bad_marks : Array (Option Value)} {oclaw_bad_marks kVlaw_bad_marks dclaw_bad_marks pmlaw_bad_marks cdlaw_bad_marks ctlaw_bad_marks : Value} {flaw_bad_words : Addr} {odlaw_bad_words anlaw_bad_words : Option Addr} {sllaw_bad_words : Array (Option Value)} {oclaw_bad_words kVlaw_bad_words dclaw_bad_words pmlaw_bad_words cdlaw_bad_words ctlaw_bad_words : Value} {flaw_word : Addr} {odlaw_word anlaw_word : Option Addr} {sllaw_word : Array (Option Value)} {oclaw_word kVlaw_word dclaw_word pmlaw_word cdlaw_word ctlaw_word : Value} {flaw_no_pack : Addr} {odlaw_no_pack anlaw_no_pack : Option Addr} {sllaw_no_pack : Array (Option Value)} {oclaw_no_pack kVlaw_no_pack dclaw_no_pack pmlaw_no_pack cdlaw_no_pack ctlaw_no_pack : Value} {flaw_packs : Addr} {odlaw_packs anlaw_packs : Option Addr} {sllaw_packs : Array (Option Value)} {oclaw_packs kVlaw_packs dclaw_packs pmlaw_packs cdlaw_packs ctlaw_packs : Value} {flaw : Addr} {odlaw anlaw : Option Addr} {sllaw : Array (Option Value)} {oclaw kVlaw dclaw pmlaw cdlaw ctlaw : Value} {t_HEAPS : Tok} {t_MOST : Tok} {CRiftError : Addr} {CNoPack : Addr} {CNoMarks : Addr} {CNoRiffle : Addr} {CNoWay : Addr} {CTooMany : Addr} {CNoFigures : Addr} {CNoText : Addr} (X : K.In h) (G : h.Ns mainGlobals mg) (hfa : mg "law" = some (.ref fa))
    (waPack : PySem.W.nsIn K mainGlobals "Pack" = some (some (.ref CPack)))
    (wpgPack : PySem.W.plainGet K CPack Str.empty = true)
    (whdPack : PySem.W.hasDictIn K CPack = true)
    (wpoPack : PySem.W.plainOver K CPack = true)
    (wsaPack : PySem.W.findIn K (.ref CPack) "__setattr__" = some (some (.builtin "object.__setattr__")))
    (wmkPack : PySem.W.makesIn K CPack = true)
    (wkpPack : PySem.W.keepIn K (.ref CPack) = true)
    (wn_cardsPack : PySem.W.findIn K (.ref CPack) "cards" = some none)
    (wn_pastPack : PySem.W.findIn K (.ref CPack) "past" = some none)
    (alaw_cell_at : PySem.W.nsIn K mainGlobals "_law_cell_at" = some (some (.ref flaw_cell_at))) (llaw_cell_at : K.lookup flaw_cell_at = some ⟨oclaw_cell_at, odlaw_cell_at, .func (PySem.W.fnOf "_law_cell_at" "_law_cell_at" (defArgs s_law_cell_at) (defBody s_law_cell_at) (defScope s_law_cell_at) .none kVlaw_cell_at dclaw_cell_at pmlaw_cell_at anlaw_cell_at cdlaw_cell_at ctlaw_cell_at), sllaw_cell_at⟩) (claw_cell_at : PySem.W.codeIn K cdlaw_cell_at "_law_cell_at" = true) (klaw_cell_at : PySem.W.keepIn K (.ref flaw_cell_at) = true)
    (afirst : PySem.W.nsIn K mainGlobals "first" = some (some (.ref ffirst))) (lfirst : K.lookup ffirst = some ⟨ocfirst, odfirst, .func (PySem.W.fnOf "first" "first" (defArgs s_first) (defBody s_first) (defScope s_first) .none kVfirst dcfirst pmfirst anfirst cdfirst ctfirst), slfirst⟩) (cfirst : PySem.W.codeIn K cdfirst "first" = true) (kfirst : PySem.W.keepIn K (.ref ffirst) = true)
    (ais_whole : PySem.W.nsIn K mainGlobals "is_whole" = some (some (.ref fis_whole))) (lis_whole : K.lookup fis_whole = some ⟨ocis_whole, odis_whole, .func (PySem.W.fnOf "is_whole" "is_whole" (defArgs s_is_whole) (defBody s_is_whole) (defScope s_is_whole) .none kVis_whole dcis_whole pmis_whole anis_whole cdis_whole ctis_whole), slis_whole⟩) (cis_whole : PySem.W.codeIn K cdis_whole "is_whole" = true) (kis_whole : PySem.W.keepIn K (.ref fis_whole) = true)
    (aPack___init : PySem.W.findIn K (.ref CPack) "__init__" = some (some (.ref fPack___init))) (iPack___init : PySem.W.isFn K (.ref fPack___init) = true) (lPack___init : K.lookup fPack___init = some ⟨ocPack___init, odPack___init, .func (PySem.W.fnOf "__init__" "Pack.__init__" (defArgs s_Pack___init) (defBody s_Pack___init) (defScope s_Pack___init) .none kVPack___init dcPack___init pmPack___init anPack___init cdPack___init ctPack___init), slPack___init⟩) (cPack___init : PySem.W.codeIn K cdPack___init "Pack.__init__" = true) (kPack___init : PySem.W.keepIn K (.ref fPack___init) = true)
    (ais_word : PySem.W.nsIn K mainGlobals "is_word" = some (some (.ref fis_word))) (lis_word : K.lookup fis_word = some ⟨ocis_word, odis_word, .func (PySem.W.fnOf "is_word" "is_word" (defArgs s_is_word) (defBody s_is_word) (defScope s_is_word) .none kVis_word dcis_word pmis_word anis_word cdis_word ctis_word), slis_word⟩) (cis_word : PySem.W.codeIn K cdis_word "is_word" = true) (kis_word : PySem.W.keepIn K (.ref fis_word) = true)
    (amust_be_word : PySem.W.nsIn K mainGlobals "must_be_word" = some (some (.ref fmust_be_word))) (lmust_be_word : K.lookup fmust_be_word = some ⟨ocmust_be_word, odmust_be_word, .func (PySem.W.fnOf "must_be_word" "must_be_word" (defArgs s_must_be_word) (defBody s_must_be_word) (defScope s_must_be_word) .none kVmust_be_word dcmust_be_word pmmust_be_word anmust_be_word cdmust_be_word ctmust_be_word), slmust_be_word⟩) (cmust_be_word : PySem.W.codeIn K cdmust_be_word "must_be_word" = true) (kmust_be_word : PySem.W.keepIn K (.ref fmust_be_word) = true)
    (asizes : PySem.W.nsIn K mainGlobals "sizes" = some (some (.ref fsizes))) (lsizes : K.lookup fsizes = some ⟨ocsizes, odsizes, .func (PySem.W.fnOf "sizes" "sizes" (defArgs s_sizes) (defBody s_sizes) (defScope s_sizes) .none kVsizes dcsizes pmsizes ansizes cdsizes ctsizes), slsizes⟩) (csizes : PySem.W.codeIn K cdsizes "sizes" = true) (ksizes : PySem.W.keepIn K (.ref fsizes) = true)
    (anumbers_in : PySem.W.nsIn K mainGlobals "numbers_in" = some (some (.ref fnumbers_in))) (lnumbers_in : K.lookup fnumbers_in = some ⟨ocnumbers_in, odnumbers_in, .func (PySem.W.fnOf "numbers_in" "numbers_in" (defArgs s_numbers_in) (defBody s_numbers_in) (defScope s_numbers_in) .none kVnumbers_in dcnumbers_in pmnumbers_in annumbers_in cdnumbers_in ctnumbers_in), slnumbers_in⟩) (cnumbers_in : PySem.W.codeIn K cdnumbers_in "numbers_in" = true) (knumbers_in : PySem.W.keepIn K (.ref fnumbers_in) = true)
    (ariffled : PySem.W.nsIn K mainGlobals "riffled" = some (some (.ref friffled))) (lriffled : K.lookup friffled = some ⟨ocriffled, odriffled, .func (PySem.W.fnOf "riffled" "riffled" (defArgs s_riffled) (defBody s_riffled) (defScope s_riffled) .none kVriffled dcriffled pmriffled anriffled cdriffled ctriffled), slriffled⟩) (criffled : PySem.W.codeIn K cdriffled "riffled" = true) (kriffled : PySem.W.keepIn K (.ref friffled) = true)
    (aare_marks : PySem.W.nsIn K mainGlobals "are_marks" = some (some (.ref fare_marks))) (lare_marks : K.lookup fare_marks = some ⟨ocare_marks, odare_marks, .func (PySem.W.fnOf "are_marks" "are_marks" (defArgs s_are_marks) (defBody s_are_marks) (defScope s_are_marks) .none kVare_marks dcare_marks pmare_marks anare_marks cdare_marks ctare_marks), slare_marks⟩) (care_marks : PySem.W.codeIn K cdare_marks "are_marks" = true) (kare_marks : PySem.W.keepIn K (.ref fare_marks) = true)
    (aPack_riffle : PySem.W.findIn K (.ref CPack) "riffle" = some (some (.ref fPack_riffle))) (iPack_riffle : PySem.W.isFn K (.ref fPack_riffle) = true) (lPack_riffle : K.lookup fPack_riffle = some ⟨ocPack_riffle, odPack_riffle, .func (PySem.W.fnOf "riffle" "Pack.riffle" (defArgs s_Pack_riffle) (defBody s_Pack_riffle) (defScope s_Pack_riffle) .none kVPack_riffle dcPack_riffle pmPack_riffle anPack_riffle cdPack_riffle ctPack_riffle), slPack_riffle⟩) (cPack_riffle : PySem.W.codeIn K cdPack_riffle "Pack.riffle" = true) (kPack_riffle : PySem.W.keepIn K (.ref fPack_riffle) = true)
    (aPack_order : PySem.W.findIn K (.ref CPack) "order" = some (some (.ref fPack_order))) (iPack_order : PySem.W.isFn K (.ref fPack_order) = true) (lPack_order : K.lookup fPack_order = some ⟨ocPack_order, odPack_order, .func (PySem.W.fnOf "order" "Pack.order" (defArgs s_Pack_order) (defBody s_Pack_order) (defScope s_Pack_order) .none kVPack_order dcPack_order pmPack_order anPack_order cdPack_order ctPack_order), slPack_order⟩) (cPack_order : PySem.W.codeIn K cdPack_order "Pack.order" = true) (kPack_order : PySem.W.keepIn K (.ref fPack_order) = true)
    (aPack_done : PySem.W.findIn K (.ref CPack) "done" = some (some (.ref fPack_done))) (iPack_done : PySem.W.isFn K (.ref fPack_done) = true) (lPack_done : K.lookup fPack_done = some ⟨ocPack_done, odPack_done, .func (PySem.W.fnOf "done" "Pack.done" (defArgs s_Pack_done) (defBody s_Pack_done) (defScope s_Pack_done) .none kVPack_done dcPack_done pmPack_done anPack_done cdPack_done ctPack_done), slPack_done⟩) (cPack_done : PySem.W.codeIn K cdPack_done "Pack.done" = true) (kPack_done : PySem.W.keepIn K (.ref fPack_done) = true)
    (acheck : PySem.W.nsIn K mainGlobals "check" = some (some (.ref fcheck))) (lcheck : K.lookup fcheck = some ⟨occheck, odcheck, .func (PySem.W.fnOf "check" "check" (defArgs s_check) (defBody s_check) (defScope s_check) .none kVcheck dccheck pmcheck ancheck cdcheck ctcheck), slcheck⟩) (ccheck : PySem.W.codeIn K cdcheck "check" = true) (kcheck : PySem.W.keepIn K (.ref fcheck) = true)
    (aturned_about : PySem.W.nsIn K mainGlobals "turned_about" = some (some (.ref fturned_about))) (lturned_about : K.lookup fturned_about = some ⟨octurned_about, odturned_about, .func (PySem.W.fnOf "turned_about" "turned_about" (defArgs s_turned_about) (defBody s_turned_about) (defScope s_turned_about) .none kVturned_about dcturned_about pmturned_about anturned_about cdturned_about ctturned_about), slturned_about⟩) (cturned_about : PySem.W.codeIn K cdturned_about "turned_about" = true) (kturned_about : PySem.W.keepIn K (.ref fturned_about) = true)
    (ajoined : PySem.W.nsIn K mainGlobals "joined" = some (some (.ref fjoined))) (ljoined : K.lookup fjoined = some ⟨ocjoined, odjoined, .func (PySem.W.fnOf "joined" "joined" (defArgs s_joined) (defBody s_joined) (defScope s_joined) .none kVjoined dcjoined pmjoined anjoined cdjoined ctjoined), sljoined⟩) (cjoined : PySem.W.codeIn K cdjoined "joined" = true) (kjoined : PySem.W.keepIn K (.ref fjoined) = true)
    (ajoined_marks : PySem.W.nsIn K mainGlobals "joined_marks" = some (some (.ref fjoined_marks))) (ljoined_marks : K.lookup fjoined_marks = some ⟨ocjoined_marks, odjoined_marks, .func (PySem.W.fnOf "joined_marks" "joined_marks" (defArgs s_joined_marks) (defBody s_joined_marks) (defScope s_joined_marks) .none kVjoined_marks dcjoined_marks pmjoined_marks anjoined_marks cdjoined_marks ctjoined_marks), sljoined_marks⟩) (cjoined_marks : PySem.W.codeIn K cdjoined_marks "joined_marks" = true) (kjoined_marks : PySem.W.keepIn K (.ref fjoined_marks) = true)
    (aPack_whole : PySem.W.findIn K (.ref CPack) "whole" = some (some (.ref fPack_whole))) (iPack_whole : PySem.W.isFn K (.ref fPack_whole) = true) (lPack_whole : K.lookup fPack_whole = some ⟨ocPack_whole, odPack_whole, .func (PySem.W.fnOf "whole" "Pack.whole" (defArgs s_Pack_whole) (defBody s_Pack_whole) (defScope s_Pack_whole) .none kVPack_whole dcPack_whole pmPack_whole anPack_whole cdPack_whole ctPack_whole), slPack_whole⟩) (cPack_whole : PySem.W.codeIn K cdPack_whole "Pack.whole" = true) (kPack_whole : PySem.W.keepIn K (.ref fPack_whole) = true)
    (aundone : PySem.W.nsIn K mainGlobals "undone" = some (some (.ref fundone))) (lundone : K.lookup fundone = some ⟨ocundone, odundone, .func (PySem.W.fnOf "undone" "undone" (defArgs s_undone) (defBody s_undone) (defScope s_undone) .none kVundone dcundone pmundone anundone cdundone ctundone), slundone⟩) (cundone : PySem.W.codeIn K cdundone "undone" = true) (kundone : PySem.W.keepIn K (.ref fundone) = true)
    (aPack_undo : PySem.W.findIn K (.ref CPack) "undo" = some (some (.ref fPack_undo))) (iPack_undo : PySem.W.isFn K (.ref fPack_undo) = true) (lPack_undo : K.lookup fPack_undo = some ⟨ocPack_undo, odPack_undo, .func (PySem.W.fnOf "undo" "Pack.undo" (defArgs s_Pack_undo) (defBody s_Pack_undo) (defScope s_Pack_undo) .none kVPack_undo dcPack_undo pmPack_undo anPack_undo cdPack_undo ctPack_undo), slPack_undo⟩) (cPack_undo : PySem.W.codeIn K cdPack_undo "Pack.undo" = true) (kPack_undo : PySem.W.keepIn K (.ref fPack_undo) = true)
    (alaw_words : PySem.W.nsIn K mainGlobals "_law_words" = some (some (.ref flaw_words))) (llaw_words : K.lookup flaw_words = some ⟨oclaw_words, odlaw_words, .func (PySem.W.fnOf "_law_words" "_law_words" (defArgs s_law_words) (defBody s_law_words) (defScope s_law_words) .none kVlaw_words dclaw_words pmlaw_words anlaw_words cdlaw_words ctlaw_words), sllaw_words⟩) (claw_words : PySem.W.codeIn K cdlaw_words "_law_words" = true) (klaw_words : PySem.W.keepIn K (.ref flaw_words) = true)
    (alaw_refused : PySem.W.nsIn K mainGlobals "_law_refused" = some (some (.ref flaw_refused))) (llaw_refused : K.lookup flaw_refused = some ⟨oclaw_refused, odlaw_refused, .func (PySem.W.fnOf "_law_refused" "_law_refused" (defArgs s_law_refused) (defBody s_law_refused) (defScope s_law_refused) .none kVlaw_refused dclaw_refused pmlaw_refused anlaw_refused cdlaw_refused ctlaw_refused), sllaw_refused⟩) (claw_refused : PySem.W.codeIn K cdlaw_refused "_law_refused" = true) (klaw_refused : PySem.W.keepIn K (.ref flaw_refused) = true)
    (alaw_mixed : PySem.W.nsIn K mainGlobals "_law_mixed" = some (some (.ref flaw_mixed))) (llaw_mixed : K.lookup flaw_mixed = some ⟨oclaw_mixed, odlaw_mixed, .func (PySem.W.fnOf "_law_mixed" "_law_mixed" (defArgs s_law_mixed) (defBody s_law_mixed) (defScope s_law_mixed) .none kVlaw_mixed dclaw_mixed pmlaw_mixed anlaw_mixed cdlaw_mixed ctlaw_mixed), sllaw_mixed⟩) (claw_mixed : PySem.W.codeIn K cdlaw_mixed "_law_mixed" = true) (klaw_mixed : PySem.W.keepIn K (.ref flaw_mixed) = true)
    (alaw_marks : PySem.W.nsIn K mainGlobals "_law_marks" = some (some (.ref flaw_marks))) (llaw_marks : K.lookup flaw_marks = some ⟨oclaw_marks, odlaw_marks, .func (PySem.W.fnOf "_law_marks" "_law_marks" (defArgs s_law_marks) (defBody s_law_marks) (defScope s_law_marks) .none kVlaw_marks dclaw_marks pmlaw_marks anlaw_marks cdlaw_marks ctlaw_marks), sllaw_marks⟩) (claw_marks : PySem.W.codeIn K cdlaw_marks "_law_marks" = true) (klaw_marks : PySem.W.keepIn K (.ref flaw_marks) = true)
    (alaw_bad_marks : PySem.W.nsIn K mainGlobals "_law_bad_marks" = some (some (.ref flaw_bad_marks))) (llaw_bad_marks : K.lookup flaw_bad_marks = some ⟨oclaw_bad_marks, odlaw_bad_marks, .func (PySem.W.fnOf "_law_bad_marks" "_law_bad_marks" (defArgs s_law_bad_marks) (defBody s_law_bad_marks) (defScope s_law_bad_marks) .none kVlaw_bad_marks dclaw_bad_marks pmlaw_bad_marks anlaw_bad_marks cdlaw_bad_marks ctlaw_bad_marks), sllaw_bad_marks⟩) (claw_bad_marks : PySem.W.codeIn K cdlaw_bad_marks "_law_bad_marks" = true) (klaw_bad_marks : PySem.W.keepIn K (.ref flaw_bad_marks) = true)
    (alaw_bad_words : PySem.W.nsIn K mainGlobals "_law_bad_words" = some (some (.ref flaw_bad_words))) (llaw_bad_words : K.lookup flaw_bad_words = some ⟨oclaw_bad_words, odlaw_bad_words, .func (PySem.W.fnOf "_law_bad_words" "_law_bad_words" (defArgs s_law_bad_words) (defBody s_law_bad_words) (defScope s_law_bad_words) .none kVlaw_bad_words dclaw_bad_words pmlaw_bad_words anlaw_bad_words cdlaw_bad_words ctlaw_bad_words), sllaw_bad_words⟩) (claw_bad_words : PySem.W.codeIn K cdlaw_bad_words "_law_bad_words" = true) (klaw_bad_words : PySem.W.keepIn K (.ref flaw_bad_words) = true)
    (alaw_word : PySem.W.nsIn K mainGlobals "_law_word" = some (some (.ref flaw_word))) (llaw_word : K.lookup flaw_word = some ⟨oclaw_word, odlaw_word, .func (PySem.W.fnOf "_law_word" "_law_word" (defArgs s_law_word) (defBody s_law_word) (defScope s_law_word) .none kVlaw_word dclaw_word pmlaw_word anlaw_word cdlaw_word ctlaw_word), sllaw_word⟩) (claw_word : PySem.W.codeIn K cdlaw_word "_law_word" = true) (klaw_word : PySem.W.keepIn K (.ref flaw_word) = true)
    (alaw_no_pack : PySem.W.nsIn K mainGlobals "_law_no_pack" = some (some (.ref flaw_no_pack))) (llaw_no_pack : K.lookup flaw_no_pack = some ⟨oclaw_no_pack, odlaw_no_pack, .func (PySem.W.fnOf "_law_no_pack" "_law_no_pack" (defArgs s_law_no_pack) (defBody s_law_no_pack) (defScope s_law_no_pack) .none kVlaw_no_pack dclaw_no_pack pmlaw_no_pack anlaw_no_pack cdlaw_no_pack ctlaw_no_pack), sllaw_no_pack⟩) (claw_no_pack : PySem.W.codeIn K cdlaw_no_pack "_law_no_pack" = true) (klaw_no_pack : PySem.W.keepIn K (.ref flaw_no_pack) = true)
    (alaw_packs : PySem.W.nsIn K mainGlobals "_law_packs" = some (some (.ref flaw_packs))) (llaw_packs : K.lookup flaw_packs = some ⟨oclaw_packs, odlaw_packs, .func (PySem.W.fnOf "_law_packs" "_law_packs" (defArgs s_law_packs) (defBody s_law_packs) (defScope s_law_packs) .none kVlaw_packs dclaw_packs pmlaw_packs anlaw_packs cdlaw_packs ctlaw_packs), sllaw_packs⟩) (claw_packs : PySem.W.codeIn K cdlaw_packs "_law_packs" = true) (klaw_packs : PySem.W.keepIn K (.ref flaw_packs) = true)
    (alaw : PySem.W.nsIn K mainGlobals "law" = some (some (.ref flaw))) (llaw : K.lookup flaw = some ⟨oclaw, odlaw, .func (PySem.W.fnOf "law" "law" (defArgs s_law) (defBody s_law) (defScope s_law) .none kVlaw dclaw pmlaw anlaw cdlaw ctlaw), sllaw⟩) (claw : PySem.W.codeIn K cdlaw "law" = true) (klaw : PySem.W.keepIn K (.ref flaw) = true)
    (z_HEAPS : PySem.W.nsIn K mainGlobals "HEAPS" = some (some (.int 400 t_HEAPS)))
    (z_MOST : PySem.W.nsIn K mainGlobals "MOST" = some (some (.int 60 t_MOST)))
    (z_abs : PySem.W.nsIn K mainGlobals "abs" = some none)
    (z_all : PySem.W.nsIn K mainGlobals "all" = some none)
    (z_bool : PySem.W.nsIn K mainGlobals "bool" = some none)
    (z_enumerate : PySem.W.nsIn K mainGlobals "enumerate" = some none)
    (z_int : PySem.W.nsIn K mainGlobals "int" = some none)
    (z_isinstance : PySem.W.nsIn K mainGlobals "isinstance" = some none)
    (z_len : PySem.W.nsIn K mainGlobals "len" = some none)
    (z_list : PySem.W.nsIn K mainGlobals "list" = some none)
    (z_range : PySem.W.nsIn K mainGlobals "range" = some none)
    (z_reversed : PySem.W.nsIn K mainGlobals "reversed" = some none)
    (z_zip : PySem.W.nsIn K mainGlobals "zip" = some none)
    (xaRiftError : PySem.W.nsIn K mainGlobals "RiftError" = some (some (.ref CRiftError)))
    (xkRiftError : PySem.W.keepIn K (.ref CRiftError) = true)
    (xeRiftError : PySem.W.excIn K CRiftError [.type "ValueError", .type "Exception", .type "BaseException", .type "object"] "ValueError.__new__" = true)
    (xhgRiftError : PySem.W.findIn K (.ref CRiftError) "__getattribute__" = some (some (.builtin "BaseException.__getattribute__")))
    (xhkRiftError : PySem.W.findIn K (.ref CRiftError) "__getattr__" = some none)
    (xhsRiftError : PySem.W.subIn K (.ref CRiftError) (.type "BaseException") = some true)
    (xhdRiftError : PySem.W.hasDictIn K CRiftError = true)
    (xhaRiftError : PySem.W.findIn K (.ref CRiftError) "__class__" = some (some (.builtin "object.__class__")))
    (xhnRiftError : PySem.W.specialIn K (.builtin "object.__class__") "__get__" = some (some (.builtin "getset_descriptor.__get__")))
    (xhtRiftError : PySem.W.takesIn K (.builtin "object.__class__") = some true)
    (xhmRiftError : PySem.W.mroIn K CRiftError (.type "object") = some true)
    (xtyRiftError : PySem.W.typeIn K (.ref CRiftError) = some (.type "type"))
    (xveRiftError : PySem.W.subIn K (.ref CRiftError) (.type "ValueError") = some true)
    (xaNoPack : PySem.W.nsIn K mainGlobals "NoPack" = some (some (.ref CNoPack)))
    (xkNoPack : PySem.W.keepIn K (.ref CNoPack) = true)
    (xeNoPack : PySem.W.excIn K CNoPack [.type "ValueError", .type "Exception", .type "BaseException", .type "object"] "ValueError.__new__" = true)
    (xhgNoPack : PySem.W.findIn K (.ref CNoPack) "__getattribute__" = some (some (.builtin "BaseException.__getattribute__")))
    (xhkNoPack : PySem.W.findIn K (.ref CNoPack) "__getattr__" = some none)
    (xhsNoPack : PySem.W.subIn K (.ref CNoPack) (.type "BaseException") = some true)
    (xhdNoPack : PySem.W.hasDictIn K CNoPack = true)
    (xhaNoPack : PySem.W.findIn K (.ref CNoPack) "__class__" = some (some (.builtin "object.__class__")))
    (xhnNoPack : PySem.W.specialIn K (.builtin "object.__class__") "__get__" = some (some (.builtin "getset_descriptor.__get__")))
    (xhtNoPack : PySem.W.takesIn K (.builtin "object.__class__") = some true)
    (xhmNoPack : PySem.W.mroIn K CNoPack (.type "object") = some true)
    (xtyNoPack : PySem.W.typeIn K (.ref CNoPack) = some (.type "type"))
    (xveNoPack : PySem.W.subIn K (.ref CNoPack) (.type "ValueError") = some true)
    (xaNoMarks : PySem.W.nsIn K mainGlobals "NoMarks" = some (some (.ref CNoMarks)))
    (xkNoMarks : PySem.W.keepIn K (.ref CNoMarks) = true)
    (xeNoMarks : PySem.W.excIn K CNoMarks [.type "ValueError", .type "Exception", .type "BaseException", .type "object"] "ValueError.__new__" = true)
    (xhgNoMarks : PySem.W.findIn K (.ref CNoMarks) "__getattribute__" = some (some (.builtin "BaseException.__getattribute__")))
    (xhkNoMarks : PySem.W.findIn K (.ref CNoMarks) "__getattr__" = some none)
    (xhsNoMarks : PySem.W.subIn K (.ref CNoMarks) (.type "BaseException") = some true)
    (xhdNoMarks : PySem.W.hasDictIn K CNoMarks = true)
    (xhaNoMarks : PySem.W.findIn K (.ref CNoMarks) "__class__" = some (some (.builtin "object.__class__")))
    (xhnNoMarks : PySem.W.specialIn K (.builtin "object.__class__") "__get__" = some (some (.builtin "getset_descriptor.__get__")))
    (xhtNoMarks : PySem.W.takesIn K (.builtin "object.__class__") = some true)
    (xhmNoMarks : PySem.W.mroIn K CNoMarks (.type "object") = some true)
    (xtyNoMarks : PySem.W.typeIn K (.ref CNoMarks) = some (.type "type"))
    (xveNoMarks : PySem.W.subIn K (.ref CNoMarks) (.type "ValueError") = some true)
    (xaNoRiffle : PySem.W.nsIn K mainGlobals "NoRiffle" = some (some (.ref CNoRiffle)))
    (xkNoRiffle : PySem.W.keepIn K (.ref CNoRiffle) = true)
    (xeNoRiffle : PySem.W.excIn K CNoRiffle [.type "ValueError", .type "Exception", .type "BaseException", .type "object"] "ValueError.__new__" = true)
    (xhgNoRiffle : PySem.W.findIn K (.ref CNoRiffle) "__getattribute__" = some (some (.builtin "BaseException.__getattribute__")))
    (xhkNoRiffle : PySem.W.findIn K (.ref CNoRiffle) "__getattr__" = some none)
    (xhsNoRiffle : PySem.W.subIn K (.ref CNoRiffle) (.type "BaseException") = some true)
    (xhdNoRiffle : PySem.W.hasDictIn K CNoRiffle = true)
    (xhaNoRiffle : PySem.W.findIn K (.ref CNoRiffle) "__class__" = some (some (.builtin "object.__class__")))
    (xhnNoRiffle : PySem.W.specialIn K (.builtin "object.__class__") "__get__" = some (some (.builtin "getset_descriptor.__get__")))
    (xhtNoRiffle : PySem.W.takesIn K (.builtin "object.__class__") = some true)
    (xhmNoRiffle : PySem.W.mroIn K CNoRiffle (.type "object") = some true)
    (xtyNoRiffle : PySem.W.typeIn K (.ref CNoRiffle) = some (.type "type"))
    (xveNoRiffle : PySem.W.subIn K (.ref CNoRiffle) (.type "ValueError") = some true)
    (xaNoWay : PySem.W.nsIn K mainGlobals "NoWay" = some (some (.ref CNoWay)))
    (xkNoWay : PySem.W.keepIn K (.ref CNoWay) = true)
    (xeNoWay : PySem.W.excIn K CNoWay [.type "ValueError", .type "Exception", .type "BaseException", .type "object"] "ValueError.__new__" = true)
    (xhgNoWay : PySem.W.findIn K (.ref CNoWay) "__getattribute__" = some (some (.builtin "BaseException.__getattribute__")))
    (xhkNoWay : PySem.W.findIn K (.ref CNoWay) "__getattr__" = some none)
    (xhsNoWay : PySem.W.subIn K (.ref CNoWay) (.type "BaseException") = some true)
    (xhdNoWay : PySem.W.hasDictIn K CNoWay = true)
    (xhaNoWay : PySem.W.findIn K (.ref CNoWay) "__class__" = some (some (.builtin "object.__class__")))
    (xhnNoWay : PySem.W.specialIn K (.builtin "object.__class__") "__get__" = some (some (.builtin "getset_descriptor.__get__")))
    (xhtNoWay : PySem.W.takesIn K (.builtin "object.__class__") = some true)
    (xhmNoWay : PySem.W.mroIn K CNoWay (.type "object") = some true)
    (xtyNoWay : PySem.W.typeIn K (.ref CNoWay) = some (.type "type"))
    (xveNoWay : PySem.W.subIn K (.ref CNoWay) (.type "ValueError") = some true)
    (xaTooMany : PySem.W.nsIn K mainGlobals "TooMany" = some (some (.ref CTooMany)))
    (xkTooMany : PySem.W.keepIn K (.ref CTooMany) = true)
    (xeTooMany : PySem.W.excIn K CTooMany [.type "ValueError", .type "Exception", .type "BaseException", .type "object"] "ValueError.__new__" = true)
    (xhgTooMany : PySem.W.findIn K (.ref CTooMany) "__getattribute__" = some (some (.builtin "BaseException.__getattribute__")))
    (xhkTooMany : PySem.W.findIn K (.ref CTooMany) "__getattr__" = some none)
    (xhsTooMany : PySem.W.subIn K (.ref CTooMany) (.type "BaseException") = some true)
    (xhdTooMany : PySem.W.hasDictIn K CTooMany = true)
    (xhaTooMany : PySem.W.findIn K (.ref CTooMany) "__class__" = some (some (.builtin "object.__class__")))
    (xhnTooMany : PySem.W.specialIn K (.builtin "object.__class__") "__get__" = some (some (.builtin "getset_descriptor.__get__")))
    (xhtTooMany : PySem.W.takesIn K (.builtin "object.__class__") = some true)
    (xhmTooMany : PySem.W.mroIn K CTooMany (.type "object") = some true)
    (xtyTooMany : PySem.W.typeIn K (.ref CTooMany) = some (.type "type"))
    (xveTooMany : PySem.W.subIn K (.ref CTooMany) (.type "ValueError") = some true)
    (xaNoFigures : PySem.W.nsIn K mainGlobals "NoFigures" = some (some (.ref CNoFigures)))
    (xkNoFigures : PySem.W.keepIn K (.ref CNoFigures) = true)
    (xeNoFigures : PySem.W.excIn K CNoFigures [.type "ValueError", .type "Exception", .type "BaseException", .type "object"] "ValueError.__new__" = true)
    (xhgNoFigures : PySem.W.findIn K (.ref CNoFigures) "__getattribute__" = some (some (.builtin "BaseException.__getattribute__")))
    (xhkNoFigures : PySem.W.findIn K (.ref CNoFigures) "__getattr__" = some none)
    (xhsNoFigures : PySem.W.subIn K (.ref CNoFigures) (.type "BaseException") = some true)
    (xhdNoFigures : PySem.W.hasDictIn K CNoFigures = true)
    (xhaNoFigures : PySem.W.findIn K (.ref CNoFigures) "__class__" = some (some (.builtin "object.__class__")))
    (xhnNoFigures : PySem.W.specialIn K (.builtin "object.__class__") "__get__" = some (some (.builtin "getset_descriptor.__get__")))
    (xhtNoFigures : PySem.W.takesIn K (.builtin "object.__class__") = some true)
    (xhmNoFigures : PySem.W.mroIn K CNoFigures (.type "object") = some true)
    (xtyNoFigures : PySem.W.typeIn K (.ref CNoFigures) = some (.type "type"))
    (xveNoFigures : PySem.W.subIn K (.ref CNoFigures) (.type "ValueError") = some true)
    (xaNoText : PySem.W.nsIn K mainGlobals "NoText" = some (some (.ref CNoText)))
    (xkNoText : PySem.W.keepIn K (.ref CNoText) = true)
    (xeNoText : PySem.W.excIn K CNoText [.type "ValueError", .type "Exception", .type "BaseException", .type "object"] "ValueError.__new__" = true)
    (xhgNoText : PySem.W.findIn K (.ref CNoText) "__getattribute__" = some (some (.builtin "BaseException.__getattribute__")))
    (xhkNoText : PySem.W.findIn K (.ref CNoText) "__getattr__" = some none)
    (xhsNoText : PySem.W.subIn K (.ref CNoText) (.type "BaseException") = some true)
    (xhdNoText : PySem.W.hasDictIn K CNoText = true)
    (xhaNoText : PySem.W.findIn K (.ref CNoText) "__class__" = some (some (.builtin "object.__class__")))
    (xhnNoText : PySem.W.specialIn K (.builtin "object.__class__") "__get__" = some (some (.builtin "getset_descriptor.__get__")))
    (xhtNoText : PySem.W.takesIn K (.builtin "object.__class__") = some true)
    (xhmNoText : PySem.W.mroIn K CNoText (.type "object") = some true)
    (xtyNoText : PySem.W.typeIn K (.ref CNoText) = some (.type "type"))
    (xveNoText : PySem.W.subIn K (.ref CNoText) (.type "ValueError") = some true)
    (yNoMarksNoFigures : PySem.W.subIn K (.ref CNoMarks) (.ref CNoFigures) = some false)
    (zNoMarksNoFigures : CNoMarks ≠ CNoFigures)
    (yNoMarksNoMarks : PySem.W.subIn K (.ref CNoMarks) (.ref CNoMarks) = some true)
    (yNoMarksNoPack : PySem.W.subIn K (.ref CNoMarks) (.ref CNoPack) = some false)
    (zNoMarksNoPack : CNoMarks ≠ CNoPack)
    (yNoMarksNoRiffle : PySem.W.subIn K (.ref CNoMarks) (.ref CNoRiffle) = some false)
    (zNoMarksNoRiffle : CNoMarks ≠ CNoRiffle)
    (yNoMarksNoText : PySem.W.subIn K (.ref CNoMarks) (.ref CNoText) = some false)
    (zNoMarksNoText : CNoMarks ≠ CNoText)
    (yNoMarksNoWay : PySem.W.subIn K (.ref CNoMarks) (.ref CNoWay) = some false)
    (zNoMarksNoWay : CNoMarks ≠ CNoWay)
    (yNoMarksRiftError : PySem.W.subIn K (.ref CNoMarks) (.ref CRiftError) = some true)
    (yNoMarksTooMany : PySem.W.subIn K (.ref CNoMarks) (.ref CTooMany) = some false)
    (zNoMarksTooMany : CNoMarks ≠ CTooMany)
    (yNoPackNoFigures : PySem.W.subIn K (.ref CNoPack) (.ref CNoFigures) = some false)
    (zNoPackNoFigures : CNoPack ≠ CNoFigures)
    (yNoPackNoMarks : PySem.W.subIn K (.ref CNoPack) (.ref CNoMarks) = some false)
    (zNoPackNoMarks : CNoPack ≠ CNoMarks)
    (yNoPackNoPack : PySem.W.subIn K (.ref CNoPack) (.ref CNoPack) = some true)
    (yNoPackNoRiffle : PySem.W.subIn K (.ref CNoPack) (.ref CNoRiffle) = some false)
    (zNoPackNoRiffle : CNoPack ≠ CNoRiffle)
    (yNoPackNoText : PySem.W.subIn K (.ref CNoPack) (.ref CNoText) = some false)
    (zNoPackNoText : CNoPack ≠ CNoText)
    (yNoPackNoWay : PySem.W.subIn K (.ref CNoPack) (.ref CNoWay) = some false)
    (zNoPackNoWay : CNoPack ≠ CNoWay)
    (yNoPackRiftError : PySem.W.subIn K (.ref CNoPack) (.ref CRiftError) = some true)
    (yNoPackTooMany : PySem.W.subIn K (.ref CNoPack) (.ref CTooMany) = some false)
    (zNoPackTooMany : CNoPack ≠ CTooMany)
    (yNoRiffleNoFigures : PySem.W.subIn K (.ref CNoRiffle) (.ref CNoFigures) = some false)
    (zNoRiffleNoFigures : CNoRiffle ≠ CNoFigures)
    (yNoRiffleNoMarks : PySem.W.subIn K (.ref CNoRiffle) (.ref CNoMarks) = some false)
    (zNoRiffleNoMarks : CNoRiffle ≠ CNoMarks)
    (yNoRiffleNoPack : PySem.W.subIn K (.ref CNoRiffle) (.ref CNoPack) = some false)
    (zNoRiffleNoPack : CNoRiffle ≠ CNoPack)
    (yNoRiffleNoRiffle : PySem.W.subIn K (.ref CNoRiffle) (.ref CNoRiffle) = some true)
    (yNoRiffleNoText : PySem.W.subIn K (.ref CNoRiffle) (.ref CNoText) = some false)
    (zNoRiffleNoText : CNoRiffle ≠ CNoText)
    (yNoRiffleNoWay : PySem.W.subIn K (.ref CNoRiffle) (.ref CNoWay) = some false)
    (zNoRiffleNoWay : CNoRiffle ≠ CNoWay)
    (yNoRiffleRiftError : PySem.W.subIn K (.ref CNoRiffle) (.ref CRiftError) = some true)
    (yNoRiffleTooMany : PySem.W.subIn K (.ref CNoRiffle) (.ref CTooMany) = some false)
    (zNoRiffleTooMany : CNoRiffle ≠ CTooMany) :
    ∃ fd : FuncData, (∀ (s : Shared) (v : Value), BindsTo s fd ⟨[v], []⟩ [("_law_script", v)]) ∧ ∀ base : Heap, K.In base → base.Ns mainGlobals mg → FnOk l.prog w K mg base CX0 7 fa fd ["_law_script"] (sp_law K) := by
  have e := hfa.symm.trans (PySem.W.mg_of X G alaw)
  cases e
  exact ⟨PySem.W.fnOf "law" "law" (defArgs s_law) (defBody s_law) (defScope s_law) .none kVlaw dclaw pmlaw anlaw cdlaw ctlaw, fun s v => .of_eq rfl, fun base _ _ => ok_law (P := l.prog) (w := w) (base := base) (K := K) (mg := mg) { C_Pack := CPack, cl_Pack := ⟨wpgPack, whdPack, wpoPack, wsaPack⟩, mg_Pack := PySem.W.mg_of X G waPack, na_Pack_cards := wn_cardsPack, na_Pack_past := wn_pastPack, f_law_cell_at := flaw_cell_at, fd_law_cell_at := _, F_law_cell_at := fun_mk (st := s_law_cell_at) llaw_cell_at claw_cell_at klaw_cell_at, g_law_cell_at := PySem.W.mg_of X G alaw_cell_at, b_law_cell_at := ((fun_mk (st := s_law_cell_at) llaw_cell_at claw_cell_at klaw_cell_at).binds (ps := ["_law_script", "_law_k"]) (fun _ _ _ _ _ _ us hl => match us, hl with | [_, _], _ => rfl)), f_first := ffirst, fd_first := _, F_first := fun_mk (st := s_first) lfirst cfirst kfirst, g_first := PySem.W.mg_of X G afirst, b_first := ((fun_mk (st := s_first) lfirst cfirst kfirst).binds (ps := ["n"]) (fun _ _ _ _ _ _ us hl => match us, hl with | [_], _ => rfl)), f_is_whole := fis_whole, fd_is_whole := _, F_is_whole := fun_mk (st := s_is_whole) lis_whole cis_whole kis_whole, g_is_whole := PySem.W.mg_of X G ais_whole, b_is_whole := ((fun_mk (st := s_is_whole) lis_whole cis_whole kis_whole).binds (ps := ["thing"]) (fun _ _ _ _ _ _ us hl => match us, hl with | [_], _ => rfl)), f_Pack___init := fPack___init, fd_Pack___init := _, F_Pack___init := fun_mk (st := s_Pack___init) lPack___init cPack___init kPack___init, m_Pack___init := ⟨aPack___init, iPack___init, kPack___init⟩, b_Pack___init := ((fun_mk (st := s_Pack___init) lPack___init cPack___init kPack___init).binds (ps := ["self", "n"]) (fun _ _ _ _ _ _ us hl => match us, hl with | [_, _], _ => rfl)), mk_Pack := ⟨wmkPack, aPack___init, iPack___init, wkpPack⟩, f_is_word := fis_word, fd_is_word := _, F_is_word := fun_mk (st := s_is_word) lis_word cis_word kis_word, g_is_word := PySem.W.mg_of X G ais_word, b_is_word := ((fun_mk (st := s_is_word) lis_word cis_word kis_word).binds (ps := ["marks", "word", "n"]) (fun _ _ _ _ _ _ us hl => match us, hl with | [_, _, _], _ => rfl)), f_must_be_word := fmust_be_word, fd_must_be_word := _, F_must_be_word := fun_mk (st := s_must_be_word) lmust_be_word cmust_be_word kmust_be_word, g_must_be_word := PySem.W.mg_of X G amust_be_word, b_must_be_word := ((fun_mk (st := s_must_be_word) lmust_be_word cmust_be_word kmust_be_word).binds (ps := ["marks", "word", "n"]) (fun _ _ _ _ _ _ us hl => match us, hl with | [_, _, _], _ => rfl)), f_sizes := fsizes, fd_sizes := _, F_sizes := fun_mk (st := s_sizes) lsizes csizes ksizes, g_sizes := PySem.W.mg_of X G asizes, b_sizes := ((fun_mk (st := s_sizes) lsizes csizes ksizes).binds (ps := ["marks", "word"]) (fun _ _ _ _ _ _ us hl => match us, hl with | [_, _], _ => rfl)), f_numbers_in := fnumbers_in, fd_numbers_in := _, F_numbers_in := fun_mk (st := s_numbers_in) lnumbers_in cnumbers_in knumbers_in, g_numbers_in := PySem.W.mg_of X G anumbers_in, b_numbers_in := ((fun_mk (st := s_numbers_in) lnumbers_in cnumbers_in knumbers_in).binds (ps := ["marks", "word"]) (fun _ _ _ _ _ _ us hl => match us, hl with | [_, _], _ => rfl)), f_riffled := friffled, fd_riffled := _, F_riffled := fun_mk (st := s_riffled) lriffled criffled kriffled, g_riffled := PySem.W.mg_of X G ariffled, b_riffled := ((fun_mk (st := s_riffled) lriffled criffled kriffled).binds (ps := ["order", "marks", "word"]) (fun _ _ _ _ _ _ us hl => match us, hl with | [_, _, _], _ => rfl)), f_are_marks := fare_marks, fd_are_marks := _, F_are_marks := fun_mk (st := s_are_marks) lare_marks care_marks kare_marks, g_are_marks := PySem.W.mg_of X G aare_marks, b_are_marks := ((fun_mk (st := s_are_marks) lare_marks care_marks kare_marks).binds (ps := ["marks"]) (fun _ _ _ _ _ _ us hl => match us, hl with | [_], _ => rfl)), f_Pack_riffle := fPack_riffle, fd_Pack_riffle := _, F_Pack_riffle := fun_mk (st := s_Pack_riffle) lPack_riffle cPack_riffle kPack_riffle, m_Pack_riffle := ⟨aPack_riffle, iPack_riffle, kPack_riffle⟩, b_Pack_riffle := ((fun_mk (st := s_Pack_riffle) lPack_riffle cPack_riffle kPack_riffle).binds (ps := ["self", "marks", "word"]) (fun _ _ _ _ _ _ us hl => match us, hl with | [_, _, _], _ => rfl)), f_Pack_order := fPack_order, fd_Pack_order := _, F_Pack_order := fun_mk (st := s_Pack_order) lPack_order cPack_order kPack_order, m_Pack_order := ⟨aPack_order, iPack_order, kPack_order⟩, b_Pack_order := ((fun_mk (st := s_Pack_order) lPack_order cPack_order kPack_order).binds (ps := ["self"]) (fun _ _ _ _ _ _ us hl => match us, hl with | [_], _ => rfl)), f_Pack_done := fPack_done, fd_Pack_done := _, F_Pack_done := fun_mk (st := s_Pack_done) lPack_done cPack_done kPack_done, m_Pack_done := ⟨aPack_done, iPack_done, kPack_done⟩, b_Pack_done := ((fun_mk (st := s_Pack_done) lPack_done cPack_done kPack_done).binds (ps := ["self"]) (fun _ _ _ _ _ _ us hl => match us, hl with | [_], _ => rfl)), f_check := fcheck, fd_check := _, F_check := fun_mk (st := s_check) lcheck ccheck kcheck, g_check := PySem.W.mg_of X G acheck, b_check := ((fun_mk (st := s_check) lcheck ccheck kcheck).binds (ps := ["marks", "word", "n"]) (fun _ _ _ _ _ _ us hl => match us, hl with | [_, _, _], _ => rfl)), f_turned_about := fturned_about, fd_turned_about := _, F_turned_about := fun_mk (st := s_turned_about) lturned_about cturned_about kturned_about, g_turned_about := PySem.W.mg_of X G aturned_about, b_turned_about := ((fun_mk (st := s_turned_about) lturned_about cturned_about kturned_about).binds (ps := ["marks", "others", "heap", "other"]) (fun _ _ _ _ _ _ us hl => match us, hl with | [_, _, _, _], _ => rfl)), f_joined := fjoined, fd_joined := _, F_joined := fun_mk (st := s_joined) ljoined cjoined kjoined, g_joined := PySem.W.mg_of X G ajoined, b_joined := ((fun_mk (st := s_joined) ljoined cjoined kjoined).binds (ps := ["marks", "word", "others", "more"]) (fun _ _ _ _ _ _ us hl => match us, hl with | [_, _, _, _], _ => rfl)), f_joined_marks := fjoined_marks, fd_joined_marks := _, F_joined_marks := fun_mk (st := s_joined_marks) ljoined_marks cjoined_marks kjoined_marks, g_joined_marks := PySem.W.mg_of X G ajoined_marks, b_joined_marks := ((fun_mk (st := s_joined_marks) ljoined_marks cjoined_marks kjoined_marks).binds (ps := ["marks", "others"]) (fun _ _ _ _ _ _ us hl => match us, hl with | [_, _], _ => rfl)), f_Pack_whole := fPack_whole, fd_Pack_whole := _, F_Pack_whole := fun_mk (st := s_Pack_whole) lPack_whole cPack_whole kPack_whole, m_Pack_whole := ⟨aPack_whole, iPack_whole, kPack_whole⟩, b_Pack_whole := ((fun_mk (st := s_Pack_whole) lPack_whole cPack_whole kPack_whole).binds (ps := ["self"]) (fun _ _ _ _ _ _ us hl => match us, hl with | [_], _ => rfl)), f_undone := fundone, fd_undone := _, F_undone := fun_mk (st := s_undone) lundone cundone kundone, g_undone := PySem.W.mg_of X G aundone, b_undone := ((fun_mk (st := s_undone) lundone cundone kundone).binds (ps := ["order", "marks", "word"]) (fun _ _ _ _ _ _ us hl => match us, hl with | [_, _, _], _ => rfl)), f_Pack_undo := fPack_undo, fd_Pack_undo := _, F_Pack_undo := fun_mk (st := s_Pack_undo) lPack_undo cPack_undo kPack_undo, m_Pack_undo := ⟨aPack_undo, iPack_undo, kPack_undo⟩, b_Pack_undo := ((fun_mk (st := s_Pack_undo) lPack_undo cPack_undo kPack_undo).binds (ps := ["self"]) (fun _ _ _ _ _ _ us hl => match us, hl with | [_], _ => rfl)), f_law_words := flaw_words, fd_law_words := _, F_law_words := fun_mk (st := s_law_words) llaw_words claw_words klaw_words, g_law_words := PySem.W.mg_of X G alaw_words, b_law_words := ((fun_mk (st := s_law_words) llaw_words claw_words klaw_words).binds (ps := ["_law_e"]) (fun _ _ _ _ _ _ us hl => match us, hl with | [_], _ => rfl)), f_law_refused := flaw_refused, fd_law_refused := _, F_law_refused := fun_mk (st := s_law_refused) llaw_refused claw_refused klaw_refused, g_law_refused := PySem.W.mg_of X G alaw_refused, b_law_refused := ((fun_mk (st := s_law_refused) llaw_refused claw_refused klaw_refused).binds (ps := ["_law_pack", "_law_marks_here", "_law_word_here", "_law_due"]) (fun _ _ _ _ _ _ us hl => match us, hl with | [_, _, _, _], _ => rfl)), f_law_mixed := flaw_mixed, fd_law_mixed := _, F_law_mixed := fun_mk (st := s_law_mixed) llaw_mixed claw_mixed klaw_mixed, g_law_mixed := PySem.W.mg_of X G alaw_mixed, b_law_mixed := ((fun_mk (st := s_law_mixed) llaw_mixed claw_mixed klaw_mixed).binds (ps := ["_law_cell", "_law_k"]) (fun _ _ _ _ _ _ us hl => match us, hl with | [_, _], _ => rfl)), f_law_marks := flaw_marks, fd_law_marks := _, F_law_marks := fun_mk (st := s_law_marks) llaw_marks claw_marks klaw_marks, g_law_marks := PySem.W.mg_of X G alaw_marks, b_law_marks := ((fun_mk (st := s_law_marks) llaw_marks claw_marks klaw_marks).binds (ps := ["_law_cell", "_law_most"]) (fun _ _ _ _ _ _ us hl => match us, hl with | [_, _], _ => rfl)), f_law_bad_marks := flaw_bad_marks, fd_law_bad_marks := _, F_law_bad_marks := fun_mk (st := s_law_bad_marks) llaw_bad_marks claw_bad_marks klaw_bad_marks, g_law_bad_marks := PySem.W.mg_of X G alaw_bad_marks, b_law_bad_marks := ((fun_mk (st := s_law_bad_marks) llaw_bad_marks claw_bad_marks klaw_bad_marks).binds (ps := ["_law_cell"]) (fun _ _ _ _ _ _ us hl => match us, hl with | [_], _ => rfl)), f_law_bad_words := flaw_bad_words, fd_law_bad_words := _, F_law_bad_words := fun_mk (st := s_law_bad_words) llaw_bad_words claw_bad_words klaw_bad_words, g_law_bad_words := PySem.W.mg_of X G alaw_bad_words, b_law_bad_words := ((fun_mk (st := s_law_bad_words) llaw_bad_words claw_bad_words klaw_bad_words).binds (ps := ["_law_n", "_law_heaps", "_law_cell"]) (fun _ _ _ _ _ _ us hl => match us, hl with | [_, _, _], _ => rfl)), f_law_word := flaw_word, fd_law_word := _, F_law_word := fun_mk (st := s_law_word) llaw_word claw_word klaw_word, g_law_word := PySem.W.mg_of X G alaw_word, b_law_word := ((fun_mk (st := s_law_word) llaw_word claw_word klaw_word).binds (ps := ["_law_cell", "_law_heaps", "_law_n"]) (fun _ _ _ _ _ _ us hl => match us, hl with | [_, _, _], _ => rfl)), f_law_no_pack := flaw_no_pack, fd_law_no_pack := _, F_law_no_pack := fun_mk (st := s_law_no_pack) llaw_no_pack claw_no_pack klaw_no_pack, g_law_no_pack := PySem.W.mg_of X G alaw_no_pack, b_law_no_pack := ((fun_mk (st := s_law_no_pack) llaw_no_pack claw_no_pack klaw_no_pack).binds (ps := ["_law_thing"]) (fun _ _ _ _ _ _ us hl => match us, hl with | [_], _ => rfl)), f_law_packs := flaw_packs, fd_law_packs := _, F_law_packs := fun_mk (st := s_law_packs) llaw_packs claw_packs klaw_packs, g_law_packs := PySem.W.mg_of X G alaw_packs, b_law_packs := ((fun_mk (st := s_law_packs) llaw_packs claw_packs klaw_packs).binds (ps := ["_law_cell"]) (fun _ _ _ _ _ _ us hl => match us, hl with | [_], _ => rfl)), f_law := fa, fd_law := _, F_law := fun_mk (st := s_law) llaw claw klaw, g_law := PySem.W.mg_of X G alaw, b_law := ((fun_mk (st := s_law) llaw claw klaw).binds (ps := ["_law_script"]) (fun _ _ _ _ _ _ us hl => match us, hl with | [_], _ => rfl)), u_HEAPS := _, c_HEAPS := PySem.W.mg_of X G z_HEAPS, r_HEAPS := ⟨_, rfl⟩, u_MOST := _, c_MOST := PySem.W.mg_of X G z_MOST, r_MOST := ⟨_, rfl⟩, m_abs := PySem.W.mg_none_of X G z_abs, m_all := PySem.W.mg_none_of X G z_all, m_bool := PySem.W.mg_none_of X G z_bool, m_enumerate := PySem.W.mg_none_of X G z_enumerate, m_int := PySem.W.mg_none_of X G z_int, m_isinstance := PySem.W.mg_none_of X G z_isinstance, m_len := PySem.W.mg_none_of X G z_len, m_list := PySem.W.mg_none_of X G z_list, m_range := PySem.W.mg_none_of X G z_range, m_reversed := PySem.W.mg_none_of X G z_reversed, m_zip := PySem.W.mg_none_of X G z_zip, C_RiftError := CRiftError, X_RiftError := ⟨PySem.W.mg_of X G xaRiftError, xkRiftError, xeRiftError, ⟨xhgRiftError, xhkRiftError, xhsRiftError, xhdRiftError, xhaRiftError, xhnRiftError, xhtRiftError, xhmRiftError⟩, xtyRiftError, xveRiftError⟩, C_NoPack := CNoPack, X_NoPack := ⟨PySem.W.mg_of X G xaNoPack, xkNoPack, xeNoPack, ⟨xhgNoPack, xhkNoPack, xhsNoPack, xhdNoPack, xhaNoPack, xhnNoPack, xhtNoPack, xhmNoPack⟩, xtyNoPack, xveNoPack⟩, C_NoMarks := CNoMarks, X_NoMarks := ⟨PySem.W.mg_of X G xaNoMarks, xkNoMarks, xeNoMarks, ⟨xhgNoMarks, xhkNoMarks, xhsNoMarks, xhdNoMarks, xhaNoMarks, xhnNoMarks, xhtNoMarks, xhmNoMarks⟩, xtyNoMarks, xveNoMarks⟩, C_NoRiffle := CNoRiffle, X_NoRiffle := ⟨PySem.W.mg_of X G xaNoRiffle, xkNoRiffle, xeNoRiffle, ⟨xhgNoRiffle, xhkNoRiffle, xhsNoRiffle, xhdNoRiffle, xhaNoRiffle, xhnNoRiffle, xhtNoRiffle, xhmNoRiffle⟩, xtyNoRiffle, xveNoRiffle⟩, C_NoWay := CNoWay, X_NoWay := ⟨PySem.W.mg_of X G xaNoWay, xkNoWay, xeNoWay, ⟨xhgNoWay, xhkNoWay, xhsNoWay, xhdNoWay, xhaNoWay, xhnNoWay, xhtNoWay, xhmNoWay⟩, xtyNoWay, xveNoWay⟩, C_TooMany := CTooMany, X_TooMany := ⟨PySem.W.mg_of X G xaTooMany, xkTooMany, xeTooMany, ⟨xhgTooMany, xhkTooMany, xhsTooMany, xhdTooMany, xhaTooMany, xhnTooMany, xhtTooMany, xhmTooMany⟩, xtyTooMany, xveTooMany⟩, C_NoFigures := CNoFigures, X_NoFigures := ⟨PySem.W.mg_of X G xaNoFigures, xkNoFigures, xeNoFigures, ⟨xhgNoFigures, xhkNoFigures, xhsNoFigures, xhdNoFigures, xhaNoFigures, xhnNoFigures, xhtNoFigures, xhmNoFigures⟩, xtyNoFigures, xveNoFigures⟩, C_NoText := CNoText, X_NoText := ⟨PySem.W.mg_of X G xaNoText, xkNoText, xeNoText, ⟨xhgNoText, xhkNoText, xhsNoText, xhdNoText, xhaNoText, xhnNoText, xhtNoText, xhmNoText⟩, xtyNoText, xveNoText⟩, S_NoMarks_NoFigures := yNoMarksNoFigures, N_NoMarks_NoFigures := zNoMarksNoFigures, S_NoMarks_NoMarks := yNoMarksNoMarks, S_NoMarks_NoPack := yNoMarksNoPack, N_NoMarks_NoPack := zNoMarksNoPack, S_NoMarks_NoRiffle := yNoMarksNoRiffle, N_NoMarks_NoRiffle := zNoMarksNoRiffle, S_NoMarks_NoText := yNoMarksNoText, N_NoMarks_NoText := zNoMarksNoText, S_NoMarks_NoWay := yNoMarksNoWay, N_NoMarks_NoWay := zNoMarksNoWay, S_NoMarks_RiftError := yNoMarksRiftError, S_NoMarks_TooMany := yNoMarksTooMany, N_NoMarks_TooMany := zNoMarksTooMany, S_NoPack_NoFigures := yNoPackNoFigures, N_NoPack_NoFigures := zNoPackNoFigures, S_NoPack_NoMarks := yNoPackNoMarks, N_NoPack_NoMarks := zNoPackNoMarks, S_NoPack_NoPack := yNoPackNoPack, S_NoPack_NoRiffle := yNoPackNoRiffle, N_NoPack_NoRiffle := zNoPackNoRiffle, S_NoPack_NoText := yNoPackNoText, N_NoPack_NoText := zNoPackNoText, S_NoPack_NoWay := yNoPackNoWay, N_NoPack_NoWay := zNoPackNoWay, S_NoPack_RiftError := yNoPackRiftError, S_NoPack_TooMany := yNoPackTooMany, N_NoPack_TooMany := zNoPackTooMany, S_NoRiffle_NoFigures := yNoRiffleNoFigures, N_NoRiffle_NoFigures := zNoRiffleNoFigures, S_NoRiffle_NoMarks := yNoRiffleNoMarks, N_NoRiffle_NoMarks := zNoRiffleNoMarks, S_NoRiffle_NoPack := yNoRiffleNoPack, N_NoRiffle_NoPack := zNoRiffleNoPack, S_NoRiffle_NoRiffle := yNoRiffleNoRiffle, S_NoRiffle_NoText := yNoRiffleNoText, N_NoRiffle_NoText := zNoRiffleNoText, S_NoRiffle_NoWay := yNoRiffleNoWay, N_NoRiffle_NoWay := zNoRiffleNoWay, S_NoRiffle_RiftError := yNoRiffleRiftError, S_NoRiffle_TooMany := yNoRiffleTooMany, N_NoRiffle_TooMany := zNoRiffleTooMany }⟩
end Rc
open PySem PySem.W PyProof.Rows
set_option maxHeartbeats 0 in
theorem PySem.Challenge.cw_riftcarry_k43_what_a_pack_refuses_holds : PySem.Challenge.rw_riftcarry_k43_what_a_pack_refuses.Holds := by
  w_on; o_law; k_head; (case hw => w_witness2)
  k_fill
  refine L2.walk_of (l := PySem.Challenge.rw_riftcarry_k43_what_a_pack_refuses) (n := 63) (k := 7) (x := "_law_script") (CX := fun _ => L2.CX0) (sp := fun w => Rc.sp_law _) rfl (by decide) rfl ⟨rfl, by decide, by decide⟩ (fun w h Y => PySem.W.kIn_of Y) ?F (fun _ _ a ns hl _ hS => ⟨a, ns, rfl, hS, hl, fun _ _ e _ => by rw [e]⟩) (fun _ _ _ _ _ h => h)
  case F =>
    intro w mg fa h KX G hmg
    refine' Rc.all_mk KX G hmg ?waPack ?wpgPack ?whdPack ?wpoPack ?wsaPack ?wmkPack ?wkpPack ?wn_cardsPack ?wn_pastPack ?alaw_cell_at ?llaw_cell_at ?claw_cell_at ?klaw_cell_at ?afirst ?lfirst ?cfirst ?kfirst ?ais_whole ?lis_whole ?cis_whole ?kis_whole ?aPack___init ?iPack___init ?lPack___init ?cPack___init ?kPack___init ?ais_word ?lis_word ?cis_word ?kis_word ?amust_be_word ?lmust_be_word ?cmust_be_word ?kmust_be_word ?asizes ?lsizes ?csizes ?ksizes ?anumbers_in ?lnumbers_in ?cnumbers_in ?knumbers_in ?ariffled ?lriffled ?criffled ?kriffled ?aare_marks ?lare_marks ?care_marks ?kare_marks ?aPack_riffle ?iPack_riffle ?lPack_riffle ?cPack_riffle ?kPack_riffle ?aPack_order ?iPack_order ?lPack_order ?cPack_order ?kPack_order ?aPack_done ?iPack_done ?lPack_done ?cPack_done ?kPack_done ?acheck ?lcheck ?ccheck ?kcheck ?aturned_about ?lturned_about ?cturned_about ?kturned_about ?ajoined ?ljoined ?cjoined ?kjoined ?ajoined_marks ?ljoined_marks ?cjoined_marks ?kjoined_marks ?aPack_whole ?iPack_whole ?lPack_whole ?cPack_whole ?kPack_whole ?aundone ?lundone ?cundone ?kundone ?aPack_undo ?iPack_undo ?lPack_undo ?cPack_undo ?kPack_undo ?alaw_words ?llaw_words ?claw_words ?klaw_words ?alaw_refused ?llaw_refused ?claw_refused ?klaw_refused ?alaw_mixed ?llaw_mixed ?claw_mixed ?klaw_mixed ?alaw_marks ?llaw_marks ?claw_marks ?klaw_marks ?alaw_bad_marks ?llaw_bad_marks ?claw_bad_marks ?klaw_bad_marks ?alaw_bad_words ?llaw_bad_words ?claw_bad_words ?klaw_bad_words ?alaw_word ?llaw_word ?claw_word ?klaw_word ?alaw_no_pack ?llaw_no_pack ?claw_no_pack ?klaw_no_pack ?alaw_packs ?llaw_packs ?claw_packs ?klaw_packs ?alaw ?llaw ?claw ?klaw ?z_HEAPS ?z_MOST ?z_abs ?z_all ?z_bool ?z_enumerate ?z_int ?z_isinstance ?z_len ?z_list ?z_range ?z_reversed ?z_zip ?xaRiftError ?xkRiftError ?xeRiftError ?xhgRiftError ?xhkRiftError ?xhsRiftError ?xhdRiftError ?xhaRiftError ?xhnRiftError ?xhtRiftError ?xhmRiftError ?xtyRiftError ?xveRiftError ?xaNoPack ?xkNoPack ?xeNoPack ?xhgNoPack ?xhkNoPack ?xhsNoPack ?xhdNoPack ?xhaNoPack ?xhnNoPack ?xhtNoPack ?xhmNoPack ?xtyNoPack ?xveNoPack ?xaNoMarks ?xkNoMarks ?xeNoMarks ?xhgNoMarks ?xhkNoMarks ?xhsNoMarks ?xhdNoMarks ?xhaNoMarks ?xhnNoMarks ?xhtNoMarks ?xhmNoMarks ?xtyNoMarks ?xveNoMarks ?xaNoRiffle ?xkNoRiffle ?xeNoRiffle ?xhgNoRiffle ?xhkNoRiffle ?xhsNoRiffle ?xhdNoRiffle ?xhaNoRiffle ?xhnNoRiffle ?xhtNoRiffle ?xhmNoRiffle ?xtyNoRiffle ?xveNoRiffle ?xaNoWay ?xkNoWay ?xeNoWay ?xhgNoWay ?xhkNoWay ?xhsNoWay ?xhdNoWay ?xhaNoWay ?xhnNoWay ?xhtNoWay ?xhmNoWay ?xtyNoWay ?xveNoWay ?xaTooMany ?xkTooMany ?xeTooMany ?xhgTooMany ?xhkTooMany ?xhsTooMany ?xhdTooMany ?xhaTooMany ?xhnTooMany ?xhtTooMany ?xhmTooMany ?xtyTooMany ?xveTooMany ?xaNoFigures ?xkNoFigures ?xeNoFigures ?xhgNoFigures ?xhkNoFigures ?xhsNoFigures ?xhdNoFigures ?xhaNoFigures ?xhnNoFigures ?xhtNoFigures ?xhmNoFigures ?xtyNoFigures ?xveNoFigures ?xaNoText ?xkNoText ?xeNoText ?xhgNoText ?xhkNoText ?xhsNoText ?xhdNoText ?xhaNoText ?xhnNoText ?xhtNoText ?xhmNoText ?xtyNoText ?xveNoText ?yNoMarksNoFigures ?zNoMarksNoFigures ?yNoMarksNoMarks ?yNoMarksNoPack ?zNoMarksNoPack ?yNoMarksNoRiffle ?zNoMarksNoRiffle ?yNoMarksNoText ?zNoMarksNoText ?yNoMarksNoWay ?zNoMarksNoWay ?yNoMarksRiftError ?yNoMarksTooMany ?zNoMarksTooMany ?yNoPackNoFigures ?zNoPackNoFigures ?yNoPackNoMarks ?zNoPackNoMarks ?yNoPackNoPack ?yNoPackNoRiffle ?zNoPackNoRiffle ?yNoPackNoText ?zNoPackNoText ?yNoPackNoWay ?zNoPackNoWay ?yNoPackRiftError ?yNoPackTooMany ?zNoPackTooMany ?yNoRiffleNoFigures ?zNoRiffleNoFigures ?yNoRiffleNoMarks ?zNoRiffleNoMarks ?yNoRiffleNoPack ?zNoRiffleNoPack ?yNoRiffleNoRiffle ?yNoRiffleNoText ?zNoRiffleNoText ?yNoRiffleNoWay ?zNoRiffleNoWay ?yNoRiffleRiftError ?yNoRiffleTooMany ?zNoRiffleTooMany
    (case waPack => k_is); (case wpgPack => k_is); (case whdPack => k_is); (case wpoPack => k_is); (case wsaPack => k_is); (case wmkPack => k_is); (case wkpPack => k_is); (case wn_cardsPack => k_is); (case wn_pastPack => k_is); (case alaw_cell_at => k_is); (case llaw_cell_at => k_is); (case claw_cell_at => k_is); (case klaw_cell_at => k_is); (case afirst => k_is); (case lfirst => k_is); (case cfirst => k_is); (case kfirst => k_is); (case ais_whole => k_is); (case lis_whole => k_is); (case cis_whole => k_is); (case kis_whole => k_is); (case aPack___init => k_is); (case iPack___init => k_is); (case lPack___init => k_is); (case cPack___init => k_is); (case kPack___init => k_is); (case ais_word => k_is); (case lis_word => k_is); (case cis_word => k_is); (case kis_word => k_is); (case amust_be_word => k_is); (case lmust_be_word => k_is); (case cmust_be_word => k_is); (case kmust_be_word => k_is); (case asizes => k_is); (case lsizes => k_is); (case csizes => k_is); (case ksizes => k_is); (case anumbers_in => k_is); (case lnumbers_in => k_is); (case cnumbers_in => k_is); (case knumbers_in => k_is); (case ariffled => k_is); (case lriffled => k_is); (case criffled => k_is); (case kriffled => k_is); (case aare_marks => k_is); (case lare_marks => k_is); (case care_marks => k_is); (case kare_marks => k_is); (case aPack_riffle => k_is); (case iPack_riffle => k_is); (case lPack_riffle => k_is); (case cPack_riffle => k_is); (case kPack_riffle => k_is); (case aPack_order => k_is); (case iPack_order => k_is); (case lPack_order => k_is); (case cPack_order => k_is); (case kPack_order => k_is); (case aPack_done => k_is); (case iPack_done => k_is); (case lPack_done => k_is); (case cPack_done => k_is); (case kPack_done => k_is); (case acheck => k_is); (case lcheck => k_is); (case ccheck => k_is); (case kcheck => k_is); (case aturned_about => k_is); (case lturned_about => k_is); (case cturned_about => k_is); (case kturned_about => k_is); (case ajoined => k_is); (case ljoined => k_is); (case cjoined => k_is); (case kjoined => k_is); (case ajoined_marks => k_is); (case ljoined_marks => k_is); (case cjoined_marks => k_is); (case kjoined_marks => k_is); (case aPack_whole => k_is); (case iPack_whole => k_is); (case lPack_whole => k_is); (case cPack_whole => k_is); (case kPack_whole => k_is); (case aundone => k_is); (case lundone => k_is); (case cundone => k_is); (case kundone => k_is); (case aPack_undo => k_is); (case iPack_undo => k_is); (case lPack_undo => k_is); (case cPack_undo => k_is); (case kPack_undo => k_is); (case alaw_words => k_is); (case llaw_words => k_is); (case claw_words => k_is); (case klaw_words => k_is); (case alaw_refused => k_is); (case llaw_refused => k_is); (case claw_refused => k_is); (case klaw_refused => k_is); (case alaw_mixed => k_is); (case llaw_mixed => k_is); (case claw_mixed => k_is); (case klaw_mixed => k_is); (case alaw_marks => k_is); (case llaw_marks => k_is); (case claw_marks => k_is); (case klaw_marks => k_is); (case alaw_bad_marks => k_is); (case llaw_bad_marks => k_is); (case claw_bad_marks => k_is); (case klaw_bad_marks => k_is); (case alaw_bad_words => k_is); (case llaw_bad_words => k_is); (case claw_bad_words => k_is); (case klaw_bad_words => k_is); (case alaw_word => k_is); (case llaw_word => k_is); (case claw_word => k_is); (case klaw_word => k_is); (case alaw_no_pack => k_is); (case llaw_no_pack => k_is); (case claw_no_pack => k_is); (case klaw_no_pack => k_is); (case alaw_packs => k_is); (case llaw_packs => k_is); (case claw_packs => k_is); (case klaw_packs => k_is); (case alaw => k_is); (case llaw => k_is); (case claw => k_is); (case klaw => k_is); (case z_HEAPS => k_is); (case z_MOST => k_is); (case z_abs => k_is); (case z_all => k_is); (case z_bool => k_is); (case z_enumerate => k_is); (case z_int => k_is); (case z_isinstance => k_is); (case z_len => k_is); (case z_list => k_is); (case z_range => k_is); (case z_reversed => k_is); (case z_zip => k_is); (case xaRiftError => k_is); (case xkRiftError => k_is); (case xeRiftError => k_exc); (case xhgRiftError => k_is); (case xhkRiftError => k_is); (case xhsRiftError => k_is); (case xhdRiftError => k_is); (case xhaRiftError => k_is); (case xhnRiftError => k_is); (case xhtRiftError => k_is); (case xhmRiftError => k_is); (case xtyRiftError => k_is); (case xveRiftError => k_is); (case xaNoPack => k_is); (case xkNoPack => k_is); (case xeNoPack => k_exc); (case xhgNoPack => k_is); (case xhkNoPack => k_is); (case xhsNoPack => k_is); (case xhdNoPack => k_is); (case xhaNoPack => k_is); (case xhnNoPack => k_is); (case xhtNoPack => k_is); (case xhmNoPack => k_is); (case xtyNoPack => k_is); (case xveNoPack => k_is); (case xaNoMarks => k_is); (case xkNoMarks => k_is); (case xeNoMarks => k_exc); (case xhgNoMarks => k_is); (case xhkNoMarks => k_is); (case xhsNoMarks => k_is); (case xhdNoMarks => k_is); (case xhaNoMarks => k_is); (case xhnNoMarks => k_is); (case xhtNoMarks => k_is); (case xhmNoMarks => k_is); (case xtyNoMarks => k_is); (case xveNoMarks => k_is); (case xaNoRiffle => k_is); (case xkNoRiffle => k_is); (case xeNoRiffle => k_exc); (case xhgNoRiffle => k_is); (case xhkNoRiffle => k_is); (case xhsNoRiffle => k_is); (case xhdNoRiffle => k_is); (case xhaNoRiffle => k_is); (case xhnNoRiffle => k_is); (case xhtNoRiffle => k_is); (case xhmNoRiffle => k_is); (case xtyNoRiffle => k_is); (case xveNoRiffle => k_is); (case xaNoWay => k_is); (case xkNoWay => k_is); (case xeNoWay => k_exc); (case xhgNoWay => k_is); (case xhkNoWay => k_is); (case xhsNoWay => k_is); (case xhdNoWay => k_is); (case xhaNoWay => k_is); (case xhnNoWay => k_is); (case xhtNoWay => k_is); (case xhmNoWay => k_is); (case xtyNoWay => k_is); (case xveNoWay => k_is); (case xaTooMany => k_is); (case xkTooMany => k_is); (case xeTooMany => k_exc); (case xhgTooMany => k_is); (case xhkTooMany => k_is); (case xhsTooMany => k_is); (case xhdTooMany => k_is); (case xhaTooMany => k_is); (case xhnTooMany => k_is); (case xhtTooMany => k_is); (case xhmTooMany => k_is); (case xtyTooMany => k_is); (case xveTooMany => k_is); (case xaNoFigures => k_is); (case xkNoFigures => k_is); (case xeNoFigures => k_exc); (case xhgNoFigures => k_is); (case xhkNoFigures => k_is); (case xhsNoFigures => k_is); (case xhdNoFigures => k_is); (case xhaNoFigures => k_is); (case xhnNoFigures => k_is); (case xhtNoFigures => k_is); (case xhmNoFigures => k_is); (case xtyNoFigures => k_is); (case xveNoFigures => k_is); (case xaNoText => k_is); (case xkNoText => k_is); (case xeNoText => k_exc); (case xhgNoText => k_is); (case xhkNoText => k_is); (case xhsNoText => k_is); (case xhdNoText => k_is); (case xhaNoText => k_is); (case xhnNoText => k_is); (case xhtNoText => k_is); (case xhmNoText => k_is); (case xtyNoText => k_is); (case xveNoText => k_is); (case yNoMarksNoFigures => k_is); (case zNoMarksNoFigures => decide); (case yNoMarksNoMarks => k_is); (case yNoMarksNoPack => k_is); (case zNoMarksNoPack => decide); (case yNoMarksNoRiffle => k_is); (case zNoMarksNoRiffle => decide); (case yNoMarksNoText => k_is); (case zNoMarksNoText => decide); (case yNoMarksNoWay => k_is); (case zNoMarksNoWay => decide); (case yNoMarksRiftError => k_is); (case yNoMarksTooMany => k_is); (case zNoMarksTooMany => decide); (case yNoPackNoFigures => k_is); (case zNoPackNoFigures => decide); (case yNoPackNoMarks => k_is); (case zNoPackNoMarks => decide); (case yNoPackNoPack => k_is); (case yNoPackNoRiffle => k_is); (case zNoPackNoRiffle => decide); (case yNoPackNoText => k_is); (case zNoPackNoText => decide); (case yNoPackNoWay => k_is); (case zNoPackNoWay => decide); (case yNoPackRiftError => k_is); (case yNoPackTooMany => k_is); (case zNoPackTooMany => decide); (case yNoRiffleNoFigures => k_is); (case zNoRiffleNoFigures => decide); (case yNoRiffleNoMarks => k_is); (case zNoRiffleNoMarks => decide); (case yNoRiffleNoPack => k_is); (case zNoRiffleNoPack => decide); (case yNoRiffleNoRiffle => k_is); (case yNoRiffleNoText => k_is); (case zNoRiffleNoText => decide); (case yNoRiffleNoWay => k_is); (case zNoRiffleNoWay => decide); (case yNoRiffleRiftError => k_is); (case yNoRiffleTooMany => k_is); (case zNoRiffleTooMany => decide)
