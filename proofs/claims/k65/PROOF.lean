import PyProof.Rows.All
import Wide.All
import OpenK.AllK
import Wide.FinOn
import HandS.ForMost
import HandS.IsInst
import HandS.Conv
import HandS.Wide
import HandS.WideBits
import HandS.Evl
import HandS.Walk
import HandS.SortInts
import HandS.SetFor
import HandS.Style
import HandS.Rev
import HandS.RevTup
import HandS.ForExc
import HandS.ExcIs
import HandS.HotCalls
import PyProof.Rows.CountFlat
import PySem.Challenge.RW_riftcarry_k65_fractions_and_shares
set_option Elab.async false
set_option linter.all false
set_option maxRecDepth 100000
set_option maxHeartbeats 4000000
namespace Rc
open PySem PySem.Spec PyProof.Rows L2

/-! frames: H grew out of H0; own lists the objects that are new since then -/
structure Fr (H0 H : Hp) (own : List (Addr × HO)) : Prop where
  same : Same H0 H
  frs : ∀ p ∈ own, H0 p.1 = none ∧ H p.1 = some p.2
  nd : (own.map (·.1)).Nodup

section
variable {H0 H H' : Hp} {own : List (Addr × HO)} {p q r t : Addr} {o o' u v x : HO}
theorem same_new (h : H p = none) : Same H (upd H p o) := fun b x e => by
  rw [upd_ne (ne_of_none e h)]; exact e
theorem Fr.nil (H : Hp) : Fr H H [] := ⟨Same.refl H, (fun _ h => nomatch h), List.nodup_nil⟩
theorem Fr.fresh (f : Fr H0 H own) (h : H p = none) : H0 p = none := f.same.free h
theorem Fr.notin (f : Fr H0 H own) (h : H p = none) : p ∉ own.map (·.1) := fun hm => by
  obtain ⟨z, hz, rfl⟩ := List.mem_map.mp hm
  rw [(f.frs z hz).2] at h; cases h
theorem Fr.call (f : Fr H0 H own) (s : Same H H') : Fr H0 H' own :=
  ⟨f.same.trans s, fun z hz => ⟨(f.frs z hz).1, s _ _ (f.frs z hz).2⟩, f.nd⟩
theorem Fr.cnew (f : Fr H0 H own) (s : Same H H') (h : H p = none) (e : H' p = some o) : Fr H0 H' ((p, o) :: own) :=
  ⟨f.same.trans s, fun z hz => by
    rcases List.mem_cons.mp hz with rfl | hz
    · exact ⟨f.fresh h, e⟩
    · exact ⟨(f.frs z hz).1, s _ _ (f.frs z hz).2⟩, List.nodup_cons.mpr ⟨f.notin h, f.nd⟩⟩
theorem Fr.new (f : Fr H0 H own) (h : H p = none) : Fr H0 (upd H p o) ((p, o) :: own) := f.cnew (same_new h) h upd_same
theorem Fr.tmp (f : Fr H0 H own) (h : H p = none) : Fr H0 (upd H p o) own := f.call (same_new h)
theorem Fr.sub {own' : List (Addr × HO)} (f : Fr H0 H own) (h : own'.Sublist own) : Fr H0 H own' :=
  ⟨f.same, fun z hz => f.frs z (h.subset hz), f.nd.sublist (h.map _)⟩
theorem Fr.perm {own' : List (Addr × HO)} (f : Fr H0 H own) (h : own.Perm own') : Fr H0 H own' :=
  ⟨f.same, fun z hz => f.frs z (h.mem_iff.mpr hz), (h.map _).nodup_iff.mp f.nd⟩
theorem Fr.mem (f : Fr H0 H own) (h : (p, o) ∈ own) : H p = some o := (f.frs _ h).2
theorem Fr.wr (f : Fr H0 H ((p, o) :: own)) : Fr H0 (upd H p o') ((p, o') :: own) := by
  have hn := List.nodup_cons.mp f.nd
  refine ⟨fun b z e => ?_, fun z hz => ?_, f.nd⟩
  · have : b ≠ p := fun h => by subst h; rw [(f.frs (b, o) List.mem_cons_self).1] at e; cases e
    rw [upd_ne this]; exact f.same _ _ e
  · rcases List.mem_cons.mp hz with rfl | hz
    · exact ⟨(f.frs (p, o) List.mem_cons_self).1, upd_same⟩
    · have : z.1 ≠ p := fun h => hn.1 (List.mem_map.mpr ⟨z, hz, h⟩)
      rw [upd_ne this]
      exact f.frs z (List.mem_cons_of_mem _ hz)
theorem Fr.cast (f : Fr H0 H ((p, o) :: own)) (e : o = o') : Fr H0 H ((p, o') :: own) := e ▸ f
/-- bring the k-th to the front, and back -/
theorem Fr.up1 {a b : Addr × HO} (f : Fr H0 H (a :: b :: own)) : Fr H0 H (b :: a :: own) := f.perm (List.Perm.swap _ _ _)
theorem Fr.up2 {a b c : Addr × HO} (f : Fr H0 H (a :: b :: c :: own)) : Fr H0 H (c :: a :: b :: own) :=
  f.perm ((List.Perm.swap c b own).cons a |>.trans (List.Perm.swap c a (b :: own)))
theorem Fr.up3 {a b c d : Addr × HO} (f : Fr H0 H (a :: b :: c :: d :: own)) : Fr H0 H (d :: a :: b :: c :: own) :=
  f.perm (((List.Perm.swap d c own).cons b |>.trans (List.Perm.swap d b (c :: own))).cons a |>.trans (List.Perm.swap d a (b :: c :: own)))
theorem Fr.dn1 {a b : Addr × HO} (f : Fr H0 H (b :: a :: own)) : Fr H0 H (a :: b :: own) := f.up1
theorem Fr.dn2 {a b c : Addr × HO} (f : Fr H0 H (c :: a :: b :: own)) : Fr H0 H (a :: b :: c :: own) := f.up1.perm ((List.Perm.swap _ _ _).cons _)
theorem Fr.dn3 {a b c d : Addr × HO} (f : Fr H0 H (d :: a :: b :: c :: own)) : Fr H0 H (a :: b :: c :: d :: own) :=
  f.up1.perm (((List.Perm.swap _ _ _).trans ((List.Perm.swap _ _ _).cons _)).cons _)
theorem Fr.at0 (f : Fr H0 H ((p, o) :: own)) : H p = some o := f.mem List.mem_cons_self
theorem Fr.at1 {a : Addr × HO} (f : Fr H0 H (a :: (p, o) :: own)) : H p = some o := f.up1.at0
theorem Fr.at2 {a b : Addr × HO} (f : Fr H0 H (a :: b :: (p, o) :: own)) : H p = some o := f.up2.at0
theorem Fr.at3 {a b c : Addr × HO} (f : Fr H0 H (a :: b :: c :: (p, o) :: own)) : H p = some o := f.up3.at0
theorem Fr.at4 {a b c d : Addr × HO} (f : Fr H0 H (a :: b :: c :: d :: (p, o) :: own)) : H p = some o := (f.sub (List.sublist_cons_self _ _)).at3
theorem Fr.at5 {a b c d e : Addr × HO} (f : Fr H0 H (a :: b :: c :: d :: e :: (p, o) :: own)) : H p = some o := (f.sub (List.sublist_cons_self _ _)).at4
theorem Fr.d0 {a : Addr × HO} (f : Fr H0 H (a :: own)) : Fr H0 H own := f.sub (List.sublist_cons_self _ _)
theorem Fr.d1 {a b : Addr × HO} (f : Fr H0 H (a :: b :: own)) : Fr H0 H (a :: own) := f.up1.d0
theorem Fr.d2 {a b c : Addr × HO} (f : Fr H0 H (a :: b :: c :: own)) : Fr H0 H (a :: b :: own) := f.up2.d0
theorem Fr.d3 {a b c d : Addr × HO} (f : Fr H0 H (a :: b :: c :: d :: own)) : Fr H0 H (a :: b :: c :: own) := f.up3.d0
theorem Fr.wr1 {a : Addr × HO} (f : Fr H0 H (a :: (p, o) :: own)) : Fr H0 (upd H p o') (a :: (p, o') :: own) := f.up1.wr.dn1
theorem Fr.wr2 {a b : Addr × HO} (f : Fr H0 H (a :: b :: (p, o) :: own)) : Fr H0 (upd H p o') (a :: b :: (p, o') :: own) := f.up2.wr.dn2
theorem Fr.wr3 {a b c : Addr × HO} (f : Fr H0 H (a :: b :: c :: (p, o) :: own)) : Fr H0 (upd H p o') (a :: b :: c :: (p, o') :: own) := f.up3.wr.dn3
theorem Fr.cs1 {a : Addr × HO} (f : Fr H0 H (a :: (p, o) :: own)) (e : o = o') : Fr H0 H (a :: (p, o') :: own) := e ▸ f
theorem Fr.cs2 {a b : Addr × HO} (f : Fr H0 H (a :: b :: (p, o) :: own)) (e : o = o') : Fr H0 H (a :: b :: (p, o') :: own) := e ▸ f
theorem Fr.cs3 {a b c : Addr × HO} (f : Fr H0 H (a :: b :: c :: (p, o) :: own)) (e : o = o') : Fr H0 H (a :: b :: c :: (p, o') :: own) := e ▸ f
end

/-! contents -/
theorem app_map {α β : Type} (f : α → β) (xs : List α) (y : α) : xs.map f ++ [f y] = (xs ++ [y]).map f := by simp
theorem set_map' {α β : Type} (f : α → β) (xs : List α) (j : Nat) (y : α) : (xs.map f).set j (f y) = (xs.set j y).map f := by rw [List.map_set]
theorem lst_app {α : Type} (f : α → V) (xs : List α) (y : α) : HO.lst (xs.map f ++ [f y]) = .lst ((xs ++ [y]).map f) := by rw [app_map]
theorem lst_set {α : Type} (f : α → V) (xs : List α) (j : Nat) (y : α) : HO.lst ((xs.map f).set j (f y)) = .lst ((xs.set j y).map f) := by rw [set_map']
theorem lst_rev {α : Type} (f : α → V) (xs : List α) : HO.lst ((xs.map f).reverse) = .lst (xs.reverse.map f) := by rw [List.map_reverse]
theorem lst_cat {α : Type} (f : α → V) (xs ys : List α) : HO.lst (xs.map f ++ ys.map f) = .lst ((xs ++ ys).map f) := by rw [List.map_append]
theorem lst_rep {α : Type} (f : α → V) (xs : List α) (k : Nat) : HO.lst (List.replicate k (xs.map f)).flatten = .lst ((List.replicate k xs).flatten.map f) := by
  rw [List.map_flatten, List.map_replicate]
theorem erase_map' {α β : Type} (f : α → β) : ∀ (xs : List α) (k : Nat), (xs.map f).eraseIdx k = (xs.eraseIdx k).map f
  | [], _ => rfl
  | _ :: _, 0 => rfl
  | x :: xs, k + 1 => by
    show f x :: (xs.map f).eraseIdx k = f x :: (xs.eraseIdx k).map f
    rw [erase_map' f xs k]
theorem lst_erase {α : Type} (f : α → V) (xs : List α) (k : Nat) : HO.lst ((xs.map f).eraseIdx k) = .lst ((xs.eraseIdx k).map f) := by rw [erase_map']
theorem lst_dl {α : Type} (f : α → V) (xs : List α) : HO.lst ((xs.map f).dropLast) = .lst (xs.dropLast.map f) := by rw [List.map_dropLast]
theorem lst_rep1 {α : Type} (f : α → V) (x : α) (k : Nat) : HO.lst (List.replicate k [f x]).flatten = .lst ((List.replicate k x).map f) := by
  rw [List.map_replicate]; congr 1
  induction k with
  | zero => rfl
  | succ k ih => rw [List.replicate_succ, List.flatten_cons, ih]; rfl
/-- a slice with step one -/
def cutL {α : Type} (xs : List α) (lo hi : Option Int) : List α :=
  (xs.drop (HT.sIx xs.length 0 lo)).take (HT.sIx xs.length xs.length hi - HT.sIx xs.length 0 lo)
theorem lst_cut {α : Type} (f : α → V) (xs : List α) (lo hi : Option Int) : HO.lst (cutV (xs.map f) lo hi) = .lst ((cutL xs lo hi).map f) := by
  unfold cutV cutL; rw [List.length_map, List.map_take, List.map_drop]
theorem cutL_length {α : Type} (xs : List α) (lo hi : Option Int) : (cutL xs lo hi).length = min (HT.sIx xs.length xs.length hi - HT.sIx xs.length 0 lo) (xs.length - HT.sIx xs.length 0 lo) := by
  unfold cutL; rw [List.length_take, List.length_drop]
theorem rgV_eq (a b : Int) : rgV a b = ((List.range (b - a).toNat).map fun i : Nat => a + (i : Int)).map V.int := by
  unfold rgV; rw [List.map_map]; rfl
def rangeI (n : Int) : List Int := (List.range n.toNat).map fun i : Nat => (i : Int)
theorem lst_rng (n : Int) : HO.lst (rgV 0 n) = .lst ((rangeI n).map V.int) := by
  rw [rgV_eq]; unfold rangeI; congr 2; simp
theorem atD {α : Type} {f : α → V} {xs : List α} {i : Int} (d : α) (h0 : 0 ≤ i) (h1 : i < (xs.length : Int)) : atI (xs.map f) i = some (f (xs.getD i.toNat d)) := by
  obtain ⟨n, rfl⟩ := Int.eq_ofNat_of_zero_le h0
  have hn : n < xs.length := by omega
  refine atI_nat ?_
  rw [List.getElem?_map, List.getElem?_eq_getElem hn]
  simp [List.getD, hn]
theorem ixD {n : Nat} {i : Int} (h0 : 0 ≤ i) (h1 : i < (n : Int)) : ixN n i = some i.toNat := by
  unfold ixN; rw [if_pos h0, if_pos h1]
theorem atLast {α : Type} {f : α → V} {xs : List α} (d : α) (h : 0 < xs.length) : atI (xs.map f) (-1) = some (f (xs.getLastD d)) := by
  have hne : xs ≠ [] := fun z => by subst z; cases h
  have e : xs.map f = xs.dropLast.map f ++ [f (xs.getLast hne)] := by
    rw [← List.map_singleton, ← List.map_append, List.dropLast_concat_getLast]
  rw [e, atI_last, List.getLastD_eq_getLast?, List.getLast?_eq_some_getLast hne]; rfl
theorem getD_mem {α : Type} {xs : List α} {i : Nat} {d : α} (h : i < xs.length) : xs.getD i d ∈ xs := by
  simp [List.getD, h]

/-! tests -/
theorem iteD {c : Prop} [Decidable c] {A B : Prop} (h1 : c → A) (h2 : ¬ c → B) : if decide c = true then A else B := by
  by_cases h : c
  · rw [if_pos (decide_eq_true h)]; exact h1 h
  · rw [if_neg (by rw [decide_eq_false h]; exact Bool.false_ne_true)]; exact h2 h
theorem iteN {c : Prop} [Decidable c] {A B : Prop} (h1 : ¬ c → A) (h2 : c → B) : if (!decide c) = true then A else B := by
  by_cases h : c
  · rw [if_neg (by rw [decide_eq_true h]; exact Bool.false_ne_true)]; exact h2 h
  · rw [if_pos (by rw [decide_eq_false h]; rfl)]; exact h1 h
theorem iteB {b : Bool} {A B : Prop} (h1 : b = true → A) (h2 : b = false → B) : if b = true then A else B := by
  cases b with
  | true => exact iteT (h1 rfl)
  | false => exact iteF (h2 rfl)
theorem iteBT {b : Bool} {A B : Prop} (h : b = true) (h1 : A) : if b = true then A else B := by subst h; exact iteT h1
theorem iteBF {b : Bool} {A B : Prop} (h : b = false) (h1 : B) : if b = true then A else B := by subst h; exact iteF h1

/-! operators by values, in handy forms -/
section
variable {X : Cx}
theorem op_eqB : OpR X (compareOp .Eq) (fun x y H Q => ∃ a b : Bool, x = .bl a ∧ y = .bl b ∧ Q (.bl (a == b)) H) := by
  intro pins s σ H x y v u Q I rx ry h
  obtain ⟨a, b, rfl, rfl, q⟩ := h
  refine op_eq pins s σ H _ _ v u Q I rx ry ⟨rfl, ?_⟩
  have : decide (V.bl a = V.bl b) = (a == b) := by cases a <;> cases b <;> rfl
  rw [this]; exact q
theorem op_neB : OpR X (compareOp .NotEq) (fun x y H Q => ∃ a b : Bool, x = .bl a ∧ y = .bl b ∧ Q (.bl (a != b)) H) := by
  intro pins s σ H x y v u Q I rx ry h
  obtain ⟨a, b, rfl, rfl, q⟩ := h
  refine op_ne pins s σ H _ _ v u Q I rx ry ⟨rfl, ?_⟩
  have : (!decide (V.bl a = V.bl b)) = (a != b) := by cases a <;> cases b <;> rfl
  rw [this]; exact q
def rLenL (K : PySem.W.Frag) : List V → Hp → VK → Prop := fun xs H Q => ∃ p n ys, xs = [.ref p] ∧ SqL K H p ys ∧ ys.length = n ∧ Q (.int (n : Nat)) H
theorem call_lenL : CallR X (.builtin "len") (rLenL X.K) := by
  intro pins s σ H xs us Q I r h
  obtain ⟨p, n, ys, rfl, hp, rfl, q⟩ := h
  exact call_len_seq pins s σ H _ us Q I r ⟨p, ys, rfl, .inl hp, q⟩
def rLenT (K : PySem.W.Frag) : List V → Hp → VK → Prop := fun xs H Q => ∃ p n ys, xs = [.ref p] ∧ SqT K H p ys ∧ ys.length = n ∧ Q (.int (n : Nat)) H
theorem call_lenT : CallR X (.builtin "len") (rLenT X.K) := by
  intro pins s σ H xs us Q I r h
  obtain ⟨p, n, ys, rfl, hp, rfl, q⟩ := h
  exact call_len_seq pins s σ H _ us Q I r ⟨p, ys, rfl, .inr hp, q⟩
def rListL (K : PySem.W.Frag) : List V → Hp → VK → Prop := fun xs H Q => ∃ p ys, xs = [.ref p] ∧ (SqL K H p ys ∨ SqT K H p ys) ∧ ∀ l, H l = none → Q (.ref l) (upd H l (.lst ys))
theorem call_listL : CallR X (.type "list") (rListL X.K) := call_list_of
theorem call_minI (hc : X.calm = true) : CallR X (.builtin "min") (fun xs H Q => ∃ i j : Int, xs = [.int i, .int j] ∧ Q (.int (min i j)) H) := by
  intro pins s σ H xs us Q I r h
  obtain ⟨i, j, rfl, q⟩ := h
  refine call_min2 hc pins s σ H _ us Q I r ⟨i, j, rfl, ?_⟩
  have : (if j < i then j else i) = min i j := by
    by_cases h : j < i
    · rw [if_pos h]; omega
    · rw [if_neg h]; omega
  rw [this]; exact q
theorem call_maxI (hc : X.calm = true) : CallR X (.builtin "max") (fun xs H Q => ∃ i j : Int, xs = [.int i, .int j] ∧ Q (.int (max i j)) H) := by
  intro pins s σ H xs us Q I r h
  obtain ⟨i, j, rfl, q⟩ := h
  refine call_max2 hc pins s σ H _ us Q I r ⟨i, j, rfl, ?_⟩
  have : (if j > i then j else i) = max i j := by
    by_cases h : j > i
    · rw [if_pos h]; omega
    · rw [if_neg h]; omega
  rw [this]; exact q
theorem call_absI : CallR X (.builtin "abs") (fun xs H Q => ∃ i : Int, xs = [.int i] ∧ Q (.int (i.natAbs : Nat)) H) := by
  intro pins s σ H xs us Q I r h
  obtain ⟨i, rfl, q⟩ := h
  refine call_abs pins s σ H _ us Q I r ⟨i, rfl, ?_⟩
  have : (if i < 0 then -i else i) = (i.natAbs : Int) := by
    by_cases h : i < 0
    · rw [if_pos h]; omega
    · rw [if_neg h]; omega
  rw [this]; exact q
theorem pe_bmK {K : PySem.W.Frag} {e : Expr} {T : String} {r : V → List V → Hp → VK → Prop} {to : TE} {t : TA} (h : PE X e (tBM X.K T r to t)) (hk : X.K = K := by rfl) : PE X e (tBM K T r to t) := by subst hk; exact h
/-- comparisons, told in two ways -/
theorem op_ltS : OpR X (compareOp .Lt) (fun x y H Q => ∃ i j : Int, x = .int i ∧ y = .int j ∧ (i < j → Q (.bl true) H) ∧ (¬ i < j → Q (.bl false) H)) := by
  intro pins s σ H x y v u Q I rx ry h
  obtain ⟨i, j, rfl, rfl, q1, q2⟩ := h
  refine op_lt pins s σ H _ _ v u Q I rx ry ⟨i, j, rfl, rfl, ?_⟩
  show Q (V.bl (decide (i < j))) H
  by_cases h : i < j
  · rw [decide_eq_true h]; exact q1 h
  · rw [decide_eq_false h]; exact q2 h
theorem op_leS : OpR X (compareOp .LtE) (fun x y H Q => ∃ i j : Int, x = .int i ∧ y = .int j ∧ (i ≤ j → Q (.bl true) H) ∧ (¬ i ≤ j → Q (.bl false) H)) := by
  intro pins s σ H x y v u Q I rx ry h
  obtain ⟨i, j, rfl, rfl, q1, q2⟩ := h
  refine op_le pins s σ H _ _ v u Q I rx ry ⟨i, j, rfl, rfl, ?_⟩
  show Q (V.bl (decide (i ≤ j))) H
  by_cases h : i ≤ j
  · rw [decide_eq_true h]; exact q1 h
  · rw [decide_eq_false h]; exact q2 h
theorem op_gtS : OpR X (compareOp .Gt) (fun x y H Q => ∃ i j : Int, x = .int i ∧ y = .int j ∧ (j < i → Q (.bl true) H) ∧ (¬ j < i → Q (.bl false) H)) := by
  intro pins s σ H x y v u Q I rx ry h
  obtain ⟨i, j, rfl, rfl, q1, q2⟩ := h
  refine op_gt pins s σ H _ _ v u Q I rx ry ⟨i, j, rfl, rfl, ?_⟩
  show Q (V.bl (decide (j < i))) H
  by_cases h : j < i
  · rw [decide_eq_true h]; exact q1 h
  · rw [decide_eq_false h]; exact q2 h
theorem op_geS : OpR X (compareOp .GtE) (fun x y H Q => ∃ i j : Int, x = .int i ∧ y = .int j ∧ (j ≤ i → Q (.bl true) H) ∧ (¬ j ≤ i → Q (.bl false) H)) := by
  intro pins s σ H x y v u Q I rx ry h
  obtain ⟨i, j, rfl, rfl, q1, q2⟩ := h
  refine op_ge pins s σ H _ _ v u Q I rx ry ⟨i, j, rfl, rfl, ?_⟩
  show Q (V.bl (decide (j ≤ i))) H
  by_cases h : j ≤ i
  · rw [decide_eq_true h]; exact q1 h
  · rw [decide_eq_false h]; exact q2 h
theorem int_dec {i j : Int} : decide (V.int i = V.int j) = decide (i = j) := by
  by_cases h : i = j
  · subst h; rw [decide_eq_true rfl, decide_eq_true rfl]
  · rw [decide_eq_false h, decide_eq_false fun z => h (V.int.inj z)]
theorem op_eqS : OpR X (compareOp .Eq) (fun x y H Q => ∃ i j : Int, x = .int i ∧ y = .int j ∧ (i = j → Q (.bl true) H) ∧ (¬ i = j → Q (.bl false) H)) := by
  intro pins s σ H x y v u Q I rx ry h
  obtain ⟨i, j, rfl, rfl, q1, q2⟩ := h
  refine op_eq pins s σ H _ _ v u Q I rx ry ⟨rfl, ?_⟩
  rw [int_dec]
  by_cases h : i = j
  · rw [decide_eq_true h]; exact q1 h
  · rw [decide_eq_false h]; exact q2 h
theorem op_neS : OpR X (compareOp .NotEq) (fun x y H Q => ∃ i j : Int, x = .int i ∧ y = .int j ∧ (¬ i = j → Q (.bl true) H) ∧ (i = j → Q (.bl false) H)) := by
  intro pins s σ H x y v u Q I rx ry h
  obtain ⟨i, j, rfl, rfl, q1, q2⟩ := h
  refine op_ne pins s σ H _ _ v u Q I rx ry ⟨rfl, ?_⟩
  rw [int_dec]
  by_cases h : i = j
  · rw [decide_eq_true h]; exact q2 h
  · rw [decide_eq_false h]; exact q1 h
/-- a truth, told in two ways: as a test, as a value -/
def tBS (t : TE) : TT := fun σ H Q => t σ H fun x H1 => ∃ b, x = .bl b ∧ (b = true → Q true H1) ∧ (b = false → Q false H1)
theorem pt_valS {e : Expr} {t : TE} (h : PE X e t) (he : ∀ whole, isTrue e X.env whole = (do let v ← whole; standAt e.pos; holding [v] (truthy v)) := by intro _; rfl) : PT X e (tBS t) := by
  refine ⟨fun pins s σ H Q I hw => ?_⟩
  refine isTrue_plain (thn (h.run pins s σ H _ I hw) fun v s1 ⟨x, H1, I1, r1, q1⟩ => ?_) (he _)
  obtain ⟨d, rfl, q1, q2⟩ := q1
  cases r1
  refine wpAny_truthy_bool ⟨H1, I1, ?_⟩
  cases d with
  | true => exact q1 rfl
  | false => exact q2 rfl
/-- an operator whose answer is a truth, told in two ways -/
theorem opS {f : Value → Value → Sem Value} {r : R2} (h : OpR X f r) : OpR X f (fun x y H Q => r x y H fun z H1 => ∃ b, z = .bl b ∧ (b = true → Q (.bl true) H1) ∧ (b = false → Q (.bl false) H1)) := by
  intro pins s σ H x y v u Q I rx ry q
  refine thn (h pins s σ H x y v u _ I rx ry q) fun w s1 ⟨z, H1, I1, r1, q1⟩ => ?_
  obtain ⟨d, rfl, q1, q2⟩ := q1
  refine ⟨.bl d, H1, I1, r1, ?_⟩
  cases d with
  | true => exact q1 rfl
  | false => exact q2 rfl
/-- and, or, not as values, of truths told in two ways -/
def tSplE (t : TE) : TE := fun σ H Q => t σ H fun x H1 => ∃ b, x = .bl b ∧ (b = true → Q (.bl true) H1) ∧ (b = false → Q (.bl false) H1)
theorem pe_splS {e : Expr} {t : TE} (h : PE X e t) : PE X e (tSplE t) := by
  refine ⟨fun pins s σ H Q I hw => thn (h.run pins s σ H _ I hw) fun v s1 ⟨x, H1, I1, r1, q1⟩ => ?_⟩
  obtain ⟨d, rfl, q1, q2⟩ := q1
  refine ⟨.bl d, H1, I1, r1, ?_⟩
  cases d with
  | true => exact q1 rfl
  | false => exact q2 rfl
/-- a power of written numbers, told as a number -/
theorem op_powL : OpR X (binaryOp .Pow) (fun x y H Q => ∃ i j k : Int, x = .int i ∧ y = .int j ∧ CPow i j ∧ i ^ j.toNat = k ∧ Q (.int k) H) := by
  intro pins s σ H x y v u Q I rx ry h
  obtain ⟨i, j, k, rfl, rfl, hc, rfl, q⟩ := h
  exact op_pow pins s σ H _ _ v u Q I rx ry ⟨i, j, rfl, rfl, hc, q⟩
/-- xs[i], read for an augmented store -/
theorem get_list : PGet X (rIxL X.K) := by
  intro pins s σ H o i ov iv Q I ro ri h
  obtain ⟨p, xs, k, z, rfl, rfl, hq, he, q⟩ := h
  cases ro
  obtain ⟨tk, rfl⟩ := ri
  obtain ⟨its, vr, pl, hz⟩ := I.list hq
  obtain ⟨j, h1, h2, h3, h4, h5⟩ := atI_get he
  obtain ⟨w, ew, rw'⟩ := vr.get h2
  have hl := vr.length
  have hn := line63
  have fin : EP X pins σ Q w s := ⟨z, H, I, rw', q⟩
  by_cases h0 : 0 ≤ k
  · have hj : k.toNat = j := by
      rw [seqIndex_of h0 h5] at h1; exact Option.some.inj h1
    exact wpAny_mono (wpAny_getItem_list (Q := fun r s' => r = w ∧ EP X pins σ Q r s') pl.isList h0 (by omega) (by rw [hj]; simpa using ew) ⟨rfl, fin⟩) (fun _ _ z => z.2) fun _ _ z => z
  · have hj : (k + (its.toArray.size : Int)).toNat = j := by
      rw [seqIndex_neg (by omega) h4] at h1
      rw [List.size_toArray, ← hl]; exact Option.some.inj h1
    exact wpAny_mono (wpAny_getItem_list_neg (Q := fun r s' => r = w ∧ EP X pins σ Q r s') pl.isList (by omega) (by rw [List.size_toArray] <;> omega) (by omega) (by rw [hj]; simpa using ew) ⟨rfl, fin⟩) (fun _ _ z => z.2) fun _ _ z => z
end
end Rc
namespace Rc
open PySem PySem.Spec PyProof.Rows L2

section
variable {H0 H H' : Hp} {own : List (Addr × HO)} {p : Addr} {o : HO}
theorem Fr.n0 (f : Fr H0 H ((p, o) :: own)) : H0 p = none := (f.frs _ List.mem_cons_self).1
theorem Fr.n1 {a : Addr × HO} (f : Fr H0 H (a :: (p, o) :: own)) : H0 p = none := f.up1.n0
theorem Fr.n2 {a b : Addr × HO} (f : Fr H0 H (a :: b :: (p, o) :: own)) : H0 p = none := f.up2.n0
end
/-- the k-th of what is own -/
theorem getElem?_perm {α : Type} : ∀ {l : List α} {k : Nat} {x : α}, l[k]? = some x → l.Perm (x :: l.eraseIdx k)
  | [], _, _, h => by simp at h
  | y :: l, 0, x, h => by cases (Option.some.inj h); exact List.Perm.refl _
  | y :: l, k + 1, x, h => ((getElem?_perm (l := l) (k := k) h).cons y).trans (List.Perm.swap _ _ _)
section
variable {H0 H H' : Hp} {own : List (Addr × HO)} {p : Addr} {o o' : HO}
theorem Fr.atk (f : Fr H0 H own) (k : Nat) (h : own[k]? = some (p, o)) : H p = some o := f.mem (List.mem_of_getElem? h)
theorem Fr.upk {x : Addr × HO} (f : Fr H0 H own) (k : Nat) (h : own[k]? = some x) : Fr H0 H (x :: own.eraseIdx k) := f.perm (getElem?_perm h)
theorem Fr.dk (f : Fr H0 H own) (k : Nat) : Fr H0 H (own.eraseIdx k) := f.sub (List.eraseIdx_sublist _ _)
theorem set_perm {α : Type} : ∀ {l : List α} {k : Nat} {x y : α}, l[k]? = some x → (y :: l.eraseIdx k).Perm (l.set k y)
  | [], _, _, _, h => by simp at h
  | z :: l, 0, x, y, h => List.Perm.refl _
  | z :: l, k + 1, x, y, h => (List.Perm.swap _ _ _).trans ((set_perm (l := l) (k := k) (y := y) h).cons z)
theorem Fr.wrk {o'' : HO} (f : Fr H0 H own) (k : Nat) (h : own[k]? = some (p, o)) (e : o' = o'') : Fr H0 (upd H p o') (own.set k (p, o'')) := by
  subst e
  exact ((f.upk k h).wr (o' := o')).perm (set_perm h)
end
theorem ndT {c : Prop} [Decidable c] (h : ¬ c) : (!decide c) = true := by rw [decide_eq_false h]; rfl
theorem ndF {c : Prop} [Decidable c] (h : c) : (!decide c) = false := by rw [decide_eq_true h]; rfl
theorem of_nd {c : Prop} [Decidable c] (h : (!decide c) = false) : c := by
  by_cases z : c
  · exact z
  · rw [decide_eq_false z] at h; cases h
theorem not_of_nd {c : Prop} [Decidable c] (h : (!decide c) = true) : ¬ c := fun z => by rw [decide_eq_true z] at h; cases h
theorem bnotT {b : Bool} (h : (!b) = true) : b = false := by cases b with | true => cases h | false => rfl
theorem bnotF {b : Bool} (h : (!b) = false) : b = true := by cases b with | true => rfl | false => cases h
theorem iteBN {b : Bool} {A B : Prop} (h1 : b = false → A) (h2 : b = true → B) : if (!b) = true then A else B := by
  cases b with
  | false => exact iteT (h1 rfl)
  | true => exact iteF (h2 rfl)
theorem hu64 {A : Around} {k : Nat} (hr : Room k A) : A.units + 64 < cLine := by have := hr.un; omega

/-! what is walked, with typed contents -/
section
variable {α β : Type} {K : PySem.W.Frag} {a b : Addr}
theorem walkR {n : Nat} : Walk (Itr 0 n) n (fun _ => True) (fun i H x H' => H' = H ∧ x = .int (i : Nat)) :=
  walk_range.mono (fun _ h => h) fun i H x H' _ _ y => ⟨y.1, by rw [y.2]; exact congrArg V.int (Int.zero_add _)⟩
theorem walkL (f : α → V) (ns : List α) : Walk (Itl K a) ns.length (fun H => H a = some (.lst (ns.map f))) (fun i H x H' => H' = H ∧ ∃ y, ns[i]? = some y ∧ x = f y) := by
  have w := walk_list (K := K) (a := a) (xs := ns.map f)
  rw [List.length_map] at w
  refine w.mono (fun H h => SqL.of h) fun i H x H' _ _ y => ⟨y.1, ?_⟩
  have e := y.2
  rw [List.getElem?_map] at e
  cases h : ns[i]? with
  | none => rw [h] at e; cases e
  | some z => rw [h] at e; exact ⟨z, rfl, (Option.some.inj e).symm⟩
theorem walkV (ns : List V) : Walk (Itl K a) ns.length (fun H => H a = some (.lst ns)) (fun i H x H' => H' = H ∧ ns[i]? = some x) :=
  walk_list.mono (fun H h => SqL.of h) fun i H x H' _ _ y => y
theorem walkRv (f : α → V) (ns : List α) : Walk (Itv K a (ns.map f).length) ns.length (fun H => H a = some (.lst (ns.map f))) (fun i H x H' => H' = H ∧ ∃ y, ns[ns.length - 1 - i]? = some y ∧ x = f y) := by
  have w := walk_rev (K := K) (a := a) (xs := ns.map f)
  rw [List.length_map] at w ⊢
  refine w.mono (fun H h => SqL.of h) fun i H x H' _ _ y => ⟨y.1, ?_⟩
  have e := y.2
  rw [List.getElem?_map] at e
  cases h : ns[ns.length - 1 - i]? with
  | none => rw [h] at e; cases e
  | some z => rw [h] at e; exact ⟨z, rfl, (Option.some.inj e).symm⟩
theorem walkE (f : α → V) (ns : List α) : Walk (Ite K a) ns.length (fun H => H a = some (.lst (ns.map f)))
    (fun i H x H' => ∃ T y, x = .ref T ∧ H T = none ∧ H' = upd H T (.tup [.int (i : Nat), f y]) ∧ ns[i]? = some y) := by
  have w := walk_enum (K := K) (a := a) (xs := ns.map f)
  rw [List.length_map] at w
  refine w.mono (fun H h => SqL.of h) fun i H x H' _ _ y => ?_
  obtain ⟨T, u, v, h1, h2, h3, h4, h5⟩ := y
  cases h4
  replace h5 : (ns.map f)[i]? = some v := h5
  rw [List.getElem?_map] at h5
  cases h : ns[i]? with
  | none => rw [h] at h5; cases h5
  | some z => rw [h] at h5; cases (Option.some.inj h5); exact ⟨T, z, h1, h2, h3, rfl⟩
theorem walkZ (f : α → V) (g : β → V) (ns : List α) (ms : List β) : Walk (Itz K a b) (min ns.length ms.length) (fun H => H a = some (.lst (ns.map f)) ∧ H b = some (.lst (ms.map g)))
    (fun i H x H' => ∃ T y z, x = .ref T ∧ H T = none ∧ H' = upd H T (.tup [f y, g z]) ∧ ns[i]? = some y ∧ ms[i]? = some z) := by
  have w := walk_zip (K := K) (a := a) (b := b) (xs := ns.map f) (ys := ms.map g) (n := min ns.length ms.length) (by rw [List.length_map, List.length_map])
  refine w.mono (fun H h => ⟨SqL.of h.1, SqL.of h.2⟩) fun i H x H' _ _ y => ?_
  obtain ⟨T, u, v, h1, h2, h3, h4, h5⟩ := y
  replace h4 : (ns.map f)[i]? = some u := h4
  replace h5 : (ms.map g)[i]? = some v := h5
  rw [List.getElem?_map] at h4 h5
  cases h : ns[i]? with
  | none => rw [h] at h4; cases h4
  | some z =>
    cases h' : ms[i]? with
    | none => rw [h'] at h5; cases h5
    | some z' =>
      rw [h] at h4; rw [h'] at h5
      cases (Option.some.inj h4); cases (Option.some.inj h5)
      exact ⟨T, z, z', h1, h2, h3, rfl, rfl⟩
end

theorem map_c {α : Type} (xs : List α) (c : Int) : xs.map (fun _ => c) = List.replicate xs.length c := by
  induction xs with
  | nil => rfl
  | cons x xs ih => rw [List.map_cons, ih]; rfl
/-! comprehensions: one turn -/
section
variable {α β : Type} {enc : β → V} {f : α → β} {ns : List α} {i : Nat} {y : α}
theorem take_next (h : ns[i]? = some y) : ns.take (i + 1) = ns.take i ++ [y] := by rw [List.take_add_one, h]; rfl
theorem lc_l (h : ns[i]? = some y) : HO.lst ((((ns.take i).map f).map enc) ++ [enc (f y)]) = .lst (((ns.take (i + 1)).map f).map enc) := by
  rw [take_next h, List.map_append, List.map_append]; rfl
theorem lc_l_t {p : α → Bool} (h : ns[i]? = some y) (hp : p y = true) : HO.lst (((((ns.take i).filter p).map f).map enc) ++ [enc (f y)]) = .lst ((((ns.take (i + 1)).filter p).map f).map enc) := by
  rw [take_next h, List.filter_append, List.map_append, List.map_append, List.filter_cons_of_pos hp]; rfl
theorem lc_l_f {p : α → Bool} (h : ns[i]? = some y) (hp : p y = false) : HO.lst ((((ns.take i).filter p).map f).map enc) = .lst ((((ns.take (i + 1)).filter p).map f).map enc) := by
  rw [take_next h, List.filter_append, List.filter_cons_of_neg (by rw [hp]; exact Bool.false_ne_true)]; simp
theorem lc_r (f : Nat → β) (i : Nat) : HO.lst ((((List.range i).map f).map enc) ++ [enc (f i)]) = .lst (((List.range (i + 1)).map f).map enc) := by
  rw [List.range_succ, List.map_append, List.map_append]; rfl
theorem lc_r_t {f : Nat → β} {p : Nat → Bool} (hp : p i = true) : HO.lst (((((List.range i).filter p).map f).map enc) ++ [enc (f i)]) = .lst ((((List.range (i + 1)).filter p).map f).map enc) := by
  rw [List.range_succ, List.filter_append, List.map_append, List.map_append, List.filter_cons_of_pos hp]; rfl
theorem lc_r_f {f : Nat → β} {p : Nat → Bool} (hp : p i = false) : HO.lst ((((List.range i).filter p).map f).map enc) = .lst ((((List.range (i + 1)).filter p).map f).map enc) := by
  rw [List.range_succ, List.filter_append, List.filter_cons_of_neg (by rw [hp]; exact Bool.false_ne_true)]; simp
end

/-! whiles by a measure -/
theorem while_m {c : TT} {tb : TS} {D : Ends} {σ : L2.St} {H : Hp} (W : Nat → L2.St → Hp → Prop) (h0 : ∃ m, W m σ H)
    (hs : ∀ m σ H, W m σ H → c σ H fun b H1 => if b = true then ∃ N : L2.St → Hp → Prop, (∀ σ' H', N σ' H' → ∃ m', m' < m ∧ W m' σ' H') ∧ tb { D with nx := N, ct := N, bk := D.nx } σ H1 else D.nx σ H1) : tWhile c tb D σ H := ⟨W, h0, hs⟩

/-! pop(i) -/
theorem popix {n : Nat} {i : Int} (h0 : 0 ≤ i) (h1 : i < (n : Int)) {α β : Type} {f : α → β} {xs : List α} (hn : n = xs.length := by rfl) : seqIndex? i (xs.map f).length = some i.toNat := by
  subst hn; rw [List.length_map]; exact seqIndex_of h0 h1
theorem popat {α : Type} {f : α → V} {xs : List α} {k : Nat} (d : α) (h : k < xs.length) : (xs.map f)[k]? = some (f (xs.getD k d)) := by
  rw [List.getElem?_map, List.getElem?_eq_getElem h]; simp [List.getD, h]
theorem ixDm {α β : Type} {f : α → β} {xs : List α} {i : Int} (h0 : 0 ≤ i) (h1 : i < (xs.length : Int)) : ixN (xs.map f).length i = some i.toNat := by
  rw [List.length_map]; exact ixD h0 h1
theorem atV {xs : List V} {i : Int} (d : V) (h0 : 0 ≤ i) (h1 : i < (xs.length : Int)) : atI xs i = some (xs.getD i.toNat d) := by
  have := atD (f := fun v : V => v) d h0 h1
  rwa [List.map_id'] at this

/-! deep data -/
def dI (xs : List Int) : PyData := .list (xs.map PyData.int)
def dB (xs : List Bool) : PyData := .list (xs.map PyData.bool)
section
variable {K : PySem.W.Frag} {H : Hp} {a : Addr}
theorem dpAll {α : Type} {f : α → V} {g : α → PyData} (h : ∀ x, Dp K H (f x) (g x)) : ∀ xs : List α, DpAll K H (xs.map f) (xs.map g)
  | [] => .nil
  | x :: xs => .cons (h x) (dpAll h xs)
/-- a list, its depth by its items -/
theorem dp_ints {xs : List Int} (h : H a = some (.lst (xs.map V.int))) : Dp K H (.ref a) (dI xs) := .lst (SqL.of h) (dpAll (fun _ => .int _) xs)
theorem dp_bls {xs : List Bool} (h : H a = some (.lst (xs.map V.bl))) : Dp K H (.ref a) (dB xs) := .lst (SqL.of h) (dpAll (fun _ => .bl _) xs)
end
theorem canAll {α : Type} {g : α → PyData} (h : ∀ x, (g x).canLay0 = true) : ∀ xs : List α, PyData.canLayAll0 (xs.map g) = true
  | [] => rfl
  | x :: xs => by
    show ((g x).canLay0 && PyData.canLayAll0 (xs.map g)) = true
    rw [h x, canAll h xs]; rfl
theorem depthAll {α : Type} {g : α → PyData} {n : Nat} (h : ∀ x, (g x).depth ≤ n) : ∀ xs : List α, PyData.depthAll (xs.map g) ≤ n
  | [] => Nat.zero_le _
  | x :: xs => by
    show max (g x).depth (PyData.depthAll (xs.map g)) ≤ n
    have h1 := h x
    have h2 := depthAll h xs
    omega
/-- data of a depth of at most n, without texts -/
structure Okd (n : Nat) (d : PyData) : Prop where
  can : d.canLay0 = true
  dep : d.depth ≤ n
theorem Okd.sh {d : PyData} (h : Okd 9 d) : SeqAt.shaped d = true := by
  unfold SeqAt.shaped; rw [h.can, decide_eq_true (by have := h.dep; omega)]; rfl
theorem Okd.cn {d : PyData} (h : Okd 9 d) : d.canLay0 = true := h.can
section
variable {n : Nat}
theorem okd_ints (xs : List Int) : Okd (n + 1) (dI xs) := ⟨canAll (fun _ => rfl) xs, Nat.succ_le_succ (Nat.le_trans (depthAll (n := 0) (fun _ => Nat.le_refl _) xs) (Nat.zero_le _))⟩
theorem okd_bls (xs : List Bool) : Okd (n + 1) (dB xs) := ⟨canAll (fun _ => rfl) xs, Nat.succ_le_succ (Nat.le_trans (depthAll (n := 0) (fun _ => Nat.le_refl _) xs) (Nat.zero_le _))⟩
theorem okd_int {i : Int} : Okd n (.int i) := ⟨rfl, Nat.zero_le _⟩
theorem okd_bl {b : Bool} : Okd n (.bool b) := ⟨rfl, Nat.zero_le _⟩
theorem okd_non : Okd n .none := ⟨rfl, Nat.zero_le _⟩
theorem okl_nil : Okd (n + 1) (.list []) := ⟨rfl, Nat.succ_le_succ (Nat.zero_le _)⟩
theorem okl_cons {d : PyData} {ds : List PyData} (h : Okd n d) (h' : Okd (n + 1) (.list ds)) : Okd (n + 1) (.list (d :: ds)) := by
  obtain ⟨c, p⟩ := h; obtain ⟨c', p'⟩ := h'
  have e1 : PyData.canLayAll0 ds = true := c'
  have e2 : PyData.depthAll ds + 1 ≤ n + 1 := p'
  refine ⟨?_, ?_⟩
  · show (d.canLay0 && PyData.canLayAll0 ds) = true
    rw [c, e1]; rfl
  · show max d.depth (PyData.depthAll ds) + 1 ≤ n + 1
    omega
theorem okt_nil : Okd (n + 1) (.tuple []) := ⟨rfl, Nat.succ_le_succ (Nat.zero_le _)⟩
theorem okt_cons {d : PyData} {ds : List PyData} (h : Okd n d) (h' : Okd (n + 1) (.tuple ds)) : Okd (n + 1) (.tuple (d :: ds)) := by
  have q := okl_cons h (show Okd (n + 1) (.list ds) from ⟨h'.can, h'.dep⟩)
  exact ⟨q.can, q.dep⟩
end
section
variable {X : Cx}
/-- == of deep data, the answer told -/
def rEqX (K : PySem.W.Frag) : R2 := fun x y H Q => ∃ (d e : PyData) (b : Bool), Dp K H x d ∧ Dp K H y e ∧ SeqAt.shaped d = true ∧ SeqAt.shaped e = true ∧ PyData.eqv d e = b ∧ Q (.bl b) H
def rNeX (K : PySem.W.Frag) : R2 := fun x y H Q => ∃ (d e : PyData) (b : Bool), Dp K H x d ∧ Dp K H y e ∧ SeqAt.shaped d = true ∧ SeqAt.shaped e = true ∧ PyData.eqv d e = b ∧ Q (.bl (!b)) H
theorem op_eqX (hu : X.A.units + 64 < cLine) : OpR X (compareOp .Eq) (rEqX X.K) := by
  intro pins s σ H x y v u Q I rx ry h
  obtain ⟨d, e, b, h1, h2, h3, h4, rfl, q⟩ := h
  exact op_eqD hu pins s σ H x y v u Q I rx ry ⟨d, e, h1, h2, h3, h4, q⟩
theorem op_neX (hu : X.A.units + 64 < cLine) : OpR X (compareOp .NotEq) (rNeX X.K) := by
  intro pins s σ H x y v u Q I rx ry h
  obtain ⟨d, e, b, h1, h2, h3, h4, rfl, q⟩ := h
  exact op_neD hu pins s σ H x y v u Q I rx ry ⟨d, e, h1, h2, h3, h4, q⟩
end
/-- range(0, m, c), c from 1 on -/
theorem rgc_up {m c : Int} {n : Nat} (h0 : -(2 ^ 40) ≤ m) (h1 : m < 2 ^ 40) (hc : 0 < c) (hc' : c < 100000000) (hn : (n : Int) = if 0 < m then (m - 1) / c + 1 else 0) : RgC 0 m c n := by
  have hs : Builtin.Range.rangeSize 0 m c = n := by
    unfold Builtin.Range.rangeSize
    rw [if_pos (by omega), hn, Int.sub_zero]
  refine ⟨by omega, by omega, ?_, hs⟩
  have e2 : 0 < m → 0 ≤ (m - 1) / c := fun h => Int.ediv_nonneg (by omega) (by omega)
  have e3 : 0 < m → (m - 1) / c ≤ m - 1 := fun h => Int.ediv_le_self _ (by omega)
  unfold Builtin.Range.small
  rw [hs, hn]
  generalize (m - 1) / c = q at *
  simp only [Builtin.Range.rangeFitsLong, Bool.and_eq_true, Bool.or_eq_true, decide_eq_true_eq, beq_iff_eq]
  split
  · rename_i hm
    have := e2 hm
    have := e3 hm
    refine ⟨by omega, .inr ?_⟩
    rw [Bool.and_eq_true, decide_eq_true_eq, decide_eq_true_eq]
    omega
  · refine ⟨by omega, .inl rfl⟩
/-- .. with a step of two -/
theorem rgc2 {m : Int} (h0 : 0 ≤ m) (h1 : m < 2 ^ 40) : RgC 0 m 2 (Int.toNat ((m + 1) / 2)) := by
  refine rgc_up (by omega) h1 (by decide) (by decide) ?_
  split <;> omega
theorem rgc3 {m : Int} (h0 : 0 ≤ m) (h1 : m < 2 ^ 40) : RgC 0 m 3 (Int.toNat ((m + 2) / 3)) := by
  refine rgc_up (by omega) h1 (by decide) (by decide) ?_
  split <;> omega
theorem rgc4 {m : Int} (h0 : 0 ≤ m) (h1 : m < 2 ^ 40) : RgC 0 m 4 (Int.toNat ((m + 3) / 4)) := by
  refine rgc_up (by omega) h1 (by decide) (by decide) ?_
  split <;> omega
theorem rgc5 {m : Int} (h0 : 0 ≤ m) (h1 : m < 2 ^ 40) : RgC 0 m 5 (Int.toNat ((m + 4) / 5)) := by
  refine rgc_up (by omega) h1 (by decide) (by decide) ?_
  split <;> omega
theorem eqvAll_map {α : Type} [DecidableEq α] {g : α → PyData} (h : ∀ x y, PyData.eqv (g x) (g y) = decide (x = y)) : ∀ xs ys : List α, PyData.eqvAll (xs.map g) (ys.map g) = decide (xs = ys)
  | [], [] => rfl
  | [], _ :: _ => rfl
  | _ :: _, [] => rfl
  | x :: xs, y :: ys => by
    show (PyData.eqv (g x) (g y) && PyData.eqvAll (xs.map g) (ys.map g)) = _
    rw [h, eqvAll_map h xs ys]
    by_cases e : x = y
    · subst e
      by_cases e' : xs = ys
      · subst e'; simp
      · simp [e']
    · simp [e]
theorem eqv_ints (xs ys : List Int) : PyData.eqv (dI xs) (dI ys) = decide (xs = ys) :=
  eqvAll_map (fun x y => by show (x == y) = _; exact Bool.beq_eq_decide_eq x y) xs ys
theorem eqv_bls (xs ys : List Bool) : PyData.eqv (dB xs) (dB ys) = decide (xs = ys) :=
  eqvAll_map (fun x y => by show (x == y) = _; cases x <;> cases y <;> rfl) xs ys

/-! list.index of an int that is there -/
theorem flat_ints : ∀ xs : List Int, (xs.map V.int).all flatV = true
  | [] => rfl
  | _ :: xs => flat_ints xs
theorem ix_get {xs : List Int} {y : Int} (h : y ∈ xs) : (xs.map V.int)[xs.idxOf y]? = some (V.int y) := by
  rw [List.getElem?_map, List.getElem?_eq_getElem (List.idxOf_lt_length_of_mem h), List.getElem_idxOf]; rfl
theorem ix_eqv {y : Int} : eqV (V.int y) (V.int y) = true := by show (y == y) = true; exact beq_self_eq_true y
theorem ix_first (xs : List Int) (y : Int) : ∀ (m : Nat) (z : V), m < xs.idxOf y → (xs.map V.int)[m]? = some z → eqV z (V.int y) = false := fun m z hm e => by
  rw [List.getElem?_map] at e
  cases h : xs[m]? with
  | none => rw [h] at e; cases e
  | some w =>
    rw [h] at e; cases (Option.some.inj e)
    show (w == y) = false
    have hl := (List.getElem?_eq_some_iff.mp h)
    obtain ⟨hl, rfl⟩ := hl
    have := List.not_of_lt_findIdx (p := (· == y)) (xs := xs) (i := m) hm
    simpa using this

/-! isinstance of any scalar -/
def is_int : V → Bool
  | .int _ => true
  | .bl _ => true
  | _ => false
def is_bool : V → Bool
  | .bl _ => true
  | _ => false
/-- the scalars -/
def sca : V → Bool
  | .non => true
  | .bl _ => true
  | .int _ => true
  | .str z => PyData.strOk z
  | _ => false
def tyName : V → String
  | .non => "NoneType"
  | .bl _ => "bool"
  | .int _ => "int"
  | _ => "str"
theorem tyx_val {K : PySem.W.Frag} {H : Hp} {x : V} (h : sca x = true) : TyX K H x (.type (tyName x)) := by
  cases x with
  | non => exact .base .non
  | bl b => exact .base (.bl b)
  | int i => exact .base (.int i)
  | str z => exact .base (.str z)
  | byt _ => cases h
  | flt _ => cases h
  | ref _ => cases h
  | ty _ => cases h
theorem kit_int {K : PySem.W.Frag} {x : V} (h : sca x = true) : PySem.W.kitOne K (.type (tyName x)) (.type "int") = some (is_int x) := by
  cases x with
  | non => exact kit_ty (show kitB "NoneType" "int" = some false by decide +kernel)
  | bl b => exact kit_ty (show kitB "bool" "int" = some true by decide +kernel)
  | int i => exact kit_ty (show kitB "int" "int" = some true by decide +kernel)
  | str z => exact kit_ty (show kitB "str" "int" = some false by decide +kernel)
  | byt _ => cases h
  | flt _ => cases h
  | ref _ => cases h
  | ty _ => cases h
theorem kit_bool {K : PySem.W.Frag} {x : V} (h : sca x = true) : PySem.W.kitOne K (.type (tyName x)) (.type "bool") = some (is_bool x) := by
  cases x with
  | non => exact kit_ty (show kitB "NoneType" "bool" = some false by decide +kernel)
  | bl b => exact kit_ty (show kitB "bool" "bool" = some true by decide +kernel)
  | int i => exact kit_ty (show kitB "int" "bool" = some false by decide +kernel)
  | str z => exact kit_ty (show kitB "str" "bool" = some false by decide +kernel)
  | byt _ => cases h
  | flt _ => cases h
  | ref _ => cases h
  | ty _ => cases h
/-! lists of scalars -/
def toD : V → PyData
  | .bl b => .bool b
  | .int i => .int i
  | .str z => .str z
  | _ => .none
def dV (xs : List V) : PyData := .list (xs.map toD)
def Sca (xs : List V) : Prop := ∀ v ∈ xs, sca v = true
theorem Sca.nil : Sca [] := fun _ h => nomatch h
theorem Sca.cons {x : V} {xs : List V} (h : sca x = true) (hs : Sca xs) : Sca (x :: xs) := fun v hv => by
  rcases List.mem_cons.mp hv with rfl | hv
  · exact h
  · exact hs v hv
theorem Sca.app {xs ys : List V} (h : Sca xs) (h' : Sca ys) : Sca (xs ++ ys) := fun v hv => by
  rcases List.mem_append.mp hv with hv | hv
  · exact h v hv
  · exact h' v hv
theorem Sca.ints (xs : List Int) : Sca (xs.map V.int) := fun v hv => by
  obtain ⟨x, _, rfl⟩ := List.mem_map.mp hv; rfl
theorem Sca.bls (xs : List Bool) : Sca (xs.map V.bl) := fun v hv => by
  obtain ⟨x, _, rfl⟩ := List.mem_map.mp hv; rfl
theorem Sca.getD {xs : List V} (h : Sca xs) {i : Nat} {d : V} (hi : i < xs.length) : sca (xs.getD i d) = true := h _ (getD_mem hi)
theorem dp_val {K : PySem.W.Frag} {H : Hp} {v : V} (h : sca v = true) : Dp K H v (toD v) := by
  cases v with
  | non => exact .non
  | bl b => exact .bl b
  | int i => exact .int i
  | str z => exact .str z
  | byt _ => cases h
  | flt _ => cases h
  | ref _ => cases h
  | ty _ => cases h
theorem dp_valAll {K : PySem.W.Frag} {H : Hp} : ∀ {xs : List V}, Sca xs → DpAll K H xs (xs.map toD)
  | [], _ => .nil
  | x :: xs, h => .cons (dp_val (h x List.mem_cons_self)) (dp_valAll fun v hv => h v (List.mem_cons_of_mem _ hv))
theorem dp_vals {K : PySem.W.Frag} {H : Hp} {a : Addr} {xs : List V} (h : H a = some (.lst xs)) (hs : Sca xs) : Dp K H (.ref a) (dV xs) := .lst (SqL.of h) (dp_valAll hs)
theorem can_val {v : V} (h : sca v = true) : (toD v).canLay0 = true := by
  cases v with
  | str z => exact h
  | _ => rfl
theorem okd_val {n : Nat} {v : V} (h : sca v = true) : Okd n (toD v) := ⟨can_val h, by cases v <;> exact Nat.zero_le _⟩
theorem okd_vals {n : Nat} {xs : List V} (hs : Sca xs) : Okd (n + 1) (dV xs) := by
  refine ⟨?_, ?_⟩
  · show PyData.canLayAll0 (xs.map toD) = true
    induction xs with
    | nil => rfl
    | cons x xs ih =>
      show ((toD x).canLay0 && PyData.canLayAll0 (xs.map toD)) = true
      rw [can_val (hs x List.mem_cons_self), ih fun v hv => hs v (List.mem_cons_of_mem _ hv)]; rfl
  · exact Nat.succ_le_succ (Nat.le_trans (depthAll (n := 0) (fun v => by cases v <;> exact Nat.zero_le _) xs) (Nat.zero_le _))
end Rc
namespace Rc
open PySem PySem.Spec PyProof.Rows L2 RT
section
variable {prog : Program} {w : World} {A : Around} {E : Value → Shared → Prop} {s : Shared}
abbrev nilO (c : Nat) : Obj := { cls := .type "list", data := .seq #[] c }
/-- list.extend with a list's reversed iterator, into a new list at S -/
theorem rev_extend {it l S : Addr} {items : Array Value} {R : Result → Shared → Prop} {res : Value} {c0 : Nat} (hh : A.handled = none) (hit : s.heap.IsRevIter it l ((items.size : Int) - 1)) (hl : s.heap.IsList l items) (hne : l ≠ it)
    (hSi : S ≠ it) (hSl : S ≠ l) (hS : s.heap.get? S = some (nilO c0)) (hn : items.size ≤ sizeLine)
    (hR : ∀ h' tk acc c', (∀ b o, b ≠ S → b ≠ it → s.heap.get? b = some o → h'.get? b = some o) → h'.get? S = some { cls := .type "list", dict := none, data := .seq acc c', slots := #[] } →
      ItemsOf (fun i v => items[items.size - 1 - i]? = some v) acc items.size → R (.ok (.ret res)) { s with heap := h', toks := tk }) :
    wpAny (model prog w) A.in1 (Builtin.List.listExtendWith (.ref S) (.ref it) res)
      (fun fin z => match fin with | .done f => R (.ok f) z | .again c => c.quiet = true ∧ codeAny (model prog w) A c R z) (fun e z => R (.error e) z) s := by
  have W := (Walks.listRev (prog := prog) (w := w) (A := A.in1) hh it l hne items).toS
  have hf : S ∉ [it, l] := fun z => by
    rcases List.mem_cons.mp z with z | z
    · exact hSi z
    · exact hSl (List.mem_singleton.mp z)
  have ty : s.TypeIs (.ref it) "list_reverseiterator" := hit.typeIs
  have h1 : Builtin.List.listSameRef (.ref S) (.ref it) = false := by simp [Builtin.List.listSameRef, hSi]
  have h2 : (Value.type "list_reverseiterator" == Value.type "list") = false := by decide
  have h3 : (Value.type "list_reverseiterator" == Value.type "tuple") = false := by decide
  unfold Builtin.List.listExtendWith
  refine wpAny_bind (wpAny_typeOf ty ?_)
  simp only [h1, h2, h3, Bool.or_false, Bool.false_eq_true, if_false]
  refine wpAny_bind (wpAny_pyIter_revIter hit ?_)
  refine wpAny_bind (wpAny_holding ?_); unfold Builtin.List.listLengthHint
  refine wpAny_bind (wpAny_specialOf ty nolen_lri ?_)
  show wpAny _ A.in1 (specialOf (Value.ref it) (Str.ofString "__length_hint__") >>= _) _ _ _
  refine wpAny_bind (wpAny_specialOf ty hint_lri ?_)
  generalize hid : ("list_reverseiterator.__length_hint__" : String) = id0
  wp_delta
  rw [show splitId id0 = some ("list_reverseiterator", "__length_hint__") from by subst hid; decide +kernel]
  subst hid
  refine wpAny_bind (wpAny_isInstance (b := true) ty (by rw [isSubtype_type]; kernel_rfl) ?_)
  refine wpAny_pure ?_; rw [if_neg (by decide)]
  have e0 : ((items.size : Nat) : Int) - 1 - ((0 : Nat) : Int) = (items.size : Int) - 1 := by omega
  refine wpAny_pure ⟨plainId_quiet F.plain_extend_loop _, codeAny_extend_loopS W hn _ hf _ items.size 0 _ _ _ rfl (Nat.zero_le _) ⟨Nat.zero_le _, by rw [e0]; exact hit, hl⟩ hS (ItemsOf.nil _) fun z acc c' hm hz hacc => ?_⟩
  rw [Moved.eq_with hm]
  refine hR z.heap z.toks acc c' (fun b o h1 h2 e => hm.heap b o (fun hmem => ?_) e) hz hacc
  rcases List.mem_cons.mp hmem with q | q
  · exact h1 q
  · exact h2 (List.mem_singleton.mp q)
theorem call_list_rev {it l : Addr} {items : Array Value} {Q : Value → Shared → Prop} (hh : A.handled = none) (hit : s.heap.IsRevIter it l ((items.size : Int) - 1)) (hl : s.heap.IsList l items) (hne : l ≠ it) (hn : items.size ≤ sizeLine)
    (hQ : ∀ h' tk acc c', (∀ b o, b ≠ it → s.heap.get? b = some o → h'.get? b = some o) → h'.get? s.heap.objs.size = some { cls := .type "list", dict := none, data := .seq acc c', slots := #[] } →
      ItemsOf (fun i v => items[items.size - 1 - i]? = some v) acc items.size → Q (.ref s.heap.objs.size) { s with heap := h', toks := tk }) :
    wpAny (model prog w) A (call (.type "list") [.ref it]) Q E s := by
  refine callType_codes (Q₁ := fun obj z => obj = .ref s.heap.objs.size ∧ z = { s with heap := s.heap.push (nilO 0) }) F.called_list (F.typeCall_list_1 _) F.entry_list_init
    (code_list_new _ ⟨rfl, rfl⟩) fun obj z hz => ?_
  obtain ⟨rfl, rfl⟩ := hz
  obtain ⟨oi, hoi, _⟩ := id hit
  obtain ⟨ol, hol, _⟩ := id hl
  have hS : (s.heap.push (nilO 0)).get? s.heap.objs.size = some (nilO 0) := Heap.get?_push_size _ rfl
  have ni : s.heap.objs.size ≠ it := Nat.ne_of_gt (Heap.lt_size hoi)
  have nl : s.heap.objs.size ≠ l := Nat.ne_of_gt (Heap.lt_size hol)
  refine ⟨⟨_, hS, rfl⟩, F.args_list_init_2 _ _, ?_⟩
  show wpAny _ A.in1.in1 (do let old ← Builtin.List.listItems (.ref s.heap.objs.size); Builtin.List.listUpdate (.ref s.heap.objs.size) (fun _ => #[]); letGo old.toList.reverse; Builtin.List.listExtendWith (.ref s.heap.objs.size) (.ref it) .none) _ _ _
  refine wpAny_bind ?_; unfold Builtin.List.listItems
  refine wpAny_bind (wpAny_seqItems hS rfl (wpAny_pure ?_))
  show wpAny _ _ (updateSeq s.heap.objs.size (fun _ => #[]) >>= fun _ => letGo (#[] : Array Value).toList.reverse >>= fun _ => Builtin.List.listExtendWith (.ref s.heap.objs.size) (.ref it) .none) _ _ _
  refine wpAny_bind (wpAny_updateSeq hS rfl ?_)
  have hS2 := Heap.get?_update_self (Obj.mapSeq (fun _ => (#[] : Array Value))) hS rfl
  have oth : ∀ b o, b ≠ s.heap.objs.size → s.heap.get? b = some o → ((s.heap.push (nilO 0)).update s.heap.objs.size (Obj.mapSeq (fun _ => (#[] : Array Value)))).get? b = some o :=
    fun b o hb e => (Heap.get?_update_other _ _ (Ne.symm hb)).trans (Heap.get?_push_of_some _ e)
  refine wpAny_bind (wpAny_letGo ?_)
  refine rev_extend (A := A.in1) (s := { s with heap := _ }) hh (hit.at fun o e => oth _ _ ni.symm e) (hl.at fun o e => oth _ _ nl.symm e) hne ni nl hS2 hn fun h' tk acc c' hk hz hacc => ⟨rfl, ?_⟩
  exact hQ h' tk acc c' (fun b o hb e => hk b o (Nat.ne_of_lt (Heap.lt_size e)) hb (oth b o (Nat.ne_of_lt (Heap.lt_size e)) e)) hz hacc
end
section
variable {X : Cx}
/-- list(reversed(x)), x a list: a new list -/
def tListRev (K : PySem.W.Frag) (te : TE) : TE := fun σ H Q => te σ H fun v H1 => ∃ (a : Addr) (xs : List V), v = .ref a ∧ SqL K H1 a xs ∧ ∀ q, H1 q = none → Q (.ref q) (upd H1 q (.lst xs.reverse))
theorem pe_listRev {e : Expr} {te : TE} {p p2 pos pos2 : Pos} (hc : X.calm = true) (hg : Gl X "list") (hm : X.mg "list" = none) (hg2 : Gl X "reversed") (hm2 : X.mg "reversed" = none) (he : PE X e te)
    (hs : starEach [e] X.env = (false, eval e X.env) :: starEach [] X.env := by rfl)
    (hs2 : starEach [.Call (.Name "reversed" p2) [e] [] pos2] X.env = (false, eval (.Call (.Name "reversed" p2) [e] [] pos2) X.env) :: starEach [] X.env := by rfl) :
    PE X (.Call (.Name "list" p) [.Call (.Name "reversed" p2) [e] [] pos2] [] pos) (tListRev X.K te) := by
  refine ⟨fun pins s σ H Q I h => Call_ (ld_blt I hg hm (show bootBuiltins ("list" : Str) = some (.type "list") by decide +kernel) (PyProof.Rows.callWith_type1 (args_cons (Call_ (ld_blt I hg2 hm2 PyProof.Rows.boot_reversed (PyProof.Rows.callWith_type1 (args_cons (thn (he.run pins s σ H _ I h) fun u s1 ⟨v, H1, I1, r1, q1⟩ => args_nil ?_) hs) hs rfl))) hs2) hs2 rfl))⟩
  obtain ⟨a, xs, ev, hq, q⟩ := q1
  subst ev; obtain rfl : u = Value.ref a := r1
  obtain ⟨its, rv, pl, hz⟩ := I1.list hq
  refine call_reversed_list pl.isList (args_nil ?_)
  have k0 : ∀ b o, s1.heap.get? b = some o → (s1.heap.push (revObj a ((its.toArray.size : Int) - 1))).get? b = some o := fun b o z => Heap.get?_push_of_some _ z
  have I2 : Inv X pins σ H1 { s1 with heap := s1.heap.push (revObj a ((its.toArray.size : Int) - 1)) } := I1.kept (t' := s1.toks) k0
  have hl := pl.isList
  obtain ⟨ol, hol, _⟩ := id hl
  have hne : a ≠ s1.heap.objs.size := Nat.ne_of_lt (Heap.lt_size hol)
  have hn : its.toArray.size ≤ sizeLine := by rw [List.size_toArray, ← rv.length]; exact hz
  have hf := I1.hok.fresh (Nat.le_refl s1.heap.objs.size)
  refine call_list_rev (s := { s1 with heap := s1.heap.push (revObj a ((its.toArray.size : Int) - 1)) }) (I1.ok.hd hc) ⟨_, Heap.get?_push_size _ rfl, rfl, rfl⟩ (hl.push _) hne hn fun h' tk acc c' hk hS hi => ?_
  have hsz : s1.heap.objs.size ≤ (s1.heap.push (revObj a ((its.toArray.size : Int) - 1))).objs.size := by rw [Heap.size_push]; omega
  have kk : ∀ b o, s1.heap.get? b = some o → h'.get? b = some o := fun b o z => hk b o (Nat.ne_of_lt (Heap.lt_size z)) (k0 b o z)
  refine ⟨.ref (s1.heap.push (revObj a ((its.toArray.size : Int) - 1))).objs.size, upd H1 (s1.heap.push (revObj a ((its.toArray.size : Int) - 1))).objs.size (.lst xs.reverse),
    I1.laid kk hsz (show ObjOk X.prog X.w _ _ _ (.lst xs.reverse) from ⟨by rw [List.length_reverse]; exact hz, acc.toList, c', vals_rev rv hi, ?_⟩), rfl, q _ (I1.hok.fresh hsz)⟩
  rw [Array.toArray_toList]
  exact hS
end
end Rc
namespace Rc
open PySem PySem.Spec PyProof.Rows L2

/-! rows: the lists of a list of lists, at the end of what is own -/
abbrev RI := Addr × List Int
def rowHO (r : RI) : Addr × HO := (r.1, .lst (r.2.map V.int))
def rowsOwn (rows : List RI) : List (Addr × HO) := rows.map rowHO
def rowRef (r : RI) : V := V.ref r.1
section
variable {H0 H H' : Hp} {own pre : List (Addr × HO)} {p : Addr} {o : HO} {rows : List RI}
theorem Fr.rowmem (f : Fr H0 H (pre ++ rowsOwn rows)) {r : RI} (h : r ∈ rows) : H r.1 = some (.lst (r.2.map V.int)) :=
  f.mem (List.mem_append_right _ (List.mem_map.mpr ⟨r, h, rfl⟩))
theorem Fr.rowat (f : Fr H0 H (pre ++ rowsOwn rows)) {i : Nat} (d : RI) (h : i < rows.length) : H (rows.getD i d).1 = some (.lst ((rows.getD i d).2.map V.int)) :=
  f.rowmem (getD_mem h)
/-- the front list becomes a row -/
theorem Fr.rowin {x : List Int} (f : Fr H0 H ((p, .lst (x.map V.int)) :: (pre ++ rowsOwn rows))) : Fr H0 H (pre ++ rowsOwn (rows ++ [(p, x)])) := by
  refine f.perm ?_
  have e : pre ++ rowsOwn (rows ++ [(p, x)]) = (pre ++ rowsOwn rows) ++ [(p, HO.lst (x.map V.int))] := by
    unfold rowsOwn; rw [List.map_append, List.append_assoc]; rfl
  rw [e]
  exact (List.perm_append_singleton _ _).symm
theorem set_sub {α : Type} : ∀ {l : List α} {i : Nat} {z : α}, i < l.length → ∃ l', (l.set i z).Perm (z :: l') ∧ l'.Sublist l
  | [], _, _, h => by simp at h
  | x :: l, 0, z, _ => ⟨l, List.Perm.refl _, List.sublist_cons_self _ _⟩
  | x :: l, i + 1, z, h => by
    obtain ⟨l', h1, h2⟩ := set_sub (l := l) (i := i) (z := z) (by simpa using h)
    exact ⟨x :: l', (h1.cons x).trans (List.Perm.swap _ _ _), h2.cons_cons x⟩
/-- the front list becomes the i-th row -/
theorem Fr.rowset {x : List Int} {i : Nat} (f : Fr H0 H ((p, .lst (x.map V.int)) :: (pre ++ rowsOwn rows))) (h : i < rows.length) : Fr H0 H (pre ++ rowsOwn (rows.set i (p, x))) := by
  obtain ⟨l', h1, h2⟩ := set_sub (z := ((p, x) : RI)) h
  have e1 : (rowsOwn (rows.set i (p, x))).Perm (rowHO (p, x) :: rowsOwn l') := h1.map rowHO
  have g : Fr H0 H ((p, .lst (x.map V.int)) :: (pre ++ rowsOwn l')) := f.sub (List.Sublist.cons_cons _ (List.Sublist.append (List.Sublist.refl _) (h2.map _)))
  refine g.perm ?_
  have e2 : ((p, HO.lst (x.map V.int)) :: (pre ++ rowsOwn l')).Perm (pre ++ ((p, HO.lst (x.map V.int)) :: rowsOwn l')) := List.perm_middle.symm
  exact e2.trans (List.Perm.append_left _ e1.symm)
theorem nodup_split {α β : Type} {f : α → β} {l : List α} {i : Nat} (hn : (l.map f).Nodup) (h : i < l.length) {j : Nat} (hj : j < l.length) (hne : j ≠ i) : f l[j] ≠ f l[i] := by
  intro e
  have h1 : (l.map f)[j]'(by simpa using hj) = (l.map f)[i]'(by simpa using h) := by simpa using e
  exact hne ((List.getElem_inj (h₀ := by simpa using hj) (h₁ := by simpa using h) hn).mp h1)
/-- a row is written -/
theorem Fr.rowwr {i : Nat} {y : List Int} (f : Fr H0 H (pre ++ rowsOwn rows)) (h : i < rows.length) : Fr H0 (upd H rows[i].1 (.lst (y.map V.int))) (pre ++ rowsOwn (rows.set i (rows[i].1, y))) := by
  obtain ⟨l', h1, h2⟩ := set_sub (z := ((rows[i].1, y) : RI)) h
  obtain ⟨l2, h3, h4⟩ := set_sub (z := rows[i]) h
  rw [List.set_getElem_self] at h3
  have hlen : l'.Perm l2 := by
    have a1 : (rows.set i (rows[i].1, y)).Perm ((rows[i].1, y) :: rows.eraseIdx i) := set_er h
    have a2 : rows.Perm (rows[i] :: rows.eraseIdx i) := by
      have := set_er (l := rows) (z := rows[i]) h
      rwa [List.set_getElem_self] at this
    exact ((List.perm_cons _).mp (h1.symm.trans a1)).trans ((List.perm_cons _).mp (h3.symm.trans a2)).symm
  have e0 : (pre ++ rowsOwn rows).Perm (rowHO rows[i] :: (pre ++ rowsOwn l')) :=
    (List.Perm.append_left _ ((h3.trans (hlen.symm.cons _)).map rowHO)).trans List.perm_middle
  have g := (f.perm e0 : Fr H0 H ((rows[i].1, .lst (rows[i].2.map V.int)) :: (pre ++ rowsOwn l')))
  refine (Fr.wr (o' := .lst (y.map V.int)) g).perm ?_
  have e1 : (rowsOwn (rows.set i (rows[i].1, y))).Perm (rowHO (rows[i].1, y) :: rowsOwn l') := h1.map rowHO
  exact List.perm_middle.symm.trans (List.Perm.append_left _ e1.symm)
where
  set_er {α : Type} : ∀ {l : List α} {i : Nat} {z : α}, i < l.length → (l.set i z).Perm (z :: l.eraseIdx i)
  | [], _, _, h => by simp at h
  | x :: l, 0, z, _ => List.Perm.refl _
  | x :: l, i + 1, z, h => by
    have := set_er (l := l) (i := i) (z := z) (by simpa using h)
    exact (this.cons x).trans (List.Perm.swap _ _ _)
theorem Fr.rowsrev (f : Fr H0 H (pre ++ rowsOwn rows)) : Fr H0 H (pre ++ rowsOwn rows.reverse) := by
  refine f.perm (List.Perm.append_left _ ?_)
  unfold rowsOwn; rw [List.map_reverse]
  exact (List.reverse_perm _).symm
theorem atLastD {α : Type} {f : α → V} {xs : List α} (d : α) (h : 0 < xs.length) : atI (xs.map f) (-1) = some (f (xs.getD (xs.length - 1) d)) := by
  have e : xs.getLastD d = xs.getD (xs.length - 1) d := by
    rw [List.getLastD_eq_getLast?, List.getLast?_eq_getElem?, List.getD_eq_getElem?_getD]
  rw [← e]; exact atLast d h
theorem Fr.rowwrD {i : Nat} {y : List Int} {o' : HO} (d : RI) (f : Fr H0 H (pre ++ rowsOwn rows)) (h : i < rows.length) (eo : o' = .lst (y.map V.int)) : Fr H0 (upd H (rows.getD i d).1 o') (pre ++ rowsOwn (rows.set i ((rows.getD i d).1, y))) := by
  subst eo
  have e : rows.getD i d = rows[i] := by rw [List.getD_eq_getElem?_getD, List.getElem?_eq_getElem h]; rfl
  rw [e]; exact f.rowwr h
theorem rowRef_set (rows : List RI) (i : Nat) (d : RI) (y : List Int) : List.map rowRef rows = List.map rowRef (rows.set i ((rows.getD i d).1, y)) := by
  apply List.ext_getElem?
  intro j
  by_cases hj : i = j
  · subst hj
    by_cases hl : i < rows.length
    · simp [hl, rowRef, List.getD_eq_getElem?_getD]
    · simp [hl]
  · simp [hj]
/-- a new list of new lists, from a call -/
theorem Fr.crows (f : Fr H0 H own) (s : Same H H') (h : H p = none) (e : H' p = some o) (hr : ∀ z ∈ rows, H z.1 = none ∧ H' z.1 = some (.lst (z.2.map V.int))) (hn : (p :: rows.map (·.1)).Nodup) :
    Fr H0 H' ((p, o) :: (own ++ rowsOwn rows)) := by
  have g := f.cnew s h e
  refine ⟨g.same, fun z hz => ?_, ?_⟩
  · rcases List.mem_cons.mp hz with rfl | hz
    · exact g.frs _ List.mem_cons_self
    · rcases List.mem_append.mp hz with hz | hz
      · exact g.frs z (List.mem_cons_of_mem _ hz)
      · obtain ⟨r, hr', rfl⟩ := List.mem_map.mp hz
        exact ⟨f.fresh (hr r hr').1, (hr r hr').2⟩
  · rw [List.map_cons, List.map_append]
    have e1 : (rowsOwn rows).map (·.1) = rows.map (·.1) := by unfold rowsOwn; rw [List.map_map]; rfl
    rw [e1]
    have hn' := List.nodup_cons.mp hn
    have gn := List.nodup_cons.mp g.nd
    refine List.nodup_cons.mpr ⟨fun hm => ?_, List.nodup_append.mpr ⟨gn.2, hn'.2, fun a ha b hb hab => ?_⟩⟩
    · rcases List.mem_append.mp hm with hm | hm
      · exact gn.1 hm
      · exact hn'.1 hm
    · subst hab
      obtain ⟨z, hz, rfl⟩ := List.mem_map.mp ha
      obtain ⟨r, hr', e2⟩ := List.mem_map.mp hb
      have := (hr r hr').1
      rw [e2, (f.frs z hz).2] at this
      cases this
/-- what is handed back: outer list and rows -/
theorem Fr.rowsback (f : Fr H0 H ((p, o) :: rowsOwn rows)) : (∀ z ∈ rows, H0 z.1 = none ∧ H z.1 = some (.lst (z.2.map V.int))) ∧ (p :: rows.map (·.1)).Nodup := by
  refine ⟨fun z hz => f.frs (rowHO z) (List.mem_cons_of_mem _ (List.mem_map.mpr ⟨z, hz, rfl⟩)), ?_⟩
  have := f.nd
  rw [List.map_cons] at this
  have e1 : (rowsOwn rows).map (·.1) = rows.map (·.1) := by unfold rowsOwn; rw [List.map_map]; rfl
  rwa [e1] at this
end
/-- rows from outside -/
def Rows (H : Hp) (rows : List RI) : Prop := ∀ r ∈ rows, H r.1 = some (.lst (r.2.map V.int))
theorem Rows.same {H H' : Hp} {rows : List RI} (h : Rows H rows) (s : Same H H') : Rows H' rows := fun r hr => s _ _ (h r hr)
theorem Rows.at {H : Hp} {rows : List RI} (h : Rows H rows) {i : Nat} (d : RI) (hi : i < rows.length) : H (rows.getD i d).1 = some (.lst ((rows.getD i d).2.map V.int)) := h _ (getD_mem hi)
theorem rows_nil {H : Hp} : Rows H [] := fun _ h => nomatch h
theorem rows_cons {H : Hp} {a : Addr} {x : List Int} {rows : List RI} (h : H a = some (.lst (x.map V.int))) (hr : Rows H rows) : Rows H ((a, x) :: rows) := fun r h' => by
  rcases List.mem_cons.mp h' with rfl | h'
  · exact h
  · exact hr r h'

/-! whole numbers among scalars -/
def wholeV (v : V) : Bool := is_int v && !is_bool v
theorem wholeV_int {v : V} (h : wholeV v = true) : ∃ z, v = V.int z := by
  cases v with
  | int z => exact ⟨z, rfl⟩
  | bl b => cases h
  | _ => cases h
theorem wholeV_of (z : Int) : wholeV (V.int z) = true := rfl
/-- a part of a word for m heaps -/
def wordPart (m : Nat) : V → Bool
  | .int x => decide (0 ≤ x) && decide (x < (m : Int))
  | _ => false
theorem wordPart_no {m : Nat} {v : V} (h : wholeV v = false) : wordPart m v = false := by
  cases v with
  | int z => cases h
  | _ => rfl
theorem wp_no {m : Nat} {v : V} (h : wholeV v = false) : V.bl false = V.bl (wordPart m v) := by rw [wordPart_no h]
theorem wp_f1 {m : Nat} {z : Int} (h : ¬ 0 ≤ z) : V.bl false = V.bl (wordPart m (V.int z)) := by show V.bl false = V.bl (decide (0 ≤ z) && decide (z < (m : Int))); rw [decide_eq_false h]; rfl
theorem wp_f2 {m : Nat} {z : Int} (h : ¬ z < (m : Int)) : V.bl false = V.bl (wordPart m (V.int z)) := by show V.bl false = V.bl (decide (0 ≤ z) && decide (z < (m : Int))); rw [decide_eq_false h, Bool.and_false]
theorem wp_t {m : Nat} {z : Int} (h : 0 ≤ z) (h' : z < (m : Int)) : V.bl true = V.bl (wordPart m (V.int z)) := by show V.bl true = V.bl (decide (0 ≤ z) && decide (z < (m : Int))); rw [decide_eq_true h, decide_eq_true h']; rfl
def isWordV (m : Nat) (word : List V) (n : Int) : Bool := decide ((word.length : Int) = n) && word.all (wordPart m)
theorem isWordV_ints {m : Nat} {w : List Int} {n : Int} (h : ∀ x ∈ w, 0 ≤ x ∧ x < m) (hn : (w.length : Int) = n) : isWordV m (w.map V.int) n = true := by
  unfold isWordV
  rw [List.length_map, decide_eq_true hn, Bool.true_and, List.all_eq_true]
  intro v hv
  obtain ⟨x, hx, rfl⟩ := List.mem_map.mp hv
  show (decide (0 ≤ x) && decide (x < (m : Int))) = true
  rw [decide_eq_true (h x hx).1, decide_eq_true (h x hx).2]; rfl
/-- the two parts of a list beside a place -/
theorem cut_lo {α : Type} {xs : List α} {i : Int} (h0 : 0 ≤ i) (h1 : i ≤ xs.length) : cutL xs none (some i) = xs.take i.toNat := by
  obtain ⟨k, rfl⟩ := Int.eq_ofNat_of_zero_le h0
  unfold cutL
  rw [HT.sIx_none, HT.sIx_nat, Int.toNat_natCast, List.drop_zero, Nat.sub_zero, Nat.min_eq_left (by omega)]
theorem cut_hi {α : Type} {xs : List α} {i : Int} (h0 : 0 ≤ i) (h1 : i ≤ xs.length) : cutL xs (some i) none = xs.drop i.toNat := by
  obtain ⟨k, rfl⟩ := Int.eq_ofNat_of_zero_le h0
  unfold cutL
  rw [HT.sIx_none, HT.sIx_nat, Int.toNat_natCast, Nat.min_eq_left (by omega)]
  exact List.take_of_length_le (by rw [List.length_drop]; omega)
theorem cut_mid {α : Type} {xs : List α} {i j : Int} (h0 : 0 ≤ i) (hij : i ≤ j) (h1 : j ≤ xs.length) : cutL xs (some i) (some j) = (xs.drop i.toNat).take (j - i).toNat := by
  obtain ⟨k, rfl⟩ := Int.eq_ofNat_of_zero_le h0
  obtain ⟨l, rfl⟩ := Int.eq_ofNat_of_zero_le (show 0 ≤ j by omega)
  unfold cutL
  rw [HT.sIx_nat, HT.sIx_nat, Int.toNat_natCast, Nat.min_eq_left (by omega), Nat.min_eq_left (by omega)]
  congr 1; omega
theorem cut_erase {α : Type} {xs : List α} {i : Int} (h0 : 0 ≤ i) (h1 : i < xs.length) : cutL xs none (some i) ++ cutL xs (some (i + 1)) none = xs.eraseIdx i.toNat := by
  rw [cut_lo h0 (by omega), cut_hi (by omega) (by omega), show (i + 1).toNat = i.toNat + 1 by omega]
  exact (List.eraseIdx_eq_take_drop_succ _ _).symm
theorem lc_lx {α β : Type} {enc : β → V} {f : α → β} {ns : List α} {i : Nat} {y : α} {v : V} (h : ns[i]? = some y) (e : v = enc (f y)) : HO.lst ((((ns.take i).map f).map enc) ++ [v]) = .lst (((ns.take (i + 1)).map f).map enc) := by
  rw [e]; exact lc_l h
theorem lc_rx {β : Type} {enc : β → V} (f : Nat → β) (i : Nat) {v : V} (e : v = enc (f i)) : HO.lst ((((List.range i).map f).map enc) ++ [v]) = .lst (((List.range (i + 1)).map f).map enc) := by
  rw [e]; exact lc_r f i
theorem cut_one {α : Type} {xs : List α} (h : 0 < xs.length) : cutL xs (some 1) none = xs.drop 1 := cut_hi (by decide) (by omega)
theorem lc_app {β : Type} {enc : β → V} {xs ys : List β} {x : β} (e : xs ++ [x] = ys) : HO.lst (xs.map enc ++ [enc x]) = .lst (ys.map enc) := by
  rw [← e, List.map_append]; rfl
theorem count_filter (w : List Int) (a : Int) : (List.map (fun y : Int => y) (List.filter (fun y : Int => decide (y = a)) w)).length = w.count a := by
  rw [List.length_map, List.count_eq_length_filter]
  congr 1
end Rc
namespace Rc
open PySem PySem.Spec PyProof.Rows L2

/-! list.count of a truth -/
section
variable {X : Cx}
theorem bools_of_vals : ∀ {bs : List Bool} {us : List Value}, Vals (bs.map V.bl) us → us = bs.map Value.bool
  | [], _, h => by cases h; rfl
  | b :: bs, _, h => by
    cases h with
    | cons r rr =>
      cases r
      rw [bools_of_vals rr]; rfl
theorem countP_bools (k : Bool) : ∀ bs : List Bool, (bs.map Value.bool).countP (isBoolOf k) = bs.count k
  | [] => rfl
  | b :: bs => by
    rw [List.map_cons, List.countP_cons, List.count_cons, countP_bools k bs] <;> rfl
def rCntB (K : PySem.W.Frag) : V → List V → Hp → VK → Prop := fun x xs H Q => ∃ (p : Addr) (bs : List Bool) (k : Bool), x = .ref p ∧ xs = [.bl k] ∧ SqL K H p (bs.map V.bl) ∧ Q (.int (bs.count k : Nat)) H
theorem mt_lcountB : MtR X "list.count" (rCntB X.K) := by
  intro pins s σ H x xs v us Q I rx rxs h
  obtain ⟨p, bs, k, rfl, rfl, hs, q⟩ := h
  cases rx
  obtain ⟨u, rfl, ru⟩ := rxs.one
  cases ru
  obtain ⟨its, rv, ⟨⟨cls, dd, data, sl⟩, n, ho, hc, hdn, hd⟩, hlen⟩ := I.list hs
  simp only at hc hd
  subst hc hd
  have ei := bools_of_vals rv
  subst ei
  refine call_meets PySem.F.slot_list_count ⟨_, ho, rfl⟩ PySem.F.entry_list_count (PySem.F.args_list_count_2 _ _)
    (SeqAt.list_countAt p (bs.map Value.bool).toArray n dd sl (.bool k) (isBoolOf k)) ⟨ho, fun y hy => ?_, ?_⟩
  · have hy' : y ∈ bs.map Value.bool := by simpa using hy
    obtain ⟨b, _, rfl⟩ := List.mem_map.mp hy'
    exact SeqAt.EqAt.bool_bool b k
  · refine ⟨.int (bs.count k : Nat), H, I.tok _, ⟨s.toks, ?_⟩, q⟩
    show Value.int (((bs.map Value.bool).toArray.toList.countP (isBoolOf k) : Nat) : Int) s.toks = Value.int ((bs.count k : Nat) : Int) s.toks
    rw [show (bs.map Value.bool).toArray.toList = bs.map Value.bool from rfl, countP_bools]
end

/-! the exception that a suite holds -/
section
variable {X : Cx} {a : Addr} {oe : Obj} {cls : Value} {d : Option Addr}
/-- isinstance(e, c), e the exception that the suite holds: of the class D -/
def rIsP (K : PySem.W.Frag) (a : Addr) (cls : Value) (d : Option Addr) : List V → Hp → VK → Prop := fun xs H Q =>
  ∃ (D : Addr) (c : V) (cv : Value) (b : Bool), cls = .ref D ∧ d = none ∧ ExcC K D ∧ xs = [.ref a, c] ∧ (∀ u, RelV c u → u = cv) ∧ PySem.W.kitOne K (.ref D) cv = some b ∧ Q (.bl b) H
theorem call_isP (hz : Zc cls d oe) (hf : ∃ vs, oe.data = .fields vs) (hp : (a, oe) ∈ X.pn) : CallR X (.builtin "isinstance") (rIsP X.K a cls d) := by
  intro pins s σ H xs us Q I r h
  obtain ⟨D, c, cv, b, rfl, rfl, C, rfl, hcv, e, q⟩ := h
  cases r with
  | cons rx rr =>
    cases rr with
    | cons rt rr =>
      cases rr
      cases rx
      have ec := hcv _ rt
      subst ec
      obtain ⟨hget, _⟩ := I.pin (a, oe) (List.mem_append.mpr (.inl hp))
      obtain ⟨vs, hv⟩ := hf
      have J : PySem.W.InstAt s.heap a oe D none := by
        obtain ⟨oc, od, oda, osl⟩ := oe
        obtain ⟨h1, h2⟩ := hz
        dsimp only at h1 h2 hv
        subst h1 h2 hv
        exact ⟨hget, rfl, rfl, trivial⟩
      exact PySem.W.kia_one (PySem.W.handS_kitx_exc C.hg C.hk C.hs C.hd C.ha C.hn C.ht C.hm) I.kIn J e (fun z => nomatch z) fun tk => ⟨.bl b, H, I.kept (t' := tk) fun _ _ z => z, rfl, q⟩
theorem rel_ref {C : Addr} : ∀ u, RelV (.ref C) u → u = .ref C := fun u h => h
theorem rel_ty {t : String} : ∀ u, RelV (.ty t) u → u = .type t := fun u h => h
end

/-! defs that are called within a suite, with the exception -/
open L2H (RoomH PinOk cxH inv_startH)
/-- p's object is the exception that is handled, of the class D -/
structure HotZ (A : Around) (D : Addr) (p : Addr × Obj) : Prop where
  hd : A.handled = some (.ref p.1)
  cl : Zc (.ref D) none p.2
  dt : ∃ vs, p.2.data = .fields vs
structure FnE (P : Program) (w : World) (K : PySem.W.Frag) (mg : Str → Option Value) (base : Heap) (k : Nat) (f : Addr) (fd : FuncData) (ps : List Str) (sp : Addr → Addr → Sp) : Prop where
  len : ∀ a D vs H Q E, sp a D vs H Q E → vs.length = ps.length
  run : ∀ (A : Around) (outer : List Env) (s : Shared) (H : Hp) (args : Args) (us : List Value) (vs : List V) (Q : VK) (E : XK) (p : Addr × Obj) (D : Addr), RoomH k A → HotZ A D p → PinOk outer H s p → Env0 P w K mg base A outer s H → BindsTo s fd args (ps.zip us) → Vals vs us → sp p.1 D vs H Q E →
    codeAny (model P w) A (.call (.ref f) args) (CR CX0 outer P w H s Q E) s
theorem fn_ofE {P : Program} {w : World} {K : PySem.W.Frag} {mg : Str → Option Value} {base : Heap} {k : Nat} {f : Addr} {name qual : Str} {params : Arguments} {body : List Stmt} {scope : Scope} {dV kV doc pm cdv ct oc : Value} {an od : Option Addr}
    {osl : Array (Option Value)} {N ps : List Str} {sp : Addr → Addr → Sp} (lk : K.lookup f = some ⟨oc, od, .func (PySem.W.fnOf name qual params body scope dV kV doc pm an cdv ct), osl⟩) (hcd : PySem.W.codeIn K cdv qual = true) (S : FnScope N ps scope)
    (len : ∀ a D vs H Q E, sp a D vs H Q E → vs.length = ps.length)
    (hbody : ∀ (A : Around) (outer : List Env) (s : Shared) (H : Hp) (vs : List V) (Q : VK) (E : XK) (p : Addr × Obj) (D : Addr), HotZ A D p → RoomH k (A.deeper (envOfC qual scope s.heap.objs.size f cdv)) → sp p.1 D vs H Q E →
      ∃ t, PSs (cxH CX0 P w K mg base N qual scope f cdv A outer s H E p) body t ∧ t { nx := fun _ H' => Q .non H', rt := Q } (L2.start N vs) H) :
    FnE P w K mg base (k + 1) f (PySem.W.fnOf name qual params body scope dV kV doc pm an cdv ct) ps sp := by
  refine ⟨len, fun A outer s H args us vs Q E p D hr hot hpin e0 hb r hsp => ?_⟩
  have hl := len _ _ _ _ _ _ hsp
  have KX : K.In s.heap := e0.mod.kin.keeps fun b o e => (e0.bs b o e).1
  have lim : s.heap.NoLimit := e0.mod.nolimit.keeps fun b o e => (e0.bs b o e).1
  have hkind : ∀ y ∈ ps.zip us, scope.names.lookup y.1 = some .local ∨ (scope.names.lookup y.1 = some .cell ∧ ((cellsFrom (s.heap.objs.size + 1) scope.names []).lookup y.1).isSome = true) := fun ⟨n, v⟩ hy => by
    rcases S.par n (List.of_mem_zip hy).1 with q | q
    · exact .inl q
    · exact .inr ⟨q, PySem.W.cellsFrom_some _ _ _ (.inl q)⟩
  refine codeAny_call_function hr.depth (KX _ _ lk) rfl S.co S.gen rfl (PySem.W.codeRec_of KX hcd) (hb _ _ _ _ ?_)
  refine wpAny_newFunctionEnv_cells S.kind hkind fun env he s1 x => ?_
  subst he
  refine ⟨lim.keeps x.toInCall.keep, codeAny_func ?_⟩
  obtain ⟨t, ht, hq⟩ := hbody A outer s H vs Q E p D hot (hr.deeper _) hsp
  have I : Inv (cxH CX0 P w K mg base N qual scope f cdv A outer s H E p) [] (L2.start N vs) H s1 := inv_startH S hpin e0 hl r x
  refine wpAny_mono (ht.run [] s1 (L2.start N vs) H _ I hq) (fun fl s' hs => ?_) fun e s' hs => hs
  have fin : ∀ {σ' : L2.St} {H' : Hp} {v : V} {u : Value}, Inv (cxH CX0 P w K mg base N qual scope f cdv A outer s H E p) [] σ' H' s' → RelV v u → Q v H' → CE outer P w H s Q u s' :=
    fun {σ' H' v u} J rv q => ⟨v, H', J.os, J.bare, J.base, J.hok, rv, q⟩
  cases fl with
  | ret u =>
    obtain ⟨v, σ', H', J, rv, q⟩ := hs
    exact fin J rv q
  | next =>
    obtain ⟨σ', H', J, q⟩ := hs
    exact fin (v := V.non) (u := Value.none) J rfl q
  | brk =>
    obtain ⟨_, _, _, q⟩ := hs
    exact False.elim q
  | cont =>
    obtain ⟨_, _, _, q⟩ := hs
    exact False.elim q
section
variable {P : Program} {w : World} {K : PySem.W.Frag} {mg : Str → Option Value} {base : Heap}
/-- as Fun.ok, for a def that a suite calls -/
theorem Fun.okE {x qual : Str} {st : Stmt} {f : Addr} {fd : FuncData} {N ps : List Str} {k : Nat} {sp : Addr → Addr → Sp} (F : Fun K x qual st f fd) (S : FnScope N ps (defScope st)) (len : ∀ a D vs H Q E, sp a D vs H Q E → vs.length = ps.length)
    (hbody : ∀ (cdv : Value) (A : Around) (outer : List Env) (s : Shared) (H : Hp) (vs : List V) (Q : VK) (E : XK) (p : Addr × Obj) (D : Addr), HotZ A D p → RoomH k (A.deeper (envOfC qual (defScope st) s.heap.objs.size f cdv)) → sp p.1 D vs H Q E →
      ∃ t, PSs (cxH CX0 P w K mg base N qual (defScope st) f cdv A outer s H E p) (defBody st) t ∧ t { nx := fun _ H' => Q .non H', rt := Q } (start N vs) H) : FnE P w K mg base (k + 1) f fd ps sp := by
  obtain ⟨oc, od, kV, doc, pm, an, cdv, ct, osl, rfl, lk, hcd⟩ := F.ex
  exact fn_ofE lk hcd S len fun A outer s H vs Q E p D hz hr hsp => hbody cdv A outer s H vs Q E p D hz hr hsp
end
theorem roomS {X : Cx} {k : Nat} {a : Addr} {pn : List (Addr × Obj)} (hr : Room k X.A) : RoomH k (X.suite a pn).A := ⟨hr.dp, hr.un⟩
section
variable {X : Cx} {k : Nat} {f : Addr} {fd : FuncData} {ps : List Str} {sp : Addr → Addr → Sp} {x : Str} {q pos : Pos} {e : Expr} {es : List Expr} {t : TA} {a : Addr} {oe : Obj} {cls : Value} {d : Option Addr} {pn : List (Addr × Obj)}
/-- f(e, ..) within a suite, f asks about the exception -/
def tCallE (a : Addr) (cls : Value) (d : Option Addr) (sp : Addr → Addr → Sp) (t : TA) : TE := fun σ H Q => ∃ D, cls = .ref D ∧ d = none ∧ t σ H fun vs H1 => sp a D vs H1 Q E0
theorem pe_callE (hz : Zc cls d oe) (hf : ∃ vs, oe.data = .fields vs) (F : FnE X.prog X.w X.K X.mg X.base k f fd ps sp) (hr : RoomH k (X.suite a ((a, oe) :: pn)).A) (hg : Gl X x) (hm : X.mg x = some (.ref f)) (hk : PySem.W.keepIn X.K (.ref f) = true) (hb : Binds X.K fd ps [])
    (ha : PA (X.suite a ((a, oe) :: pn)) (e :: es) t) (hdb : (x == ("__debug__" : Str)) = false := by decide) (he : starEach (e :: es) X.env = (false, eval e X.env) :: starEach es X.env := by rfl) (hpl : (backTo pos (starEach es X.env)).any (·.1) = false := by rfl) :
    PE (X.suite a ((a, oe) :: pn)) (.Call (.Name x q) (e :: es) [] pos) (tCallE a cls d sp t) := by
  refine ⟨fun pins s σ H Q I h => ?_⟩
  obtain ⟨D, rfl, rfl, h⟩ := h
  have hg' : Gl (X.suite a ((a, oe) :: pn)) x := hg
  refine wpAny_Call_Name_kw (ld_glob I hg' hm ?_ hdb)
  refine PySem.W.callWith_K (h₀ := X.base) I.ok.mod.kin hk (thn (ha.run pos pins s σ H _ I h) fun us s1 ⟨vs, H1, I1, r, q⟩ => ⟨I1.kIn, ?_⟩) he hpl
  have hl : us.length = ps.length := by rw [← r.length]; exact F.len _ _ _ _ _ _ q
  have b := hb s1 us I1.kIn (by rw [List.append_nil]; exact hl)
  rw [List.append_nil] at b
  have P1 := I1.pin (a, oe) (List.mem_append_left _ List.mem_cons_self)
  have hpin : PinOk X.stack H1 s1 (a, oe) := ⟨P1.1, P1.2.1, fun hm => (List.mem_cons.mp (I1.stkSub a hm)).elim P1.2.2.1 P1.2.2.2.1, P1.2.2.2.2⟩
  refine wpAny_call (codeAny_mono (F.run (X.suite a ((a, oe) :: pn)).A X.stack s1 H1 ⟨us, []⟩ us vs Q E0 (a, oe) D hr ⟨rfl, hz, hf⟩ hpin I1.env0 b r q) fun r s' hq => ?_)
  cases r with
  | error e => exact False.elim hq
  | ok fl =>
    cases fl with
    | ret u => exact I1.after hq
    | next => exact False.elim hq
    | brk => exact False.elim hq
    | cont => exact False.elim hq
end

/-! facts of the top's exception classes -/
/-- an exception class of the program, over ValueError -/
structure ExcT (K : PySem.W.Frag) (mg : Str → Option Value) (n : Str) (C : Addr) : Prop where
  g : mg n = some (.ref C)
  kp : PySem.W.keepIn K (.ref C) = true
  ex : PySem.W.excIn K C [.type "ValueError", .type "Exception", .type "BaseException", .type "object"] "ValueError.__new__" = true
  c : ExcC K C
  ty : PySem.W.typeIn K (.ref C) = some (.type "type")
  ve : PySem.W.subIn K (.ref C) (.type "ValueError") = some true
theorem any_isSome {α : Type} {o : Option α} {p : α → Bool} (h : o.any p = true) : o.isSome = true := by
  cases o with
  | none => cases h
  | some _ => rfl
section
variable {K : PySem.W.Frag} {mg : Str → Option Value} {n : Str} {C D : Addr} {b : Bool}
theorem ExcT.kit (T : ExcT K mg n C) (h : PySem.W.subIn K (.ref D) (.ref C) = some b) (hne : b = false → D ≠ C) : PySem.W.kitOne K (.ref D) (.ref C) = some b := by
  unfold PySem.W.kitOne
  by_cases e : D = C
  · subst e
    rw [if_pos (by simp)]
    cases b with
    | true => rfl
    | false => exact absurd rfl (hne rfl)
  · have e1 : ((Value.ref D) == (Value.ref C)) = false := by
      rw [beq_eq_false_iff_ne]; exact fun z => e (Value.ref.inj z)
    rw [e1, if_neg Bool.false_ne_true]
    unfold PySem.W.kitCls
    have e2 : (PySem.W.clsIn K C).isSome = true := any_isSome T.c.hd
    dsimp only
    rw [e2, T.ty]
    exact h
theorem ExcT.exm (T : ExcT K mg n C) (h : PySem.W.subIn K (.ref D) (.ref C) = some b) : PySem.W.exmOne K (.ref D) (.ref C) = some b := PySem.W.exm_ref T.c.hs T.c.hd T.ty h
theorem ExcT.kve (T : ExcT K mg n C) : PySem.W.kitOne K (.ref C) (.type "ValueError") = some true := by
  unfold PySem.W.kitOne
  rw [show ((Value.ref C) == (Value.type "ValueError")) = false from rfl, if_neg Bool.false_ne_true]
  exact T.ve
end
end Rc
namespace Rc
open PySem PySem.Spec PyProof.Rows L2

/-! tables: lists of objects; an object's content is told by g -/
abbrev RO (β : Type) := Addr × β
def rref {β : Type} (r : RO β) : V := V.ref r.1
def rosOwn {β : Type} (g : β → HO) (rows : List (RO β)) : List (Addr × HO) := rows.map fun r => (r.1, g r.2)
abbrev gI : List Int → HO := fun xs => .lst (xs.map V.int)
abbrev gB : List Bool → HO := fun xs => .lst (xs.map V.bl)
abbrev gV : List V → HO := fun xs => .lst xs
abbrev gVB : V × Bool → HO := fun p => .tup [p.1, V.bl p.2]
abbrev gII : Int × Int → HO := fun p => .tup [V.int p.1, V.int p.2]
section
variable {β : Type} {g : β → HO} {H0 H H' : Hp} {own pre : List (Addr × HO)} {ts : List (List (Addr × HO))} {T : List (Addr × HO)} {p : Addr} {o : HO} {rows : List (RO β)} {C : List β}
theorem flat_pull {α : Type} : ∀ {ts : List (List α)} {k : Nat} {T : List α}, ts[k]? = some T → ts.flatten.Perm (T ++ (ts.eraseIdx k).flatten)
  | [], _, _, h => by simp at h
  | t :: ts, 0, T, h => by cases (Option.some.inj h); exact List.Perm.refl _
  | t :: ts, k + 1, T, h => by
    have ih := flat_pull (ts := ts) (k := k) (T := T) h
    show (t ++ ts.flatten).Perm (T ++ (t ++ (ts.eraseIdx k).flatten))
    refine (List.Perm.append_left t ih).trans ?_
    rw [← List.append_assoc, ← List.append_assoc]
    exact List.Perm.append_right _ List.perm_append_comm
/-- a tail to the front of the tails -/
theorem Fr.tup (f : Fr H0 H (pre ++ ts.flatten)) (k : Nat) (h : ts[k]? = some T) : Fr H0 H (pre ++ (T :: ts.eraseIdx k).flatten) :=
  f.perm (List.Perm.append_left _ (flat_pull h))
/-- a tail is no longer told of -/
theorem Fr.tdrop (f : Fr H0 H (pre ++ ts.flatten)) (k : Nat) (h : ts[k]? = some T) : Fr H0 H (pre ++ (ts.eraseIdx k).flatten) :=
  (f.tup k h).sub (List.Sublist.append (List.Sublist.refl _) (List.sublist_append_right _ _))
theorem Fr.rmem (f : Fr H0 H (pre ++ ts.flatten)) (k : Nat) (h : ts[k]? = some (rosOwn g rows)) {r : RO β} (hr : r ∈ rows) : H r.1 = some (g r.2) := by
  refine f.mem (List.mem_append_right _ (List.mem_flatten.mpr ⟨_, List.mem_of_getElem? h, ?_⟩))
  exact List.mem_map.mpr ⟨r, hr, rfl⟩
/-- an own object becomes a row of a new tail -/
theorem Fr.rnew {x : β} (f : Fr H0 H ((p, g x) :: (pre ++ ts.flatten))) : Fr H0 H (pre ++ (rosOwn g [(p, x)] :: ts).flatten) :=
  f.perm List.perm_middle.symm
/-- an own object becomes the last row of the first tail -/
theorem Fr.radd {x : β} (f : Fr H0 H ((p, g x) :: (pre ++ (rosOwn g rows :: ts).flatten))) : Fr H0 H (pre ++ (rosOwn g (rows ++ [(p, x)]) :: ts).flatten) := by
  refine f.perm ?_
  have e : rosOwn g (rows ++ [(p, x)]) = rosOwn g rows ++ [(p, g x)] := by unfold rosOwn; rw [List.map_append]; rfl
  show ((p, g x) :: (pre ++ (rosOwn g rows ++ ts.flatten))).Perm (pre ++ (rosOwn g (rows ++ [(p, x)]) ++ ts.flatten))
  rw [e]
  refine List.perm_middle.symm.trans (List.Perm.append_left _ ?_)
  rw [List.append_assoc]
  exact List.perm_middle.symm
theorem Fr.rset {x : β} {i : Nat} (f : Fr H0 H ((p, g x) :: (pre ++ (rosOwn g rows :: ts).flatten))) (h : i < rows.length) : Fr H0 H (pre ++ (rosOwn g (rows.set i (p, x)) :: ts).flatten) := by
  obtain ⟨l', h1, h2⟩ := set_sub (z := ((p, x) : RO β)) h
  have e1 : (rosOwn g (rows.set i (p, x))).Perm ((p, g x) :: rosOwn g l') := h1.map _
  have s : List.Sublist ((p, g x) :: (pre ++ (rosOwn g l' ++ ts.flatten))) ((p, g x) :: (pre ++ (rosOwn g rows ++ ts.flatten))) :=
    List.Sublist.cons_cons _ (List.Sublist.append (List.Sublist.refl _) (List.Sublist.append (h2.map _) (List.Sublist.refl _)))
  refine (f.sub s).perm ?_
  refine List.perm_middle.symm.trans (List.Perm.append_left _ ?_)
  exact List.Perm.append_right _ e1.symm
/-- a row is written: own o at p becomes o' -/
theorem Fr.rwr {i : Nat} {y : β} {q : Addr} (f : Fr H0 H (pre ++ (rosOwn g rows :: ts).flatten)) (h : i < rows.length) (hq : q = (rows[i]).1) : Fr H0 (upd H q (g y)) (pre ++ (rosOwn g (rows.set i (q, y)) :: ts).flatten) := by
  subst hq
  obtain ⟨l', h1, h2⟩ := set_sub (z := (((rows[i]).1, y) : RO β)) h
  have p1 : rows.Perm (rows[i] :: rows.eraseIdx i) := by
    have := set_er' (l := rows) (z := rows[i]) h
    rwa [List.set_getElem_self] at this
  have p2 : (rows.set i ((rows[i]).1, y)).Perm (((rows[i]).1, y) :: rows.eraseIdx i) := set_er' h
  have e0 : (pre ++ (rosOwn g rows ++ ts.flatten)).Perm (((rows[i]).1, g (rows[i]).2) :: (pre ++ (rosOwn g (rows.eraseIdx i) ++ ts.flatten))) :=
    (List.Perm.append_left _ (List.Perm.append_right _ (p1.map _))).trans List.perm_middle
  have gg := f.perm e0
  refine (Fr.wr (o' := g y) gg).perm ?_
  have p3 : (rosOwn g (rows.set i ((rows[i]).1, y))).Perm (((rows[i]).1, g y) :: rosOwn g (rows.eraseIdx i)) := p2.map (fun r : RO β => (r.1, g r.2))
  refine List.perm_middle.symm.trans (List.Perm.append_left _ ?_)
  show ((((rows[i]).1, g y) :: rosOwn g (rows.eraseIdx i)) ++ ts.flatten).Perm (rosOwn g (rows.set i ((rows[i]).1, y)) ++ ts.flatten)
  exact List.Perm.append_right _ p3.symm
where
  set_er' {α : Type} : ∀ {l : List α} {i : Nat} {z : α}, i < l.length → (l.set i z).Perm (z :: l.eraseIdx i)
  | [], _, _, h => by simp at h
  | x :: l, 0, z, _ => List.Perm.refl _
  | x :: l, i + 1, z, h => by
    have := set_er' (l := l) (i := i) (z := z) (by simpa using h)
    exact (this.cons x).trans (List.Perm.swap _ _ _)
theorem Fr.rcat {rows' : List (RO β)} (f : Fr H0 H (pre ++ (rosOwn g rows :: rosOwn g rows' :: ts).flatten)) : Fr H0 H (pre ++ (rosOwn g (rows ++ rows') :: ts).flatten) := by
  have e : (rosOwn g rows :: rosOwn g rows' :: ts).flatten = (rosOwn g (rows ++ rows') :: ts).flatten := by
    show rosOwn g rows ++ (rosOwn g rows' ++ ts.flatten) = rosOwn g (rows ++ rows') ++ ts.flatten
    unfold rosOwn; rw [List.map_append, List.append_assoc]
  rw [← e]; exact f
theorem Fr.rrev (f : Fr H0 H (pre ++ (rosOwn g rows :: ts).flatten)) : Fr H0 H (pre ++ (rosOwn g rows.reverse :: ts).flatten) := by
  refine f.perm (List.Perm.append_left _ (List.Perm.append_right _ ?_))
  unfold rosOwn; rw [List.map_reverse]
  exact (List.reverse_perm _).symm

/-! addresses of rows and their contents -/
theorem snd_len (h : rows.map (·.2) = C) : rows.length = C.length := by rw [← h, List.length_map]
theorem snd_at (h : rows.map (·.2) = C) (d : β) (a : Addr) (i : Nat) (hi : i < C.length) : (rows.getD i (a, d)).2 = C.getD i d := by
  subst h
  rw [List.length_map] at hi
  simp [List.getD, hi]
theorem snd_get {i : Nat} {r : RO β} (h : rows.map (·.2) = C) (hr : rows[i]? = some r) : C[i]? = some r.2 := by subst h; rw [List.getElem?_map, hr]; rfl
theorem snd_app {x : β} (h : rows.map (·.2) = C) : (rows ++ [(p, x)]).map (·.2) = C ++ [x] := by rw [List.map_append, h]; rfl
theorem snd_set {x : β} {i : Nat} (h : rows.map (·.2) = C) : (rows.set i (p, x)).map (·.2) = C.set i x := by rw [List.map_set, h]
theorem snd_rev (h : rows.map (·.2) = C) : rows.reverse.map (·.2) = C.reverse := by rw [List.map_reverse, h]
theorem snd_cat {rows' : List (RO β)} {C' : List β} (h : rows.map (·.2) = C) (h' : rows'.map (·.2) = C') : (rows ++ rows').map (·.2) = C ++ C' := by rw [List.map_append, h, h']
theorem rref_set (i : Nat) (d : RO β) (y : β) (hi : i < rows.length) : rows.map rref = (rows.set i ((rows.getD i d).1, y)).map rref := by
  rw [List.map_set]
  show rows.map rref = (rows.map rref).set i (rref (rows.getD i d))
  rw [List.getD_eq_getElem?_getD, List.getElem?_eq_getElem hi]
  apply List.ext_getElem?
  intro j
  by_cases hj : i = j
  · subst hj; simp [hi]
  · simp [hj]
theorem lst_rref_app {x : β} : HO.lst (rows.map rref ++ [V.ref p]) = .lst ((rows ++ [(p, x)]).map rref) := by rw [List.map_append]; rfl
theorem lst_rref_cat {rows' : List (RO β)} : HO.lst (rows.map rref ++ rows'.map rref) = .lst ((rows ++ rows').map rref) := by rw [List.map_append]
theorem lst_rref_set {x : β} {i : Nat} : HO.lst ((rows.map rref).set i (V.ref p)) = .lst ((rows.set i (p, x)).map rref) := by rw [List.map_set]; rfl

/-! a table that stands -/
structure Tab (H : Hp) (g : β → HO) (a : Addr) (C : List β) : Prop where
  ex : ∃ r : List (RO β), r.map (·.2) = C ∧ H a = some (.lst (r.map rref)) ∧ ∀ z ∈ r, H z.1 = some (g z.2)
theorem Tab.same {a : Addr} (t : Tab H g a C) (s : Same H H') : Tab H' g a C := by
  obtain ⟨r, h1, h2, h3⟩ := t.ex
  exact ⟨r, h1, s _ _ h2, fun z hz => s _ _ (h3 z hz)⟩
/-- a new table, from a call -/
structure TabN (H H' : Hp) (g : β → HO) (a : Addr) (r : List (RO β)) (C : List β) : Prop where
  n : H a = none
  e : H' a = some (.lst (r.map rref))
  c : r.map (·.2) = C
  rw : ∀ z ∈ r, H z.1 = none ∧ H' z.1 = some (g z.2)
  nd : (a :: r.map (·.1)).Nodup
theorem Fr.ctab {r : List (RO β)} (f : Fr H0 H (pre ++ ts.flatten)) (s : Same H H') (t : TabN H H' g p r C) : Fr H0 H' (((p, .lst (r.map rref)) :: pre) ++ (rosOwn g r :: ts).flatten) := by
  have gg := f.cnew s t.n t.e
  have h1 : Fr H0 H' ((((p, HO.lst (r.map rref)) :: pre) ++ ts.flatten) ++ rosOwn g r) := by
    refine ⟨gg.same, fun z hz => ?_, ?_⟩
    · rcases List.mem_append.mp hz with hz | hz
      · exact gg.frs z hz
      · obtain ⟨r', hr', rfl⟩ := List.mem_map.mp hz
        exact ⟨f.fresh (t.rw r' hr').1, (t.rw r' hr').2⟩
    · rw [List.map_append]
      have e1 : (rosOwn g r).map (·.1) = r.map (·.1) := by unfold rosOwn; rw [List.map_map]; rfl
      rw [e1]
      have hn' := List.nodup_cons.mp t.nd
      refine List.nodup_append.mpr ⟨gg.nd, hn'.2, fun a ha b hb hab => ?_⟩
      subst hab
      rcases List.mem_cons.mp ha with rfl | ha
      · exact hn'.1 hb
      · obtain ⟨z, hz, rfl⟩ := List.mem_map.mp ha
        obtain ⟨r', hr', e2⟩ := List.mem_map.mp hb
        have := (t.rw r' hr').1
        rw [e2, (f.frs z hz).2] at this
        cases this
  refine h1.perm ?_
  show ((((p, HO.lst (r.map rref)) :: pre) ++ ts.flatten) ++ rosOwn g r).Perm (((p, HO.lst (r.map rref)) :: pre) ++ (rosOwn g r ++ ts.flatten))
  rw [List.append_assoc]
  exact List.Perm.append_left _ List.perm_append_comm
/-- new objects, from a call -/
theorem Fr.comp {new : List (Addr × HO)} (f : Fr H0 H own) (n : Fr H H' new) : Fr H0 H' (new ++ own) := by
  refine ⟨f.same.trans n.same, fun z hz => ?_, ?_⟩
  · rcases List.mem_append.mp hz with hz | hz
    · exact ⟨f.fresh (n.frs z hz).1, (n.frs z hz).2⟩
    · exact ⟨(f.frs z hz).1, n.same _ _ (f.frs z hz).2⟩
  · rw [List.map_append]
    refine List.nodup_append.mpr ⟨n.nd, f.nd, fun a ha b hb hab => ?_⟩
    subst hab
    obtain ⟨z, hz, rfl⟩ := List.mem_map.mp ha
    obtain ⟨y, hy, e⟩ := List.mem_map.mp hb
    have h1 := (n.frs z hz).1
    rw [← e, (f.frs y hy).2] at h1
    cases h1
/-- what is handed back -/
theorem Fr.tabback (f : Fr H0 H ((p, .lst (rows.map rref)) :: (pre ++ (rosOwn g rows :: ts).flatten))) (h : rows.map (·.2) = C) : TabN H0 H g p rows C := by
  have f1 : Fr H0 H ((p, .lst (rows.map rref)) :: rosOwn g rows) :=
    f.sub (List.Sublist.cons_cons _ ((List.sublist_append_left _ _).trans (List.sublist_append_right _ _)))
  refine ⟨f1.n0, f1.at0, h, fun z hz => f1.frs (z.1, g z.2) (List.mem_cons_of_mem _ (List.mem_map.mpr ⟨z, hz, rfl⟩)), ?_⟩
  have := f1.nd
  rw [List.map_cons] at this
  have e1 : (rosOwn g rows).map (·.1) = rows.map (·.1) := by unfold rosOwn; rw [List.map_map]; rfl
  rwa [e1] at this
theorem Fr.tabback0 (f : Fr H0 H ((p, .lst (([] : List (RO β)).map rref)) :: own)) : TabN H0 H g p [] ([] : List β) :=
  ⟨f.n0, f.at0, rfl, (fun _ h => nomatch h), List.nodup_cons.mpr ⟨(fun h => nomatch h), List.nodup_nil⟩⟩
/-- a table by own facts -/
theorem Fr.tab (f : Fr H0 H (pre ++ ts.flatten)) (k j : Nat) (ho : (pre ++ ts.flatten)[k]? = some (p, .lst (rows.map rref))) (h : ts[j]? = some (rosOwn g rows)) (hc : rows.map (·.2) = C) : Tab H g p C :=
  ⟨⟨rows, hc, f.mem (List.mem_of_getElem? ho), fun z hz => f.rmem j h hz⟩⟩
/-- a table by its parts -/
theorem tab_lit {a : Addr} (hr : ∀ z ∈ rows, H z.1 = some (g z.2)) (ha : H a = some (.lst (rows.map rref))) (hc : rows.map (·.2) = C) : Tab H g a C := ⟨⟨rows, hc, ha, hr⟩⟩
theorem ros_nil : ∀ z ∈ ([] : List (RO β)), H z.1 = some (g z.2) := fun _ h => nomatch h
theorem ros_cons {a : Addr} {x : β} (h : H a = some (g x)) (hr : ∀ z ∈ rows, H z.1 = some (g z.2)) : ∀ z ∈ (a, x) :: rows, H z.1 = some (g z.2) := fun z hz => by
  rcases List.mem_cons.mp hz with rfl | hz
  · exact h
  · exact hr z hz
end
/-! rows at a place, casts, unrolled loops -/
section
variable {β : Type} {g : β → HO} {H0 H H' : Hp} {own pre : List (Addr × HO)} {ts : List (List (Addr × HO))} {p : Addr} {o o' : HO} {rows : List (RO β)} {C : List β}
theorem Fr.castk (f : Fr H0 H own) (k : Nat) (h : own[k]? = some (p, o)) (e : o = o') : Fr H0 H (own.set k (p, o')) := by
  subst e
  refine f.perm ?_
  have : own.set k (p, o) = own := by
    apply List.ext_getElem?
    intro j
    by_cases hj : k = j
    · subst hj
      obtain ⟨hl, he⟩ := List.getElem?_eq_some_iff.mp h
      rw [h]; simp [hl]
    · simp [hj]
  rw [this]
theorem ros_at (hr : ∀ z ∈ rows, H z.1 = some (g z.2)) (hc : rows.map (·.2) = C) (d : β) (i : Nat) (hi : i < C.length) : H (rows.getD i (0, d)).1 = some (g (C.getD i d)) := by
  have hl : i < rows.length := by rw [snd_len hc]; exact hi
  have := hr _ (getD_mem (d := ((0, d) : RO β)) hl)
  rwa [snd_at hc d 0 i hi] at this
theorem Fr.rat (f : Fr H0 H (pre ++ ts.flatten)) (k : Nat) (h : ts[k]? = some (rosOwn g rows)) (hc : rows.map (·.2) = C) (d : β) (i : Nat) (hi : i < C.length) : H (rows.getD i (0, d)).1 = some (g (C.getD i d)) :=
  ros_at (fun z hz => f.rmem k h hz) hc d i hi
theorem Fr.rwrD {i : Nat} {y : β} (f : Fr H0 H (pre ++ (rosOwn g rows :: ts).flatten)) (hc : rows.map (·.2) = C) (d : β) (hi : i < C.length) (e : o' = g y) :
    Fr H0 (upd H (rows.getD i (0, d)).1 o') (pre ++ (rosOwn g (rows.set i ((rows.getD i (0, d)).1, y)) :: ts).flatten) := by
  subst e
  have hl : i < rows.length := by rw [snd_len hc]; exact hi
  refine f.rwr hl ?_
  rw [List.getD_eq_getElem?_getD, List.getElem?_eq_getElem hl]; rfl
theorem len_rows (h : rows.map (·.2) = C) : (rows.map rref).length = C.length := by rw [List.length_map]; exact snd_len h
theorem rref_setD (i : Nat) (d y : β) (hc : rows.map (·.2) = C) (hi : i < C.length) : HO.lst (rows.map rref) = .lst ((rows.set i ((rows.getD i (0, d)).1, y)).map rref) :=
  congrArg HO.lst (rref_set i (0, d) y (by rw [snd_len hc]; exact hi))
theorem atRow (hc : rows.map (·.2) = C) (d : β) {i : Int} (h0 : 0 ≤ i) (h1 : i < (C.length : Int)) : atI (rows.map rref) i = some (V.ref (rows.getD i.toNat (0, d)).1) :=
  atD (f := rref) ((0, d) : RO β) h0 (by rw [snd_len hc]; exact h1)
theorem atRowLast (hc : rows.map (·.2) = C) (d : β) (h : 0 < C.length) : atI (rows.map rref) (-1) = some (V.ref (rows.getD (C.length - 1) (0, d)).1) := by
  have := atLastD (f := rref) ((0, d) : RO β) (xs := rows) (by rw [snd_len hc]; exact h)
  rw [snd_len hc] at this
  exact this
theorem ixRow (hc : rows.map (·.2) = C) {i : Int} (h0 : 0 ≤ i) (h1 : i < (C.length : Int)) : ixN (rows.map rref).length i = some i.toNat := ixDm h0 (by rw [snd_len hc]; exact h1)
theorem walkT {K : PySem.W.Frag} {a : Addr} (hc : rows.map (·.2) = C) : Walk (Itl K a) C.length (fun H => H a = some (.lst (rows.map rref))) (fun i H x H' => H' = H ∧ ∃ y : RO β, rows[i]? = some y ∧ C[i]? = some y.2 ∧ x = V.ref y.1) := by
  have w := walkL (K := K) (a := a) rref rows
  rw [snd_len hc] at w
  refine w.mono (fun _ h => h) fun i H x H' _ _ y => ?_
  obtain ⟨e, z, hz, hx⟩ := y
  exact ⟨e, z, hz, snd_get hc hz, hx⟩
theorem mtn {α : Type} {f : α → β} {ns : List α} {i : Nat} {y : α} {x : β} (h : ns[i]? = some y) (e : x = f y) : (ns.take i).map f ++ [x] = (ns.take (i + 1)).map f := by
  rw [take_next h, List.map_append, e]; rfl
theorem mrn {f : Nat → β} {i : Nat} {x : β} (e : x = f i) : (List.range i).map f ++ [x] = (List.range (i + 1)).map f := by
  rw [List.range_succ, List.map_append, e]; rfl
/-- a loop over a list, item by item -/
def unr (K : PySem.W.Frag) (a : Addr) (all : List V) (g : TG) (tb : TS) (D : Ends) : List V → L2.St → Hp → Prop
  | [], σ, H => SqL K H a all ∧ D.nx σ H
  | x :: xs, σ, H => SqL K H a all ∧ g x σ H fun σ2 H2 => tb { D with nx := unr K a all g tb D xs, ct := unr K a all g tb D xs, bk := D.nx } σ2 H2
theorem for_unr {K : PySem.W.Frag} {a : Addr} {g : TG} {tb : TS} {D : Ends} {σ : L2.St} {H : Hp} (all : List V) (h : unr K a all g tb D all σ H) :
    ∃ W : Nat → Nat → L2.St → Hp → Prop, (∃ m, W 0 m σ H) ∧ ∀ i m σ H, W i m σ H →
      ((Itl K a).stop i H ∧ D.nx σ H) ∨ ((Itl K a).go i H ∧ ∃ N : L2.St → Hp → Prop, (∀ σ' H', N σ' H' → ∃ m', m' < m ∧ W (i + 1) m' σ' H') ∧ ∀ x H', (Itl K a).yld i H x H' → g x σ H' fun σ2 H2 => tb { D with nx := N, ct := N, bk := D.nx } σ2 H2) := by
  refine for_it (walk_list (xs := all)) (fun i σ H => unr K a all g tb D (all.drop i) σ H) h (fun i σ H _ p => ?_) (fun i x σ H H' hi p y => ?_) (fun σ H p => ?_)
  · cases e : all.drop i with
    | nil => rw [e] at p; exact p.1
    | cons x xs => rw [e] at p; exact p.1
  · obtain ⟨rfl, hx⟩ := y
    have e : all.drop i = x :: all.drop (i + 1) := by
      rw [List.drop_eq_getElem_cons hi]
      congr 1
      rw [List.getElem?_eq_getElem hi] at hx
      exact Option.some.inj hx
    rw [e] at p
    exact p.2
  · rw [List.drop_length] at p
    exact p.2
end
/-! == of tables -/
section
variable {β : Type} {g : β → HO} {K : PySem.W.Frag} {H : Hp} {a : Addr} {C : List β} {gd : β → PyData}
theorem dp_tab (t : Tab H g a C) (h : ∀ (b : Addr) (x : β), H b = some (g x) → Dp K H (.ref b) (gd x)) : Dp K H (.ref a) (.list (C.map gd)) := by
  obtain ⟨r, hc, ha, hr⟩ := t.ex
  subst hc
  refine .lst (SqL.of ha) ?_
  rw [List.map_map]
  clear ha t
  revert hr
  induction r with
  | nil => intro _; exact .nil
  | cons z r ih => intro hr; exact .cons (h _ _ (hr z List.mem_cons_self)) (ih fun w hw => hr w (List.mem_cons_of_mem _ hw))
theorem okd_tab {n : Nat} (h : ∀ x : β, Okd n (gd x)) : Okd (n + 1) (.list (C.map gd)) :=
  ⟨canAll (fun x => (h x).can) C, Nat.succ_le_succ (depthAll (fun x => (h x).dep) C)⟩
theorem dp_tabI {C : List (List Int)} (t : Tab H gI a C) : Dp K H (.ref a) (.list (C.map dI)) := dp_tab t fun _ _ h => dp_ints h
theorem dp_tabB {C : List (List Bool)} (t : Tab H gB a C) : Dp K H (.ref a) (.list (C.map dB)) := dp_tab t fun _ _ h => dp_bls h
theorem okd_tabI {n : Nat} (C : List (List Int)) : Okd (n + 2) (.list (C.map dI)) := okd_tab fun x => okd_ints x
theorem okd_tabB {n : Nat} (C : List (List Bool)) : Okd (n + 2) (.list (C.map dB)) := okd_tab fun x => okd_bls x
theorem eqv_tabI (C D : List (List Int)) : PyData.eqv (.list (C.map dI)) (.list (D.map dI)) = decide (C = D) := eqvAll_map (fun x y => eqv_ints x y) C D
theorem eqv_tabB (C D : List (List Bool)) : PyData.eqv (.list (C.map dB)) (.list (D.map dB)) = decide (C = D) := eqvAll_map (fun x y => eqv_bls x y) C D
theorem Tab.tov {C : List (List Int)} (t : Tab H gI a C) : Tab H gV a (C.map (List.map V.int)) := by
  obtain ⟨r, hc, ha, hr⟩ := t.ex
  refine ⟨r.map fun z => (z.1, z.2.map V.int), ?_, ?_, fun z hz => ?_⟩
  · rw [← hc, List.map_map, List.map_map]; rfl
  · rw [ha, List.map_map]; rfl
  · obtain ⟨w, hw, rfl⟩ := List.mem_map.mp hz
    exact hr w hw
theorem dp_tabV {C : List (List V)} (t : Tab H gV a C) (hs : ∀ x ∈ C, Sca x) : Dp K H (.ref a) (.list (C.map dV)) := by
  obtain ⟨r, hc, ha, hr⟩ := t.ex
  subst hc
  refine .lst (SqL.of ha) ?_
  rw [List.map_map]
  clear ha t
  revert hr hs
  induction r with
  | nil => intro _ _; exact .nil
  | cons z r ih =>
    intro hr hs
    refine .cons (dp_vals (hr z List.mem_cons_self) (hs z.2 ?_)) (ih (fun w hw => hr w (List.mem_cons_of_mem _ hw)) fun x hx => hs x ?_)
    · rw [List.map_cons]; exact List.mem_cons_self
    · rw [List.map_cons]; exact List.mem_cons_of_mem _ hx
theorem okd_tabV {n : Nat} {C : List (List V)} (hs : ∀ x ∈ C, Sca x) : Okd (n + 2) (.list (C.map dV)) := by
  refine ⟨?_, ?_⟩
  · show PyData.canLayAll0 (C.map dV) = true
    induction C with
    | nil => rfl
    | cons x C ih =>
      show ((dV x).canLay0 && PyData.canLayAll0 (C.map dV)) = true
      have h1 : Okd (n + 1) (dV x) := okd_vals (hs x List.mem_cons_self)
      rw [h1.can, ih fun v hv => hs v (List.mem_cons_of_mem _ hv)]; rfl
  · refine Nat.succ_le_succ (depthAll (n := n + 1) (fun xs => ?_) C)
    exact Nat.succ_le_succ (Nat.le_trans (depthAll (n := 0) (fun v => by cases v <;> exact Nat.zero_le _) xs) (Nat.zero_le _))
theorem eqv_II (a b c d : Int) : PyData.eqv (.tuple [.int a, .int b]) (.tuple [.int c, .int d]) = decide (a = c ∧ b = d) := by
  show ((a == c) && ((b == d) && true)) = _
  by_cases h : a = c
  · by_cases h' : b = d
    · simp [h, h']
    · simp [h']
  · simp [h]
end
end Rc
namespace Rc
open PySem PySem.Spec PyProof.Rows L2
section
variable {X : Cx}
theorem str_dec {i j : Str} : decide (V.str i = V.str j) = decide (i = j) := by
  by_cases h : i = j
  · subst h; rw [decide_eq_true rfl, decide_eq_true rfl]
  · rw [decide_eq_false h, decide_eq_false fun z => h (V.str.inj z)]
theorem op_eqStr : OpR X (compareOp .Eq) (fun x y H Q => ∃ i j : Str, x = .str i ∧ y = .str j ∧ (i = j → Q (.bl true) H) ∧ (¬ i = j → Q (.bl false) H)) := by
  intro pins s σ H x y v u Q I rx ry h
  obtain ⟨i, j, rfl, rfl, q1, q2⟩ := h
  refine op_eq pins s σ H _ _ v u Q I rx ry ⟨rfl, ?_⟩
  rw [str_dec]
  by_cases h : i = j
  · rw [decide_eq_true h]; exact q1 h
  · rw [decide_eq_false h]; exact q2 h
theorem op_neStr : OpR X (compareOp .NotEq) (fun x y H Q => ∃ i j : Str, x = .str i ∧ y = .str j ∧ (¬ i = j → Q (.bl true) H) ∧ (i = j → Q (.bl false) H)) := by
  intro pins s σ H x y v u Q I rx ry h
  obtain ⟨i, j, rfl, rfl, q1, q2⟩ := h
  refine op_ne pins s σ H _ _ v u Q I rx ry ⟨rfl, ?_⟩
  rw [str_dec]
  by_cases h : i = j
  · rw [decide_eq_true h]; exact q2 h
  · rw [decide_eq_false h]; exact q1 h
end
/-! words: parts that are whole -/
def intV : V → Int
  | .int x => x
  | _ => 0
def intsV (w : List V) : List Int := w.map intV
theorem intsV_map (w : List Int) : intsV (w.map V.int) = w := by
  unfold intsV; rw [List.map_map]; exact (List.map_congr_left fun _ _ => rfl).trans (List.map_id w)
theorem wordPart_int {m : Nat} {v : V} (h : wordPart m v = true) : v = V.int (intV v) ∧ 0 ≤ intV v ∧ intV v < (m : Int) := by
  cases v with
  | int z =>
    have h' : (decide (0 ≤ z) && decide (z < (m : Int))) = true := h
    rw [Bool.and_eq_true, decide_eq_true_eq, decide_eq_true_eq] at h'
    exact ⟨rfl, h'⟩
  | _ => cases h
theorem isWordV_ex {m : Nat} {w : List V} {n : Int} (h : isWordV m w n = true) : ∃ u : List Int, w = u.map V.int ∧ (∀ x ∈ u, 0 ≤ x ∧ x < (m : Int)) ∧ (u.length : Int) = n := by
  unfold isWordV at h
  rw [Bool.and_eq_true, decide_eq_true_eq, List.all_eq_true] at h
  refine ⟨intsV w, ?_, fun x hx => ?_, ?_⟩
  · unfold intsV; rw [List.map_map]
    refine (List.map_id w).symm.trans (List.map_congr_left fun v hv => ?_)
    exact (wordPart_int (h.2 v hv)).1
  · obtain ⟨v, hv, rfl⟩ := List.mem_map.mp hx
    exact (wordPart_int (h.2 v hv)).2
  · unfold intsV; rw [List.length_map]; exact h.1
end Rc
namespace Rc
open PySem PySem.Spec PyProof.Rows L2
/-! // by divisors below 0, too, of any size -/
def CDivNW (i j : Int) : Prop := j ≠ 0 ∧ j.natAbs.log2 < 9000
theorem op_fdivNW {X : Cx} : OpR X (binaryOp .FloorDiv) (rI CDivNW fun i j => .int (i.fdiv j)) := opI fun _ _ _ _ _ _ _ hc q => floordiv_int hc.1 q (.inl (PyProof.noPylong_of_log2 hc.2))
end Rc
namespace Rc
open PySem PySem.Spec PyProof.Rows L2
/-! lists of lists of pairs: a row holds the addresses of its pairs -/
abbrev RT := RO (Int × Int)
abbrev gR : List RT → HO := fun rs => .lst (rs.map rref)
def flatR (rows : List (RO (List RT))) : List RT := (rows.map (·.2)).flatten
def contR (rows : List (RO (List RT))) : List (List (Int × Int)) := rows.map fun r => r.2.map (·.2)
section
variable {H0 H H' : Hp} {own pre : List (Addr × HO)} {ts : List (List (Addr × HO))} {p : Addr} {rows : List (RO (List RT))} {x : List RT} {C : List (List (Int × Int))}
theorem flatR_app : flatR (rows ++ [(p, x)]) = flatR rows ++ x := by unfold flatR; rw [List.map_append, List.flatten_append]; simp
theorem contR_app (h : contR rows = C) {c : List (Int × Int)} (hc : x.map (·.2) = c) : contR (rows ++ [(p, x)]) = C ++ [c] := by
  unfold contR at *; rw [List.map_append, h]; show _ ++ [x.map (·.2)] = _; rw [hc]
theorem contR_len (h : contR rows = C) : rows.length = C.length := by rw [← h]; unfold contR; rw [List.length_map]
theorem tri_len (h : contR rows = C) : (rows.map rref).length = C.length := by rw [List.length_map]; exact contR_len h
theorem contR_get {i : Nat} {r : RO (List RT)} (h : contR rows = C) (hr : rows[i]? = some r) : C[i]? = some (r.2.map (·.2)) := by subst h; unfold contR; rw [List.getElem?_map, hr]; rfl
theorem perm3 {α : Type} (X A R : List α) : (X ++ (A ++ R)).Perm (A ++ (X ++ R)) := by
  rw [← List.append_assoc, ← List.append_assoc A X R]; exact List.Perm.append_right _ List.perm_append_comm
/-- a list of own pairs becomes a row -/
theorem Fr.triadd (f : Fr H0 H ((p, gR x) :: (pre ++ (rosOwn gII x :: rosOwn gR rows :: rosOwn gII (flatR rows) :: ts).flatten))) :
    Fr H0 H (pre ++ (rosOwn gR (rows ++ [(p, x)]) :: rosOwn gII (flatR (rows ++ [(p, x)])) :: ts).flatten) := by
  refine f.perm ?_
  have e1 : rosOwn gR (rows ++ [(p, x)]) = rosOwn gR rows ++ [(p, gR x)] := by unfold rosOwn; rw [List.map_append]; rfl
  have e2 : rosOwn gII (flatR (rows ++ [(p, x)])) = rosOwn gII (flatR rows) ++ rosOwn gII x := by rw [flatR_app]; unfold rosOwn; rw [List.map_append]
  rw [e1, e2]
  show ((p, gR x) :: (pre ++ (rosOwn gII x ++ (rosOwn gR rows ++ (rosOwn gII (flatR rows) ++ ts.flatten))))).Perm (pre ++ ((rosOwn gR rows ++ [(p, gR x)]) ++ ((rosOwn gII (flatR rows) ++ rosOwn gII x) ++ ts.flatten)))
  refine List.perm_middle.symm.trans (List.Perm.append_left _ ?_)
  generalize rosOwn gII x = X
  generalize rosOwn gR rows = A
  generalize rosOwn gII (flatR rows) = B
  generalize ts.flatten = Z
  have h1 : ((p, gR x) :: (X ++ (A ++ (B ++ Z)))).Perm ((p, gR x) :: (A ++ (B ++ (X ++ Z)))) := by
    refine List.Perm.cons _ ?_
    exact (perm3 X A (B ++ Z)).trans (List.Perm.append_left _ (perm3 X B Z))
  refine h1.trans ?_
  rw [List.append_assoc, List.append_assoc]
  exact List.perm_middle.symm
/-- such a list from a call -/
structure TriN (H H' : Hp) (a : Addr) (rows : List (RO (List RT))) (C : List (List (Int × Int))) : Prop where
  n : H a = none
  e : H' a = some (.lst (rows.map rref))
  c : contR rows = C
  f : ∀ z ∈ rosOwn gR rows ++ rosOwn gII (flatR rows), H z.1 = none ∧ H' z.1 = some z.2
  nd : (a :: (rosOwn gR rows ++ rosOwn gII (flatR rows)).map (·.1)).Nodup
theorem Fr.trin (t : TriN H H' p rows C) (s : Same H H') : Fr H H' ((p, .lst (rows.map rref)) :: (rosOwn gR rows ++ rosOwn gII (flatR rows))) :=
  ⟨s, fun z hz => by
    rcases List.mem_cons.mp hz with rfl | hz
    · exact ⟨t.n, t.e⟩
    · exact t.f z hz, t.nd⟩
theorem Fr.ctri (f : Fr H0 H (pre ++ ts.flatten)) (s : Same H H') (t : TriN H H' p rows C) : Fr H0 H' (((p, .lst (rows.map rref)) :: pre) ++ (rosOwn gR rows :: rosOwn gII (flatR rows) :: ts).flatten) := by
  refine (Fr.comp f (Fr.trin t s)).perm ?_
  show (((p, HO.lst (rows.map rref)) :: (rosOwn gR rows ++ rosOwn gII (flatR rows))) ++ (pre ++ ts.flatten)).Perm ((p, HO.lst (rows.map rref)) :: (pre ++ (rosOwn gR rows ++ (rosOwn gII (flatR rows) ++ ts.flatten))))
  refine List.Perm.cons _ ?_
  generalize rosOwn gR rows = A
  generalize rosOwn gII (flatR rows) = B
  generalize ts.flatten = Z
  refine (perm3 (A ++ B) pre Z).trans ?_
  rw [List.append_assoc A B Z]
theorem Fr.triback (f : Fr H0 H ([(p, .lst (rows.map rref))] ++ (rosOwn gR rows :: rosOwn gII (flatR rows) :: []).flatten)) (hc : contR rows = C) : TriN H0 H p rows C := by
  have e : ([(p, HO.lst (rows.map rref))] ++ (rosOwn gR rows :: rosOwn gII (flatR rows) :: []).flatten) = (p, .lst (rows.map rref)) :: (rosOwn gR rows ++ rosOwn gII (flatR rows)) := by simp
  rw [e] at f
  have h0 := f.frs (p, .lst (rows.map rref)) List.mem_cons_self
  exact ⟨h0.1, h0.2, hc, fun z hz => f.frs z (List.mem_cons_of_mem _ hz), f.nd⟩
theorem tri_mem {r : RO (List RT)} {t : RT} {i j : Nat} (hr : rows[i]? = some r) (ht : r.2[j]? = some t) : t ∈ flatR rows := by
  unfold flatR
  exact List.mem_flatten.mpr ⟨r.2, List.mem_map.mpr ⟨r, List.mem_of_getElem? hr, rfl⟩, List.mem_of_getElem? ht⟩
end
end Rc
namespace Rc
/-- the number of ways to choose -/
def bin : Nat → Nat → Nat
  | _, 0 => 1
  | 0, _ + 1 => 0
  | n + 1, k + 1 => bin n k + bin n (k + 1)
@[simp] theorem bin_zero (n : Nat) : bin n 0 = 1 := by cases n <;> rfl
@[simp] theorem bin_zero_succ (k : Nat) : bin 0 (k + 1) = 0 := rfl
theorem bin_succ (n k : Nat) : bin (n + 1) (k + 1) = bin n k + bin n (k + 1) := rfl
theorem bin_gt : ∀ {n k : Nat}, n < k → bin n k = 0
  | _, 0, h => by omega
  | 0, _ + 1, _ => rfl
  | n + 1, k + 1, h => by rw [bin_succ, bin_gt (show n < k by omega), bin_gt (show n < k + 1 by omega)]
@[simp] theorem bin_self : ∀ n : Nat, bin n n = 1
  | 0 => rfl
  | n + 1 => by rw [bin_succ, bin_self n, bin_gt (Nat.lt_succ_self n)]
theorem bin_one : ∀ n : Nat, bin n 1 = n
  | 0 => rfl
  | n + 1 => by rw [bin_succ, bin_zero, bin_one n]; omega
theorem bin_smul : ∀ n k : Nat, (k + 1) * bin (n + 1) (k + 1) = (n + 1) * bin n k
  | 0, 0 => rfl
  | 0, k + 1 => by rw [bin_succ]; simp
  | n + 1, 0 => by rw [bin_one]; simp
  | n + 1, k + 1 => by
    have h1 := bin_smul n k
    have h2 := bin_smul n (k + 1)
    have e : bin (n + 1) (k + 1) = bin n k + bin n (k + 1) := bin_succ n k
    rw [bin_succ (n + 1) (k + 1)]
    grind
theorem bin_mul (n k : Nat) : (k + 1) * bin n (k + 1) + k * bin n k = n * bin n k := by
  have h := bin_smul n k
  rw [bin_succ] at h
  grind
theorem bin_mulZ (n k : Nat) : (bin n (k + 1) : Int) * (k + 1) = bin n k * ((n : Int) - k) := by
  have h := bin_mul n k
  have h' : ((k : Int) + 1) * bin n (k + 1) + k * bin n k = n * bin n k := by exact_mod_cast h
  grind
theorem bin_add_symm : ∀ a b : Nat, bin (a + b) a = bin (a + b) b
  | 0, b => by simp
  | a + 1, 0 => by simp
  | a + 1, b + 1 => by
    have h1 := bin_add_symm a (b + 1)
    have h2 := bin_add_symm (a + 1) b
    have e1 : a + 1 + (b + 1) = (a + (b + 1)) + 1 := by omega
    have e2 : a + 1 + b = a + (b + 1) := by omega
    rw [e2] at h2
    rw [e1, bin_succ, bin_succ]
    omega
theorem bin_symm {n k : Nat} (h : k ≤ n) : bin n k = bin n (n - k) := by
  have := bin_add_symm k (n - k)
  rwa [show k + (n - k) = n by omega] at this
/-- choose, of whole numbers -/
def chooseZ (n k : Int) : Int := if k < 0 ∨ n < k then 0 else (bin n.toNat k.toNat : Nat)
theorem chooseZ_out {n k : Int} (h : k < 0 ∨ n < k) : chooseZ n k = 0 := if_pos h
theorem chooseZ_in {n k : Int} (h0 : 0 ≤ k) (h1 : k ≤ n) : chooseZ n k = bin n.toNat k.toNat := if_neg (by omega)
theorem chooseZ_min {n k : Int} (h0 : 0 ≤ k) (h1 : k ≤ n) : chooseZ n k = bin n.toNat (min k (n - k)).toNat := by
  rw [chooseZ_in h0 h1]
  by_cases h : k ≤ n - k
  · rw [show min k (n - k) = k by omega]
  · rw [show min k (n - k) = n - k by omega, bin_symm (show k.toNat ≤ n.toNat by omega)]
    congr 2; omega
theorem choose_step {n : Int} {t : Nat} {found : Int} (hf : found = (bin n.toNat t : Nat)) (hn : 0 ≤ n) (ht : (t : Int) < n) : found * (n - t) / (t + 1) = (bin n.toNat (t + 1) : Nat) := by
  have h := bin_mulZ n.toNat t
  rw [Int.toNat_of_nonneg hn] at h
  rw [hf, ← h]
  exact Int.mul_ediv_cancel _ (by omega)
/-- n (n - 1) .. k factors -/
def falling (n : Int) : Nat → Int
  | 0 => 1
  | k + 1 => falling n k * (n - k)
theorem bin_falling (n : Nat) : ∀ k, (bin n k : Int) * falling k k = falling n k := by
  have key : ∀ k j : Nat, falling ((k + 1 : Nat) : Int) (j + 1) = ((k : Int) + 1) * falling k j := by
    intro k j
    induction j with
    | zero => simp [falling]
    | succ j ih => rw [falling, ih, falling]; grind
  intro k
  induction k with
  | zero => simp [falling]
  | succ k ih =>
    rw [key, falling, ← ih]
    have := bin_mulZ n k
    grind
theorem choose_falls {n k : Int} (h0 : 0 ≤ k) (h1 : k ≤ n) : (bin n.toNat k.toNat : Int) * falling k k.toNat = falling n k.toNat := by
  obtain ⟨a, rfl⟩ := Int.eq_ofNat_of_zero_le h0
  obtain ⟨b, rfl⟩ := Int.eq_ofNat_of_zero_le (show 0 ≤ n by omega)
  exact bin_falling b a
theorem chooseZ_pascal {n k : Int} (hn : 0 < n) : chooseZ (n - 1) k + chooseZ (n - 1) (k - 1) = chooseZ n k := by
  by_cases h0 : k < 0
  · rw [chooseZ_out (.inl h0), chooseZ_out (by omega), chooseZ_out (.inl h0)]; rfl
  by_cases h1 : n < k
  · rw [chooseZ_out (by omega), chooseZ_out (by omega), chooseZ_out (.inr h1)]; rfl
  obtain ⟨m, hm⟩ : ∃ m : Nat, n = m + 1 := ⟨(n - 1).toNat, by omega⟩
  subst hm
  have em : ((m : Int) + 1 - 1) = m := by omega
  rw [em, chooseZ_in (n := (m : Int) + 1) (by omega) (by omega)]
  have e1 : ((m : Int) + 1).toNat = m + 1 := by omega
  rw [e1]
  by_cases hk : k = 0
  · subst hk
    rw [chooseZ_in (by omega) (by omega), chooseZ_out (by omega)]; simp
  · obtain ⟨j, hj⟩ : ∃ j : Nat, k = j + 1 := ⟨(k - 1).toNat, by omega⟩
    subst hj
    have e2 : ((j : Int) + 1).toNat = j + 1 := by omega
    have e3 : ((j : Int) + 1 - 1) = j := by omega
    rw [e2, e3, bin_succ]
    rw [chooseZ_in (n := (m : Int)) (k := (j : Int)) (by omega) (by omega), Int.toNat_natCast, Int.toNat_natCast]
    by_cases hl : (j : Int) + 1 ≤ m
    · rw [chooseZ_in (by omega) hl, e2, Int.toNat_natCast]; omega
    · rw [chooseZ_out (by omega), bin_gt (show m < j + 1 by omega)]; simp
theorem chooseZ_sub {n k : Int} (h0 : 0 ≤ k) (h1 : k ≤ n) : chooseZ n (n - k) = chooseZ n k := by
  rw [chooseZ_in (by omega) (by omega), chooseZ_in h0 h1, bin_symm (show k.toNat ≤ n.toNat by omega)]
  congr 2; omega
/-- bounds -/
structure Bd (k : Nat) (i : Int) : Prop where
  lt : i.natAbs < 2 ^ k
theorem Bd.mono {a b : Nat} {i : Int} (h : Bd a i) (hab : a ≤ b) : Bd b i := ⟨Nat.lt_of_lt_of_le h.lt (Nat.pow_le_pow_right (by decide) hab)⟩
theorem Bd.mul {a b : Nat} {i j : Int} (h : Bd a i) (h' : Bd b j) : Bd (a + b) (i * j) := ⟨by
  rw [Int.natAbs_mul, Nat.pow_add]
  exact Nat.mul_lt_mul'' h.lt h'.lt⟩
theorem Bd.one (k : Nat) : Bd (k + 1) 1 := ⟨by
  have := Nat.pow_le_pow_right (n := 2) (by decide) (show 1 ≤ k + 1 by omega)
  have : (1 : Int).natAbs = 1 := rfl
  omega⟩
theorem bin_le_pow (n : Nat) : ∀ k, bin n k ≤ n ^ k := by
  induction n with
  | zero => intro k; cases k <;> simp
  | succ n ih =>
    intro k
    cases k with
    | zero => simp
    | succ k =>
      rw [bin_succ, Nat.pow_succ]
      have h1 := ih k
      have h2 := ih (k + 1)
      have h3 : n ^ k ≤ (n + 1) ^ k := Nat.pow_le_pow_left (by omega) k
      rw [Nat.pow_succ] at h2
      have h4 : n ^ k * n ≤ (n + 1) ^ k * n := Nat.mul_le_mul_right _ h3
      have : (n + 1) ^ k * (n + 1) = (n + 1) ^ k * n + (n + 1) ^ k := by rw [Nat.mul_add, Nat.mul_one]
      omega
theorem Bd.bin {n t B : Nat} (hn : n < 2 ^ B) : Bd (B * t + 1) (Rc.bin n t : Nat) := ⟨by
  rw [Int.natAbs_natCast]
  have h1 := bin_le_pow n t
  have h2 : n ^ t ≤ (2 ^ B) ^ t := Nat.pow_le_pow_left (Nat.le_of_lt hn) t
  rw [← Nat.pow_mul] at h2
  have h3 : 2 ^ (B * t) < 2 ^ (B * t + 1) := Nat.pow_lt_pow_right (by decide) (by omega)
  omega⟩
theorem Bd.falling {n : Int} {B : Nat} (hB : Bd B n) (h0 : 0 ≤ n) : ∀ {t : Nat}, (t : Int) ≤ n → Bd (B * t + 1) (Rc.falling n t)
  | 0, _ => Bd.one _
  | t + 1, h => by
    have h1 : Bd B (n - t) := ⟨by have := hB.lt; omega⟩
    have := (Bd.falling hB h0 (t := t) (by omega)).mul h1
    exact this.mono (by rw [Nat.mul_succ]; omega)
end Rc
namespace Rc
theorem pick60 (c : Int) : 1 ≤ ([60, 12] : List Int).getD (Int.toNat (min 1 (c % 8))) 0 ∧ ([60, 12] : List Int).getD (Int.toNat (min 1 (c % 8))) 0 ≤ 60 := by
  have h : min 1 (c % 8) = 0 ∨ min 1 (c % 8) = 1 := by omega
  rcases h with h | h <;> rw [h] <;> decide
def upto (n : Nat) : List Int := (List.range n).map fun i : Nat => (i : Int)
@[simp] theorem upto_length (n : Nat) : (upto n).length = n := by simp [upto]
theorem upto_succ (n : Nat) : upto (n + 1) = upto n ++ [(n : Int)] := by simp [upto, List.range_succ]
theorem mem_upto {n : Nat} {x : Int} : x ∈ upto n ↔ 0 ≤ x ∧ x < n := by
  unfold upto
  rw [List.mem_map]
  constructor
  · rintro ⟨i, hi, rfl⟩
    have := List.mem_range.mp hi
    omega
  · rintro ⟨h0, h1⟩
    exact ⟨x.toNat, List.mem_range.mpr (by omega), by omega⟩
theorem upto_nodup (n : Nat) : (upto n).Nodup := by
  unfold upto
  rw [List.nodup_iff_pairwise_ne, List.pairwise_map]
  exact (List.nodup_range (n := n)).imp fun h e => h (Int.ofNat.inj e)
theorem upto_getElem? {n i : Nat} (h : i < n) : (upto n)[i]? = some (i : Int) := by
  unfold upto; rw [List.getElem?_map, List.getElem?_range h]; rfl
theorem upto_getElem {n i : Nat} (h : i < (upto n).length) : (upto n)[i] = (i : Int) := by simp [upto]
/-- an order of its cards -/
def IsOrd (xs : List Int) : Prop := xs.Perm (upto xs.length)
theorem IsOrd.nodup {xs : List Int} (h : IsOrd xs) : xs.Nodup := h.nodup_iff.mpr (upto_nodup _)
theorem IsOrd.mem {xs : List Int} (h : IsOrd xs) {x : Int} : x ∈ xs ↔ 0 ≤ x ∧ x < xs.length := by rw [List.Perm.mem_iff h, mem_upto]
theorem IsOrd.bd {xs : List Int} (h : IsOrd xs) {i : Nat} {x : Int} (e : xs[i]? = some x) : 0 ≤ x ∧ x < xs.length := h.mem.mp (List.mem_of_getElem? e)
theorem isOrd_upto (n : Nat) : IsOrd (upto n) := by unfold IsOrd; rw [upto_length]
theorem isOrd_of {xs : List Int} {n : Nat} (h : xs.Perm (upto n)) : IsOrd xs := by
  have := h.length_eq
  rw [upto_length] at this
  unfold IsOrd; rwa [this]
theorem perm_of_nodup : ∀ {xs ys : List Int}, xs.Nodup → (∀ x ∈ xs, x ∈ ys) → ys.length ≤ xs.length → xs.Perm ys
  | [], ys, _, _, hl => by
    have : ys = [] := List.eq_nil_of_length_eq_zero (by simpa using hl)
    subst this; exact List.Perm.refl _
  | x :: xs, ys, hn, hs, hl => by
    have hx : x ∈ ys := hs x List.mem_cons_self
    have h1 := List.perm_cons_erase hx
    have hlen : (ys.erase x).length = ys.length - 1 := List.length_erase_of_mem hx
    have hn' := List.nodup_cons.mp hn
    have ih := perm_of_nodup (ys := ys.erase x) hn'.2 (fun y hy => by
      have hne : y ≠ x := fun e => hn'.1 (e ▸ hy)
      exact (List.mem_erase_of_ne hne).mpr (hs y (List.mem_cons_of_mem _ hy))) (by
        rw [List.length_cons] at hl; omega)
    exact (ih.cons x).trans h1.symm
theorem eraseIdx_perm {α : Type} : ∀ {ls : List α} {k : Nat} (h : k < ls.length), (ls[k] :: ls.eraseIdx k).Perm ls
  | [], _, h => by simp at h
  | _ :: _, 0, _ => List.Perm.refl _
  | x :: ls, k + 1, h => by
    have hk : k < ls.length := by simpa using h
    have ih := eraseIdx_perm hk
    show (ls[k] :: x :: ls.eraseIdx k).Perm (x :: ls)
    exact (List.Perm.swap _ _ _).trans (ih.cons x)
/-- as many different cards below their number -/
theorem isOrd_of_nodup {xs : List Int} (hn : xs.Nodup) (hb : ∀ x ∈ xs, 0 ≤ x ∧ x < xs.length) : IsOrd xs := by
  exact perm_of_nodup hn (fun x hx => mem_upto.mpr (hb x hx)) (by rw [upto_length]; exact Nat.le_refl _)
/-- a card taken out of what is left -/
theorem take_perm {os ls : List Int} {n k : Nat} (h : (os ++ ls).Perm (upto n)) (hk : k < ls.length) : ((os ++ [ls.getD k 0]) ++ ls.eraseIdx k).Perm (upto n) := by
  have e : ls.getD k 0 = ls[k] := by simp [List.getD, hk]
  have h1 : (ls[k] :: ls.eraseIdx k).Perm ls := eraseIdx_perm hk
  refine List.Perm.trans ?_ h
  rw [e, List.append_assoc]
  exact List.Perm.append_left _ h1
def placesI (o : List Int) : List Int := (List.range o.length).map fun c : Nat => (o.idxOf (c : Int) : Int)
def laidI (one other : List Int) : List Int := other.map fun p => one.getD p.toNat 0
@[simp] theorem placesI_length (o : List Int) : (placesI o).length = o.length := by simp [placesI]
@[simp] theorem laidI_length (one other : List Int) : (laidI one other).length = other.length := by simp [laidI]
theorem idxOf_lt {o : List Int} (h : IsOrd o) {c : Nat} (hc : c < o.length) : o.idxOf (c : Int) < o.length := List.idxOf_lt_length_of_mem (h.mem.mpr ⟨by omega, by omega⟩)
theorem idxOf_at {o : List Int} (h : o.Nodup) {i : Nat} {x : Int} (e : o[i]? = some x) : o.idxOf x = i := by
  obtain ⟨hi, rfl⟩ := List.getElem?_eq_some_iff.mp e
  exact h.idxOf_getElem i hi
theorem at_idxOf {o : List Int} {x : Int} (h : x ∈ o) : o.getD (o.idxOf x) 0 = x := by
  have hl := List.idxOf_lt_length_of_mem h
  rw [List.getD_eq_getElem?_getD, List.getElem?_eq_getElem hl, List.getElem_idxOf]; rfl
theorem placesI_getD {o : List Int} {c : Nat} (hc : c < o.length) : (placesI o).getD c 0 = (o.idxOf (c : Int) : Int) := by
  rw [List.getD_eq_getElem?_getD]; simp [placesI, hc]
theorem isOrd_placesI {o : List Int} (h : IsOrd o) : IsOrd (placesI o) := by
  refine isOrd_of_nodup ?_ ?_
  · unfold placesI
    rw [List.nodup_iff_pairwise_ne, List.pairwise_map]
    refine List.Pairwise.imp_of_mem ?_ (List.nodup_range (n := o.length))
    intro a b ha hb hne e
    have ha' := List.mem_range.mp ha
    have hb' := List.mem_range.mp hb
    have e1 : o.idxOf (a : Int) = o.idxOf (b : Int) := by omega
    have h1 := at_idxOf (h.mem.mpr ⟨show (0 : Int) ≤ (a : Int) by omega, show (a : Int) < o.length by omega⟩)
    have h2 := at_idxOf (h.mem.mpr ⟨show (0 : Int) ≤ (b : Int) by omega, show (b : Int) < o.length by omega⟩)
    rw [e1, h2] at h1
    omega
  · intro x hx
    obtain ⟨c, hc, rfl⟩ := List.mem_map.mp hx
    have := idxOf_lt h (List.mem_range.mp hc)
    rw [placesI_length]
    omega
theorem placesI_idxOf {o : List Int} (h : IsOrd o) {i : Nat} {x : Int} (e : o[i]? = some x) : (placesI o).idxOf (i : Int) = x.toNat := by
  have hb := h.bd e
  have hx : x.toNat < o.length := by omega
  refine idxOf_at (isOrd_placesI h).nodup ?_
  unfold placesI
  rw [List.getElem?_map, List.getElem?_range hx]
  have : ((x.toNat : Nat) : Int) = x := by omega
  simp only [Option.map_some, this, idxOf_at h.nodup e]
theorem placesI_placesI {o : List Int} (h : IsOrd o) : placesI (placesI o) = o := by
  apply List.ext_getElem?
  intro i
  by_cases hi : i < o.length
  · have e : o[i]? = some o[i] := List.getElem?_eq_getElem hi
    have := placesI_idxOf h e
    have hb := h.bd e
    rw [e]
    show ((List.range (placesI o).length).map fun c : Nat => ((placesI o).idxOf (c : Int) : Int))[i]? = _
    rw [List.getElem?_map, List.getElem?_range (by simpa using hi)]
    simp only [Option.map_some, this]
    congr 1; omega
  · rw [List.getElem?_eq_none (by simp; omega), List.getElem?_eq_none (by omega)]
theorem laidI_upto {o : List Int} (h : IsOrd o) : laidI (upto o.length) o = o := by
  unfold laidI
  conv => rhs; rw [← List.map_id o]
  apply List.map_congr_left
  intro x hx
  have := h.mem.mp hx
  rw [List.getD_eq_getElem?_getD, upto_getElem? (by omega)]
  simp; omega
theorem laidI_places {o : List Int} (h : IsOrd o) : laidI o (placesI o) = upto o.length := by
  unfold laidI placesI upto
  rw [List.map_map]
  apply List.map_congr_left
  intro c hc
  have hc' := List.mem_range.mp hc
  simp only [Function.comp]
  rw [Int.toNat_natCast]
  exact at_idxOf (h.mem.mpr ⟨by omega, by omega⟩)
theorem laidI_assoc {a b c : List Int} (hb : ∀ p ∈ c, 0 ≤ p ∧ p < b.length) : laidI (laidI a b) c = laidI a (laidI b c) := by
  unfold laidI
  rw [List.map_map]
  apply List.map_congr_left
  intro p hp
  have := hb p hp
  simp only [Function.comp]
  rw [List.getD_eq_getElem?_getD, List.getElem?_map, List.getD_eq_getElem?_getD (l := b), List.getElem?_eq_getElem (show p.toNat < b.length by omega)]
  rfl
theorem isOrd_laidI {a b : List Int} (ha : IsOrd a) (hb : IsOrd b) (hl : a.length = b.length) : IsOrd (laidI a b) := by
  have h1 : (laidI a b).Perm (laidI a (upto b.length)) := List.Perm.map _ hb
  have h2 : laidI a (upto b.length) = a := by
    unfold laidI upto
    rw [List.map_map, ← hl]
    apply List.ext_getElem
    · simp
    · intro i h1 h2
      simp only [List.getElem_map, List.getElem_range, Function.comp, Int.toNat_natCast]
      rw [List.getD_eq_getElem?_getD, List.getElem?_eq_getElem h2]; rfl
  rw [h2] at h1
  exact isOrd_of (h1.trans ha)
/-- the places as they are filled -/
def placesTo (o : List Int) (i : Nat) : List Int := (List.range o.length).map fun c : Nat => if o.idxOf (c : Int) < i then (o.idxOf (c : Int) : Int) else 0
theorem placesTo_zero (o : List Int) : placesTo o 0 = List.replicate o.length 0 := by
  unfold placesTo
  rw [List.eq_replicate_iff]
  simp
theorem placesTo_all {o : List Int} (h : IsOrd o) : placesTo o o.length = placesI o := by
  unfold placesTo placesI
  apply List.map_congr_left
  intro c hc
  rw [if_pos (idxOf_lt h (List.mem_range.mp hc))]
theorem placesTo_next {o : List Int} (h : IsOrd o) {i : Nat} {x : Int} (e : o[i]? = some x) : (placesTo o i).set x.toNat (i : Int) = placesTo o (i + 1) := by
  have hb := h.bd e
  have hi := idxOf_at h.nodup e
  apply List.ext_getElem
  · simp [placesTo]
  · intro c h1 h2
    have hc : c < o.length := by simpa [placesTo] using h2
    simp only [placesTo, List.getElem_set, List.getElem_map, List.getElem_range]
    by_cases ex : x.toNat = c
    · subst ex
      have : ((x.toNat : Nat) : Int) = x := by omega
      rw [if_pos rfl, this, hi, if_pos (by omega)]
    · rw [if_neg ex]
      have hne : o.idxOf (c : Int) ≠ i := by
        intro z
        have h3 := at_idxOf (h.mem.mpr ⟨show (0 : Int) ≤ (c : Int) by omega, show (c : Int) < o.length by omega⟩)
        rw [z, List.getD_eq_getElem?_getD, e] at h3
        simp at h3
        omega
      by_cases h4 : o.idxOf (c : Int) < i
      · rw [if_pos h4, if_pos (by omega)]
      · rw [if_neg h4, if_neg (by omega)]
theorem sorted_eq {a b x y : List Int} (ha : a.Pairwise (· ≤ ·)) (hb : b.Pairwise (· ≤ ·)) (pa : a.Perm x) (pb : b.Perm y) (h : x.Perm y) : a = b := by
  have hp : a.Perm b := pa.trans (h.trans pb.symm)
  clear pa pb h
  induction a generalizing b with
  | nil => exact (List.nil_perm.mp hp).symm
  | cons u a ih =>
    cases b with
    | nil => exact absurd hp.length_eq (by simp)
    | cons v b =>
      have h1 := List.pairwise_cons.mp ha
      have h2 := List.pairwise_cons.mp hb
      have e : u = v := by
        have hu : u ∈ v :: b := hp.mem_iff.mp List.mem_cons_self
        have hv : v ∈ u :: a := hp.mem_iff.mpr List.mem_cons_self
        rcases List.mem_cons.mp hu with e | hu
        · exact e
        · rcases List.mem_cons.mp hv with e | hv
          · exact e.symm
          · have := h1.1 v hv; have := h2.1 u hu; omega
      subst e
      rw [ih h1.2 h2.2 ((List.perm_cons u).mp hp)]
theorem ord_perm {a b : List Int} (ha : IsOrd a) (hb : IsOrd b) (hl : a.length = b.length) : a.Perm b := by
  unfold IsOrd at ha hb
  rw [hl] at ha
  exact ha.trans hb.symm
end Rc
namespace Rc
def isFall (p : List Int) (i : Nat) : Bool := decide (p.getD (i + 1) 0 < p.getD i 0)
/-- the falls among the first c cards -/
def fc (p : List Int) (c : Nat) : Nat := ((List.range (c - 1)).filter (isFall p)).length
def fallsI (o : List Int) : Nat := fc o o.length
theorem fallsI_eq (o : List Int) : ((List.range (Int.toNat ((o.length : Int) - 1))).filter (fun i : Nat => decide (o.getD (Int.toNat ((i : Int) + 1)) 0 < o.getD (Int.toNat (i : Int)) 0))).length = fallsI o := by
  unfold fallsI fc
  have : Int.toNat ((o.length : Int) - 1) = o.length - 1 := by omega
  rw [this]; rfl
theorem fc_succ (p : List Int) (c : Nat) (hc : 1 ≤ c) : fc p (c + 1) = fc p c + if isFall p (c - 1) = true then 1 else 0 := by
  unfold fc
  obtain ⟨d, rfl⟩ : ∃ d, c = d + 1 := ⟨c - 1, by omega⟩
  show ((List.range (d + 1)).filter _).length = ((List.range d).filter _).length + _
  rw [List.range_succ, List.filter_append, List.length_append]
  congr 1
  show _ = if isFall p d = true then 1 else 0
  by_cases h : isFall p d = true
  · rw [if_pos h, List.filter_cons_of_pos h]; rfl
  · rw [if_neg h, List.filter_cons_of_neg h]; rfl
theorem fc_yes {o : List Int} {i : Nat} (h : o.getD (Int.toNat ((i : Int) + 1)) 0 < o.getD (Int.toNat (i : Int)) 0) : (fc o (i + 1) : Int) + 1 = (fc o (i + 1 + 1) : Nat) := by
  rw [fc_succ _ (i + 1) (by omega), if_pos (show isFall o (i + 1 - 1) = true from decide_eq_true h)]; omega
theorem fc_no {o : List Int} {i : Nat} (h : ¬ o.getD (Int.toNat ((i : Int) + 1)) 0 < o.getD (Int.toNat (i : Int)) 0) : (fc o (i + 1) : Int) = (fc o (i + 1 + 1) : Nat) := by
  rw [fc_succ _ (i + 1) (by omega), if_neg (by rw [show isFall o (i + 1 - 1) = false from decide_eq_false h]; exact Bool.false_ne_true)]; omega
theorem fc_run (p : List Int) {c d : Nat} (hcd : c ≤ d) (h : ∀ e, c ≤ e → e < d → 1 ≤ e → isFall p (e - 1) = false) (h1 : 1 ≤ d) : fc p d = if c = 0 then 0 else fc p c := by
  induction d with
  | zero => omega
  | succ d ih =>
    by_cases hd : d = 0
    · subst hd
      by_cases hc : c = 0
      · subst hc; rfl
      · have : c = 1 := by omega
        subst this; rfl
    · by_cases hc : c = d + 1
      · subst hc; rw [if_neg (by omega)]
      · rw [fc_succ p d (by omega), h d (by omega) (by omega) (by omega), ih (by omega) (fun e h1 h2 h3 => h e h1 (by omega) h3) (by omega)]; simp
/-- rounds behind so many cards -/
def roundsAt (p : List Int) (c : Nat) : Int := if c = 0 then 0 else 1 + (fc p c : Int)
/-- one pass from card c on: behind i places cur is looked for -/
structure Pass (o : List Int) (c i cur : Int) : Prop where
  le : 0 ≤ c ∧ c ≤ cur ∧ cur ≤ o.length
  seen : ∀ d : Int, c ≤ d → d < cur → (o.idxOf d : Int) < i
  up : ∀ d : Int, c < d → d < cur → o.idxOf (d - 1) < o.idxOf d
  nx : cur < o.length → (i ≤ o.idxOf cur ∨ (c < cur ∧ o.idxOf cur < o.idxOf (cur - 1)))
theorem Pass.start {o : List Int} {c : Int} (h0 : 0 ≤ c) (h1 : c < o.length) : Pass o c 0 c :=
  ⟨⟨h0, Int.le_refl _, by omega⟩, fun d _ _ => by omega, fun d _ _ => by omega, fun _ => .inl (by omega)⟩
theorem Pass.hit {o : List Int} {c cur : Int} {i : Nat} (ho : IsOrd o) (p : Pass o c i cur) (e : o[i]? = some cur) : Pass o c ((i : Int) + 1) (cur + 1) := by
  have hi := idxOf_at ho.nodup e
  have hb := ho.bd e
  have hl := p.le
  refine ⟨by omega, fun d h1 h2 => ?_, fun d h1 h2 => ?_, fun h => ?_⟩
  · by_cases hd : d = cur
    · subst hd; omega
    · have := p.seen d h1 (by omega); omega
  · by_cases hd : d = cur
    · subst hd
      have := p.seen (d - 1) (by omega) (by omega)
      omega
    · exact p.up d h1 (by omega)
  · by_cases hq : (i : Int) + 1 ≤ o.idxOf (cur + 1)
    · exact .inl hq
    · refine .inr ⟨by omega, ?_⟩
      rw [show cur + 1 - 1 = cur by omega, hi]
      have hne : o.idxOf (cur + 1) ≠ i := fun z => by
        have h3 := at_idxOf (ho.mem.mpr ⟨show (0 : Int) ≤ cur + 1 by omega, h⟩)
        rw [z, List.getD_eq_getElem?_getD, e] at h3
        simp at h3
        omega
      omega
theorem Pass.miss {o : List Int} {c cur x : Int} {i : Nat} (ho : IsOrd o) (p : Pass o c i cur) (e : o[i]? = some x) (hne : ¬ x = cur) : Pass o c ((i : Int) + 1) cur := by
  have hl := p.le
  refine ⟨hl, fun d h1 h2 => by have := p.seen d h1 h2; omega, p.up, fun h => ?_⟩
  rcases p.nx h with q | q
  · left
    have : o.idxOf cur ≠ i := fun z => by
      have h3 := at_idxOf (ho.mem.mpr ⟨show (0 : Int) ≤ cur by omega, h⟩)
      rw [z, List.getD_eq_getElem?_getD, e] at h3
      simp at h3
      omega
    omega
  · exact .inr q
theorem Pass.more {o : List Int} {c cur : Int} (ho : IsOrd o) (hc : c < o.length) (p : Pass o c o.length cur) : c < cur := by
  have hl := p.le
  by_cases h : c = cur
  · subst h
    rcases p.nx hc with q | q
    · have := List.idxOf_lt_length_of_mem (ho.mem.mpr ⟨hl.1, hc⟩); omega
    · omega
  · omega
theorem placesI_at {o : List Int} {d : Nat} (h : d < o.length) : (placesI o).getD d 0 = (o.idxOf (d : Int) : Int) := placesI_getD h
theorem Pass.rounds {o : List Int} {c cur r : Int} (ho : IsOrd o) (hc : c < o.length) (p : Pass o c o.length cur) (hr : r = roundsAt (placesI o) c.toNat)
    (hs : c = 0 ∨ c = o.length ∨ isFall (placesI o) (c.toNat - 1) = true) : r + 1 = roundsAt (placesI o) cur.toNat := by
  have hl := p.le
  have hm := p.more ho hc
  obtain ⟨a, rfl⟩ := Int.eq_ofNat_of_zero_le hl.1
  obtain ⟨b, rfl⟩ := Int.eq_ofNat_of_zero_le (show 0 ≤ cur by omega)
  rw [Int.toNat_natCast] at *
  have key := fc_run (placesI o) (c := a + 1) (d := b) (by omega) (fun e h1 h2 h3 => by
    have hu := p.up (e : Int) (by omega) (by omega)
    unfold isFall
    rw [placesI_at (by omega), placesI_at (by omega)]
    have e1 : ((e - 1 + 1 : Nat) : Int) = e := by omega
    have e2 : ((e - 1 : Nat) : Int) = (e : Int) - 1 := by omega
    rw [e1, e2]
    exact decide_eq_false (by omega)) (by omega)
  rw [if_neg (by omega)] at key
  unfold roundsAt at *
  rw [if_neg (show ¬ b = 0 by omega), key, hr]
  by_cases h0 : a = 0
  · subst h0; rfl
  · rw [if_neg h0, fc_succ _ _ (by omega)]
    rcases hs with q | q | q
    · omega
    · omega
    · rw [if_pos q]; omega
theorem Pass.fall {o : List Int} {c cur : Int} (ho : IsOrd o) (hc : c < o.length) (p : Pass o c o.length cur) : cur = 0 ∨ cur = o.length ∨ isFall (placesI o) (cur.toNat - 1) = true := by
  have hl := p.le
  have hm := p.more ho hc
  by_cases h : cur < o.length
  · right; right
    rcases p.nx h with q | q
    · have := List.idxOf_lt_length_of_mem (ho.mem.mpr ⟨show 0 ≤ cur by omega, h⟩); omega
    · obtain ⟨b, rfl⟩ := Int.eq_ofNat_of_zero_le (show 0 ≤ cur by omega)
      rw [Int.toNat_natCast]
      unfold isFall
      rw [placesI_at (by omega), placesI_at (by omega)]
      have e1 : ((b - 1 + 1 : Nat) : Int) = b := by omega
      have e2 : ((b - 1 : Nat) : Int) = (b : Int) - 1 := by omega
      rw [e1, e2]
      exact decide_eq_true (by omega)
  · omega
/-- runs -/
def runsI (o : List Int) : Nat := 1 + fallsI (placesI o)
theorem taken_runs {o : List Int} {c r : Int} (h1 : 1 ≤ o.length) (hc : c = o.length) (hr : r = roundsAt (placesI o) c.toNat) : r = runsI o := by
  subst hc
  rw [hr, Int.toNat_natCast]
  unfold roundsAt runsI fallsI
  rw [if_neg (by omega), placesI_length]; omega
theorem range_rev (m : Nat) : (List.range m).map (fun i => m - 1 - i) = (List.range m).reverse := by
  apply List.ext_getElem
  · simp
  · intro i h1 h2
    simp at h1 ⊢
theorem count_rev (m : Nat) (p : Nat → Bool) : ((List.range m).filter fun i => p (m - 1 - i)).length = ((List.range m).filter p).length := by
  have h1 : ((List.range m).filter fun i => p (m - 1 - i)).length = (((List.range m).map fun i => m - 1 - i).filter p).length := by
    rw [List.filter_map, List.length_map]; rfl
  rw [h1, range_rev, List.filter_reverse, List.length_reverse]
theorem count_not (l : List Nat) (p : Nat → Bool) : (l.filter p).length + (l.filter fun i => !p i).length = l.length := by
  induction l with
  | nil => rfl
  | cons x l ih =>
    cases h : p x <;> simp [List.filter_cons, h] <;> omega
theorem falls_reverse {o : List Int} (hn : o.Nodup) (h1 : 1 ≤ o.length) : (fallsI o.reverse : Int) = (o.length : Int) - 1 - fallsI o := by
  unfold fallsI fc
  rw [List.length_reverse]
  have hc := count_not (List.range (o.length - 1)) (isFall o)
  have hr := count_rev (o.length - 1) (fun i => !isFall o i)
  have he : ((List.range (o.length - 1)).filter (isFall o.reverse)).length = ((List.range (o.length - 1)).filter fun i => !isFall o (o.length - 1 - 1 - i)).length := by
    congr 1
    apply List.filter_congr
    intro i hi
    have hi' := List.mem_range.mp hi
    have e1 : o.reverse.getD (i + 1) 0 = o.getD (o.length - 1 - 1 - i) 0 := by
      rw [List.getD_eq_getElem?_getD, List.getElem?_reverse (by omega), List.getD_eq_getElem?_getD]
      congr 2; omega
    have e2 : o.reverse.getD i 0 = o.getD (o.length - 1 - 1 - i + 1) 0 := by
      rw [List.getD_eq_getElem?_getD, List.getElem?_reverse (by omega), List.getD_eq_getElem?_getD]
      congr 2; omega
    unfold isFall
    rw [e1, e2]
    generalize hj : o.length - 1 - 1 - i = j
    have hj1 : j + 1 < o.length := by omega
    have hne : o.getD j 0 ≠ o.getD (j + 1) 0 := by
      intro z
      have q1 : o[j]? = some (o.getD j 0) := by rw [List.getD_eq_getElem?_getD, List.getElem?_eq_getElem (by omega)]; rfl
      have q2 : o[j + 1]? = some (o.getD (j + 1) 0) := by rw [List.getD_eq_getElem?_getD, List.getElem?_eq_getElem hj1]; rfl
      have := idxOf_at hn q1
      have := idxOf_at hn q2
      rw [z] at *
      omega
    by_cases hlt : o.getD j 0 < o.getD (j + 1) 0
    · rw [decide_eq_true hlt, decide_eq_false (by omega)]; rfl
    · rw [decide_eq_false hlt, decide_eq_true (by omega)]; rfl
  rw [he, hr]
  rw [List.length_range] at hc
  omega
theorem runs_places {o : List Int} (h : IsOrd o) : runsI (placesI o) = fallsI o + 1 := by
  unfold runsI; rw [placesI_placesI h]; omega
end Rc
namespace Rc
/-- orders by their falls -/
def eul : Nat → Nat → Nat
  | 0, 0 => 1
  | 0, _ + 1 => 0
  | m + 1, 0 => eul m 0
  | m + 1, k + 1 => (k + 2) * eul m (k + 1) + (m - k) * eul m k
def eulRow (n : Nat) : List Int := (List.range n).map fun k => (eul n k : Int)
@[simp] theorem eulRow_length (n : Nat) : (eulRow n).length = n := by simp [eulRow]
theorem eul_s0 (m : Nat) : eul (m + 1) 0 = eul m 0 := by cases m <;> rfl
theorem eul_ss (m k : Nat) : eul (m + 1) (k + 1) = (k + 2) * eul m (k + 1) + (m - k) * eul m k := by cases m <;> rfl
theorem eul_gt : ∀ {m k : Nat}, m < k → eul m k = 0
  | _, 0, h => by omega
  | 0, _ + 1, _ => rfl
  | m + 1, k + 1, h => by rw [eul_ss, eul_gt (show m < k + 1 by omega), eul_gt (show m < k by omega)]; simp
theorem eul_self (m : Nat) : eul (m + 1) (m + 1) = 0 := by
  rw [eul_ss, eul_gt (Nat.lt_succ_self m)]; simp
theorem eul_zero : ∀ m : Nat, eul m 0 = 1
  | 0 => rfl
  | m + 1 => by rw [eul_s0, eul_zero m]
theorem eul_le : ∀ {m : Nat} (k : Nat), m ≤ 60 → eul m k ≤ 64 ^ m
  | 0, 0, _ => by decide
  | 0, _ + 1, _ => by simp [eul]
  | m + 1, 0, h => by rw [eul_zero]; exact Nat.one_le_pow _ _ (by decide)
  | m + 1, k + 1, h => by
    by_cases hk : k ≤ m
    · have h1 := eul_le (m := m) (k + 1) (by omega)
      have h2 := eul_le (m := m) k (by omega)
      rw [eul_ss, Nat.pow_succ]
      have a := Nat.mul_le_mul_left (k + 2) h1
      have b := Nat.mul_le_mul_left (m - k) h2
      have c : (k + 2) * 64 ^ m + (m - k) * 64 ^ m = (m + 2) * 64 ^ m := by rw [← Nat.add_mul]; congr 1; omega
      have d : (m + 2) * 64 ^ m ≤ 64 * 64 ^ m := Nat.mul_le_mul_right _ (by omega)
      omega
    · rw [eul_gt (by omega)]; exact Nat.zero_le _
theorem Bd.eul {m : Nat} (k : Nat) (h : m ≤ 60) : Bd 361 (Rc.eul m k : Nat) := ⟨by
  rw [Int.natAbs_natCast]
  have h1 := eul_le k h
  have h2 : (64 : Nat) ^ m ≤ 64 ^ 60 := Nat.pow_le_pow_right (by decide) h
  have h3 : (64 : Nat) ^ 60 < 2 ^ 361 := by decide
  omega⟩
theorem eul_symm : ∀ (m k : Nat), k ≤ m → eul (m + 1) k = eul (m + 1) (m - k)
  | 0, k, h => by rw [show k = 0 by omega]
  | m + 1, 0, _ => by
    rw [show m + 1 - 0 = m + 1 by omega, eul_ss (m + 1) m, eul_self, eul_zero]
    have := eul_symm m 0 (by omega)
    rw [eul_zero] at this
    rw [show m - 0 = m by omega] at this
    rw [← this]; simp
  | m + 1, k + 1, h => by
    by_cases hk : k = m
    · subst hk
      rw [show k + 1 - (k + 1) = 0 by omega, eul_zero, eul_ss, eul_self]
      have := eul_symm k 0 (by omega)
      rw [eul_zero, show k - 0 = k by omega] at this
      rw [← this]; simp
    · obtain ⟨j, hj⟩ : ∃ j, m = k + 1 + j := ⟨m - k - 1, by omega⟩
      have e1 := eul_symm m (k + 1) (by omega)
      have e2 := eul_symm m k (by omega)
      rw [show m + 1 - (k + 1) = j + 1 by omega]
      rw [eul_ss (m + 1) k, eul_ss (m + 1) j, e1, e2, show m - (k + 1) = j by omega, show m - k = j + 1 by omega,
        show m + 1 - k = j + 2 by omega, show m + 1 - j = k + 2 by omega]
      omega
theorem eulRow_reverse {n : Nat} (h : 1 ≤ n) : (eulRow n).reverse = eulRow n := by
  obtain ⟨m, rfl⟩ : ∃ m, n = m + 1 := ⟨n - 1, by omega⟩
  apply List.ext_getElem?
  intro i
  by_cases hi : i < m + 1
  · rw [List.getElem?_reverse (by simpa using hi)]
    simp only [eulRow, List.length_map, List.length_range]
    rw [List.getElem?_map, List.getElem?_map, List.getElem?_range (by omega), List.getElem?_range hi]
    simp only [Option.map_some]
    rw [show m + 1 - 1 - i = m - i by omega, ← eul_symm m i (by omega)]
  · rw [List.getElem?_eq_none (by simpa using by omega), List.getElem?_eq_none (by simpa using by omega)]
/-- a row's number, and nought beside it -/
theorem wider_getD (m k : Nat) : (([0] ++ eulRow m) ++ [0]).getD (k + 1) 0 = if k < m then (eul m k : Int) else 0 := by
  simp only [List.getD_eq_getElem?_getD]
  by_cases h : k < m
  · rw [if_pos h, List.getElem?_append_left (by simp; omega), List.getElem?_append_right (by simp)]
    simp [eulRow, h]
  · rw [if_neg h]
    by_cases h2 : k = m
    · rw [List.getElem?_append_right (by simp; omega)]
      simp [h2]
    · rw [List.getElem?_eq_none (by simp; omega)]; rfl
theorem wider_zero (m : Nat) : (([0] ++ eulRow m) ++ [0]).getD 0 0 = 0 := by simp
theorem wider_bd {m : Nat} (h : m ≤ 60) (k : Nat) : Bd 361 ((([0] ++ eulRow m) ++ [0]).getD k 0) := by
  cases k with
  | zero => rw [wider_zero]; exact ⟨by decide⟩
  | succ k =>
    rw [wider_getD]
    split
    · exact Bd.eul _ h
    · exact ⟨by decide⟩
theorem eul_next {m : Nat} : (List.range (m + 2)).map (fun i : Nat => ((i : Int) + 1) * (([0] ++ eulRow (m + 1)) ++ [0]).getD (i + 1) 0 + (2 + (m : Int) - i) * (([0] ++ eulRow (m + 1)) ++ [0]).getD i 0) = eulRow (m + 2) := by
  rw [show eulRow (m + 2) = (List.range (m + 2)).map fun k => (eul (m + 2) k : Int) from rfl]
  apply List.map_congr_left
  intro i hi
  have hi := List.mem_range.mp hi
  rw [wider_getD]
  cases i with
  | zero =>
    rw [wider_zero, if_pos (by omega), eul_zero, eul_zero]; simp
  | succ k =>
    rw [wider_getD, if_pos (show k < m + 1 by omega), eul_ss (m + 1) k]
    by_cases hk : k + 1 < m + 1
    · rw [if_pos hk]
      obtain ⟨j, rfl⟩ : ∃ j, m = k + 1 + j := ⟨m - k - 1, by omega⟩
      rw [show k + 1 + j + 1 - k = j + 2 by omega]
      push_cast
      grind
    · have : k = m := by omega
      subst this
      rw [if_neg hk, eul_self, show k + 1 - k = 1 by omega]
      push_cast
      grind
/-- Worpitzky's law -/
theorem worp_id (x K n : Nat) (h : K ≤ n) : (K + 1) * bin (x + K) (n + 1) + (n - K) * bin (x + K + 1) (n + 1) = x * bin (x + K) n := by
  have h1 := bin_mul (x + K) n
  rw [bin_succ]
  obtain ⟨j, rfl⟩ : ∃ j, n = K + j := ⟨n - K, by omega⟩
  rw [show K + j - K = j by omega]
  have h2 : ((K + j) + 1) * bin (x + K) (K + j + 1) + (K + j) * bin (x + K) (K + j) = (x + K) * bin (x + K) (K + j) := h1
  grind
def worpS (x n : Nat) : Nat → Nat
  | 0 => 0
  | K + 1 => worpS x n K + eul n K * bin (x + K) n
theorem worp_step (x n : Nat) : ∀ K, K ≤ n → worpS x (n + 1) (K + 1) + (n - K) * (eul n K * bin (x + K + 1) (n + 1)) = x * worpS x n (K + 1)
  | 0, _ => by
    have := worp_id x 0 n (by omega)
    simp only [worpS, eul_zero, Nat.add_zero, Nat.zero_add, Nat.one_mul, Nat.sub_zero] at this ⊢
    exact this
  | K + 1, h => by
    have ih := worp_step x n K (by omega)
    have id := worp_id x (K + 1) n h
    rw [show worpS x n (K + 1 + 1) = worpS x n (K + 1) + eul n (K + 1) * bin (x + (K + 1)) n from rfl, show worpS x (n + 1) (K + 1 + 1) = worpS x (n + 1) (K + 1) + eul (n + 1) (K + 1) * bin (x + (K + 1)) (n + 1) from rfl, Nat.mul_add, ← ih, eul_ss]
    have e : x * (eul n (K + 1) * bin (x + (K + 1)) n) = eul n (K + 1) * (x * bin (x + (K + 1)) n) := by
      rw [← Nat.mul_assoc, Nat.mul_comm x, Nat.mul_assoc]
    rw [e, ← id, show x + K + 1 = x + (K + 1) by omega]
    grind
theorem worp : ∀ (n x : Nat), worpS x n (n + 1) = x ^ n
  | 0, x => by simp [worpS, eul]
  | n + 1, x => by
    have h := worp_step x n n (Nat.le_refl _)
    have ih := worp n x
    rw [worpS, eul_self, Nat.pow_succ, ← ih]
    simp only [Nat.sub_self, Nat.zero_mul, Nat.add_zero] at h ⊢
    rw [h, Nat.mul_comm]
theorem worp_all {n : Nat} (x : Nat) (h : 1 ≤ n) : worpS x n n = x ^ n := by
  obtain ⟨m, rfl⟩ : ∃ m, n = m + 1 := ⟨n - 1, by omega⟩
  have := worp (m + 1) x
  rwa [worpS, eul_self, Nat.zero_mul, Nat.add_zero] at this
theorem worp_sum (x n : Nat) (f : Nat → Int) (hf : ∀ k, k < n → f k = (eul n k : Int) * (bin (x + k) n : Int)) : ∀ K, K ≤ n → ((List.range K).map f).sum = (worpS x n K : Int)
  | 0, _ => rfl
  | K + 1, h => by
    rw [List.range_succ, List.map_append, List.sum_append, worp_sum x n f hf K (by omega), worpS]
    simp [hf K (by omega)]
theorem worpitzky {n : Nat} {x : Int} (h0 : 0 ≤ x) (h : 1 ≤ n) (f : Nat → Int) (hf : ∀ k, k < n → f k = (eulRow n).getD k 0 * chooseZ (x + k) n) : ((List.range n).map f).sum = x ^ n := by
  obtain ⟨y, rfl⟩ := Int.eq_ofNat_of_zero_le h0
  rw [worp_sum y n f ?_ n (Nat.le_refl _), worp_all y h]
  · simp
  · intro k hk
    rw [hf k hk]
    congr 1
    · simp [eulRow, hk, List.getD_eq_getElem?_getD]
    · unfold chooseZ
      split
      · rename_i hc
        rw [bin_gt (by omega)]; rfl
      · congr 2
theorem Bd.pow {B : Nat} {x : Int} (h : Bd B x) : ∀ i : Nat, Bd (B * i + 1) (x ^ i)
  | 0 => by simpa using Bd.one 0
  | i + 1 => by
    rw [Int.pow_succ, show B * (i + 1) + 1 = (B * i + 1) + B by rw [Nat.mul_succ]; omega]
    exact (Bd.pow h i).mul h
theorem eulRow_bd {n : Nat} (h : n ≤ 60) (k : Nat) : Bd 361 ((eulRow n).getD k 0) := by
  by_cases hk : k < n
  · rw [show (eulRow n).getD k 0 = (eul n k : Int) by simp [eulRow, hk, List.getD_eq_getElem?_getD]]
    exact Bd.eul _ h
  · rw [show (eulRow n).getD k 0 = 0 by rw [List.getD_eq_getElem?_getD, List.getElem?_eq_none (by simpa using by omega)]; rfl]
    exact ⟨by decide⟩
theorem Bd.choose {n k : Int} {B : Nat} (hn : n < 2 ^ B) (hk : 0 ≤ k) (hk2 : k ≤ 60) : Bd (B * 60 + 1) (chooseZ n k) := by
  unfold chooseZ
  split
  · exact ⟨by have := Nat.pow_le_pow_right (n := 2) (by decide) (show 1 ≤ B * 60 + 1 by omega); show 0 < _; omega⟩
  · have e : n.toNat < 2 ^ B := by
      have : ((2 ^ B : Nat) : Int) = 2 ^ B := by push_cast; rfl
      omega
    exact (Bd.bin e).mono (by have := Nat.mul_le_mul_left B (show k.toNat ≤ 60 by omega); omega)
/-- the orders that a number draws -/
def drawTo (x : Int) (n : Nat) : Nat → List Int × List Int × Int
  | 0 => ([], upto n, x)
  | k + 1 =>
    let s := drawTo x n k
    (s.1 ++ [s.2.1.getD (Int.toNat (s.2.2 % (s.2.1.length : Int))) 0], s.2.1.eraseIdx (Int.toNat (s.2.2 % (s.2.1.length : Int))), s.2.2 / ((n : Int) - k))
def drawI (x : Int) (n : Nat) : List Int := (drawTo x n n).1
def factI : Nat → Int
  | 0 => 1
  | k + 1 => factI k * (k + 1)
theorem factI_6 : ∀ {n : Nat}, n ≤ 6 → 1 ≤ factI n ∧ factI n ≤ 720
  | 0, _ | 1, _ | 2, _ | 3, _ | 4, _ | 5, _ | 6, _ => by decide
def listTo (n : Nat) : Nat → List Int
  | 0 => List.replicate n 0
  | j + 1 => (listTo n j).set (fallsI (drawI j n)) ((listTo n j).getD (fallsI (drawI j n)) 0 + 1)
@[simp] theorem listTo_length (n : Nat) : ∀ j, (listTo n j).length = n
  | 0 => by simp [listTo]
  | j + 1 => by rw [listTo, List.length_set, listTo_length n j]
def listedI (n : Nat) : List Int := listTo n (factI n).toNat
set_option maxRecDepth 100000 in
theorem listed_fin : ∀ n : Fin 6, eulRow (n.1 + 1) = listedI (n.1 + 1) := by decide +kernel
theorem listed_eul {n : Nat} (h1 : 1 ≤ n) (h2 : n ≤ 6) : eulRow n = listedI n := by
  have := listed_fin ⟨n - 1, by omega⟩
  rwa [show n - 1 + 1 = n by omega] at this
theorem drawTo_len (x : Int) (n : Nat) : ∀ k, (drawTo x n k).1.length = k
  | 0 => rfl
  | k + 1 => by rw [drawTo]; simp [drawTo_len x n k]
theorem drawI_length (x : Int) (n : Nat) : (drawI x n).length = n := drawTo_len x n n
theorem falls_count {o : List Int} {n : Int} (h : o.length = Int.toNat n) (h1 : 1 ≤ n) : (List.map (fun i : Nat => (i : Int)) (List.filter (fun i : Nat => decide (o.getD (Int.toNat ((i : Int) + 1)) 0 < o.getD (Int.toNat (i : Int)) 0)) (List.range (Int.toNat (n - 1))))).length = fallsI o := by
  rw [List.length_map, ← fallsI_eq, show n - 1 = (o.length : Int) - 1 by omega]
theorem fallsI_lt {o : List Int} {n : Int} (h : o.length = Int.toNat n) (h1 : 1 ≤ n) : (fallsI o : Int) < n := by
  rw [← falls_count h h1, List.length_map]
  have := List.length_filter_le (fun i : Nat => decide (o.getD (Int.toNat ((i : Int) + 1)) 0 < o.getD (Int.toNat (i : Int)) 0)) (List.range (Int.toNat (n - 1)))
  rw [List.length_range] at this
  omega
end Rc
namespace Rc
theorem gcd_step {a b : Int} : Int.gcd b (a % b) = Int.gcd a b := by
  have h := Int.gcd_add_mul_left_right b (a % b) (a / b)
  rw [Int.emod_add_mul_ediv] at h
  rw [← h, Int.gcd_comm]
theorem gcd_zero' {a : Int} (h : 0 ≤ a) : ((Int.gcd a 0 : Nat) : Int) = a := by
  rw [Int.gcd_zero_right]; omega
theorem gcd_pos' {a b : Int} (h : 1 ≤ b) : 1 ≤ ((Int.gcd a b : Nat) : Int) := by
  have := Int.gcd_pos_of_ne_zero_right a (show b ≠ 0 by omega)
  omega
theorem gcd_le' {a b : Int} (h : 1 ≤ b) : ((Int.gcd a b : Nat) : Int) ≤ b := by
  have : (Int.gcd a b : Int) ∣ b := Int.gcd_dvd_right ..
  exact Int.le_of_dvd (by omega) this
theorem Bd.gcd {a b : Int} {B : Nat} (h : 1 ≤ b) (hb : Bd B b) : Bd B ((Int.gcd a b : Nat) : Int) := ⟨by
  have h1 := hb.lt
  have := gcd_le' (a := a) h
  omega⟩
theorem frac_eq (a b : Int) : a / (Int.gcd a b : Int) * b = a * (b / (Int.gcd a b : Int)) := by
  obtain ⟨x, hx⟩ : (Int.gcd a b : Int) ∣ a := Int.gcd_dvd_left ..
  obtain ⟨y, hy⟩ : (Int.gcd a b : Int) ∣ b := Int.gcd_dvd_right ..
  by_cases h : (Int.gcd a b : Int) = 0
  · rw [h] at hx hy
    have hx0 : a = 0 := by simpa using hx
    have hy0 : b = 0 := by simpa using hy
    simp [hx0, hy0]
  · generalize hg : (Int.gcd a b : Int) = g at *
    rw [hx, hy, Int.mul_ediv_cancel_left _ h, Int.mul_ediv_cancel_left _ h]
    grind
theorem frac_cop {a b : Int} (h : 1 ≤ b) : Int.gcd (a / (Int.gcd a b : Int)) (b / (Int.gcd a b : Int)) = 1 :=
  Int.gcd_ediv_gcd_ediv_gcd (by have := gcd_pos' (a := a) h; omega)
theorem frac_pos {a b : Int} (h : 1 ≤ b) : 1 ≤ b / (Int.gcd a b : Int) := by
  have h1 := gcd_pos' (a := a) h
  exact (Int.le_ediv_iff_mul_le (by omega)).mpr (by have := gcd_le' (a := a) h; omega)
theorem frac_zero {a b : Int} (h0 : 0 ≤ a) (h : 1 ≤ b) : a / (Int.gcd a b : Int) = 0 ↔ a = 0 := by
  constructor
  · intro e
    have := frac_eq a b
    rw [e] at this
    have hp := frac_pos (a := a) h
    have h0' : a * (b / (Int.gcd a b : Int)) = 0 := by simpa using this.symm
    rcases Int.mul_eq_zero.mp h0' with h | h
    · exact h
    · omega
  · intro e; subst e; simp
theorem Bd.div {a b : Int} {B : Nat} (h : Bd B a) (h0 : 0 ≤ a) (hb : 1 ≤ b) : Bd B (a / b) := ⟨by
  have h1 := Int.ediv_le_self b h0
  have h2 := Int.ediv_nonneg h0 (show 0 ≤ b by omega)
  have := h.lt
  omega⟩
theorem Bd.add {a : Nat} {i j : Int} (h : Bd a i) (h' : Bd a j) : Bd (a + 1) (i + j) := ⟨by
  have h1 := h.lt
  have h2 := h'.lt
  have : 2 ^ (a + 1) = 2 * 2 ^ a := by rw [Nat.pow_succ, Nat.mul_comm]
  omega⟩
/-- chances -/
theorem falling_fact (k : Nat) : falling ((k + 1 : Nat) : Int) (k + 1) = ((k : Int) + 1) * falling k k := by
  have key : ∀ k j : Nat, falling ((k + 1 : Nat) : Int) (j + 1) = ((k : Int) + 1) * falling k j := by
    intro k j
    induction j with
    | zero => simp [falling]
    | succ j ih => rw [falling, ih, falling]; grind
  exact key k k
def factN (k : Nat) : Int := falling k k
theorem factN_succ (k : Nat) : factN k * ((k : Int) + 1) = factN (k + 1) := by
  unfold factN; rw [falling_fact, Int.mul_comm]
theorem factN_pos : ∀ k : Nat, 0 < factN k
  | 0 => by decide
  | k + 1 => by rw [← factN_succ]; exact Int.mul_pos (factN_pos k) (by omega)
theorem choose_div {n : Int} {k : Nat} (h0 : 0 ≤ n) (h1 : (k : Int) ≤ n) : falling n k / factN k = chooseZ n k := by
  rw [chooseZ_in (by omega) h1]
  have := choose_falls (n := n) (k := k) (by omega) h1
  rw [Int.toNat_natCast] at this ⊢
  unfold factN
  rw [← this]
  exact Int.mul_ediv_cancel _ (by have := factN_pos k; unfold factN at this; omega)
theorem Bd.factN {k : Nat} (h : k ≤ 30) : Bd 200 (Rc.factN k) := by
  have := Bd.falling (n := k) (B := 5) ⟨by omega⟩ (by omega) (t := k) (by omega)
  exact this.mono (by omega)
theorem chooseZ_nonneg (n k : Int) : 0 ≤ chooseZ n k := by unfold chooseZ; split <;> omega
theorem bin_mono {a b : Nat} (h : a ≤ b) : ∀ k, bin a k ≤ bin b k := by
  induction h with
  | refl => intro k; exact Nat.le_refl _
  | step _ ih =>
    intro k
    cases k with
    | zero => simp
    | succ k => rw [bin_succ]; have := ih (k + 1); omega
theorem chooseZ_mono {a b k : Int} (h : a ≤ b) : chooseZ a k ≤ chooseZ b k := by
  by_cases hk : 0 ≤ k ∧ k ≤ a
  · rw [chooseZ_in hk.1 hk.2, chooseZ_in hk.1 (by omega)]
    exact_mod_cast bin_mono (show a.toNat ≤ b.toNat by omega) k.toNat
  · rw [chooseZ_out (n := a) (by omega)]; exact chooseZ_nonneg _ _
theorem chooseZ_zero_iff {n h r : Int} (hn : 1 ≤ n) (hr : r ≤ n) (hh : 1 ≤ h) : chooseZ (h + n - r) n = 0 ↔ h < r := by
  constructor
  · intro e
    by_cases hc : h < r
    · exact hc
    · exfalso
      rw [chooseZ_in (by omega) (by omega)] at e
      have : 0 < bin (h + n - r).toNat n.toNat := by
        have h1 := bin_mono (show n.toNat ≤ (h + n - r).toNat by omega) n.toNat
        rw [bin_self] at h1; omega
      omega
  · intro hc; exact chooseZ_out (by omega)
/-- the sum by runs -/
def totI (n : Nat) (h : Int) (i : Nat) : Int := ((List.range i).map fun k : Nat => (eulRow n).getD k 0 * chooseZ (h + n - (1 + k)) n).sum
theorem totI_succ (n : Nat) (h : Int) (i : Nat) : totI n h (i + 1) = totI n h i + (eulRow n).getD i 0 * chooseZ (h + n - (1 + i)) n := by
  unfold totI; rw [List.range_succ, List.map_append, List.sum_append]; simp
theorem eulRow_getD {n k : Nat} (h : k < n) : (eulRow n).getD k 0 = (eul n k : Int) := by simp [eulRow, h, List.getD_eq_getElem?_getD]
theorem eulRow_symm {n k : Nat} (h : k < n) : (eulRow n).getD (n - 1 - k) 0 = (eulRow n).getD k 0 := by
  rw [eulRow_getD h, eulRow_getD (by omega)]
  obtain ⟨m, rfl⟩ : ∃ m, n = m + 1 := ⟨n - 1, by omega⟩
  rw [show m + 1 - 1 - k = m - k by omega, ← eul_symm m k (by omega)]
theorem totI_all {n : Nat} {h : Int} (h0 : 0 ≤ h) (h1 : 1 ≤ n) : totI n h n = h ^ n := by
  rw [← worpitzky h0 h1 (fun k => (eulRow n).getD k 0 * chooseZ (h + k) n) (fun _ _ => rfl)]
  unfold totI
  have e : (List.range n).map (fun k : Nat => (eulRow n).getD k 0 * chooseZ (h + n - (1 + k)) n) = ((List.range n).map fun i => n - 1 - i).map (fun k : Nat => (eulRow n).getD k 0 * chooseZ (h + k) n) := by
    rw [List.map_map]
    apply List.map_congr_left
    intro k hk
    have hk := List.mem_range.mp hk
    simp only [Function.comp_apply]
    rw [eulRow_symm hk, show h + n - (1 + (k : Int)) = h + ((n - 1 - k : Nat) : Int) by omega]
  rw [e, range_rev, List.map_reverse, List.sum_reverse]
theorem first_le {n : Nat} {h : Int} (h0 : 0 ≤ h) (h1 : 1 ≤ n) : chooseZ (h + n - 1) n ≤ h ^ n := by
  rw [← totI_all h0 h1]
  have key : ∀ i, chooseZ (h + n - 1) n ≤ totI n h (i + 1) := by
    intro i
    induction i with
    | zero =>
      rw [totI_succ, eulRow_getD (by omega), eul_zero]
      simp [totI]
    | succ i ih =>
      rw [totI_succ]
      have a : 0 ≤ (eulRow n).getD (i + 1) 0 := by
        by_cases hi : i + 1 < n
        · rw [eulRow_getD hi]; omega
        · rw [List.getD_eq_getElem?_getD, List.getElem?_eq_none (by simpa using by omega)]; simp
      have := Int.mul_nonneg a (chooseZ_nonneg (h + n - (1 + ((i + 1 : Nat) : Int))) n)
      omega
  have := key (n - 1)
  rwa [show n - 1 + 1 = n by omega] at this
/-- the row, a number at a time -/
def eulTo (n k : Nat) : List Int := (List.range k).map fun k => (eul n k : Int)
theorem eulTo_next {n k : Nat} {c : Int} (h : c = (eul n k : Int)) : eulTo n k ++ [c] = eulTo n (k + 1) := by
  unfold eulTo; rw [h, List.range_succ, List.map_append]; rfl
theorem eul_mid {m k : Nat} (h : k < m + 1) (h0 : 0 < k) (hk : k ≤ m) : (0 : Int) + ((k : Int) + 1) * (eulRow m).getD k 0 + ((m : Int) + 1 - k) * (eulRow m).getD (k - 1) 0 = (eul (m + 1) k : Int) := by
  obtain ⟨j, rfl⟩ : ∃ j, k = j + 1 := ⟨k - 1, by omega⟩
  rw [eul_ss, Nat.add_sub_cancel, eulRow_getD (show j < m by omega)]
  have e : (eulRow m).getD (j + 1) 0 = (eul m (j + 1) : Int) := by
    by_cases hj : j + 1 < m
    · exact eulRow_getD hj
    · rw [List.getD_eq_getElem?_getD, List.getElem?_eq_none (by simpa using by omega)]
      have : j + 1 = m := by omega
      rw [← this, eul_self]; rfl
  rw [e]
  obtain ⟨d, rfl⟩ : ∃ d, m = j + d := ⟨m - j, by omega⟩
  rw [show j + d - j = d by omega]
  push_cast
  grind
end Rc
namespace Rc
theorem eulRow_out {m k : Nat} (h : m ≤ k) : (eulRow m).getD k 0 = 0 := by
  rw [List.getD_eq_getElem?_getD, List.getElem?_eq_none (by simpa using h)]; rfl
theorem eul_c2 {m k : Nat} (h : ¬ (k : Int) < 2 + (m : Int) - 1) (hk : k < m + 2) (h0 : 0 < (k : Int)) : (0 : Int) + (2 + (m : Int) - k) * (eulRow (m + 1)).getD (Int.toNat ((k : Int) - 1)) 0 = (eul (m + 1 + 1) k : Int) := by
  have e : k = m + 1 := by omega
  subst e
  rw [eul_ss, eul_self, show Int.toNat (((m + 1 : Nat) : Int) - 1) = m by omega, eulRow_getD (by omega), show m + 1 - m = 1 by omega]
  push_cast
  grind
theorem eul_c3 {m k : Nat} (h0 : ¬ 0 < (k : Int)) : (0 : Int) + ((k : Int) + 1) * (eulRow (m + 1)).getD (Int.toNat (k : Int)) 0 = (eul (m + 1 + 1) k : Int) := by
  have e : k = 0 := by omega
  subst e
  rw [show Int.toNat ((0 : Nat) : Int) = 0 by rfl, eulRow_getD (by omega), eul_zero, eul_zero]; rfl
theorem eul_c1 {m k : Nat} (h : (k : Int) < 2 + (m : Int) - 1) (h0 : 0 < (k : Int)) : (0 : Int) + ((k : Int) + 1) * (eulRow (m + 1)).getD (Int.toNat (k : Int)) 0 + (2 + (m : Int) - k) * (eulRow (m + 1)).getD (Int.toNat ((k : Int) - 1)) 0 = (eul (m + 1 + 1) k : Int) := by
  have := eul_mid (m := m + 1) (k := k) (by omega) (by omega) (by omega)
  rw [← this, Int.toNat_natCast, show Int.toNat ((k : Int) - 1) = k - 1 by omega]
  push_cast
  grind
end Rc
namespace Rc
theorem bne_of {p q : Prop} {_ : Decidable p} {_ : Decidable q} (h : p ↔ q) : (decide p != decide q) = false := by
  by_cases hq : q
  · simp [h.mpr hq, hq]
  · have hp : ¬ p := fun e => hq (h.mp e)
    simp [hp, hq]
end Rc
namespace Rc
open PySem PySem.Spec PyProof.Rows L2
theorem log2_lt' {n k : Nat} (h : n < 2 ^ k) : n.log2 ≤ k := by
  by_cases h0 : n = 0
  · subst h0; exact Nat.zero_le _
  · exact Nat.le_of_lt ((Nat.log2_lt h0).mpr h)
theorem cmw {a b : Nat} {i j : Int} (h : Bd a i) (h' : Bd b j) (hs : a + b ≤ 900000) : CMulW i j := by
  have h1 := log2_lt' h.lt
  have h2 := log2_lt' h'.lt
  show i.natAbs.log2 + j.natAbs.log2 < 1000000
  omega
theorem cdw {b : Nat} {i j : Int} (h0 : 0 < j) (h : Bd b j) (hs : b ≤ 8000) : CDivW i j := by
  have h1 := log2_lt' h.lt
  exact ⟨h0, by omega⟩
end Rc
namespace Rc
/-- tables multiplied -/
def dotTo (row : List Int) (T : List (List Int)) (j n : Nat) : Int := ((List.range n).map fun i => row.getD i 0 * (T.getD i []).getD j 0).sum
def mulI (row : List Int) (T : List (List Int)) : List Int := (List.range row.length).map fun j => dotTo row T j row.length
def mulTo (row : List Int) (T : List (List Int)) (n : Nat) : List Int := (List.range n).map fun j => dotTo row T j row.length
def mulT (A T : List (List Int)) : List (List Int) := A.map fun r => mulI r T
def oneT (m : Nat) : List (List Int) := (List.range m).map fun i => (List.range m).map fun j => if i = j then 1 else 0
/-- as many lists of as many -/
def Sq (n : Nat) (T : List (List Int)) : Prop := T.length = n ∧ ∀ r ∈ T, r.length = n
def BdR (B : Nat) (r : List Int) : Prop := ∀ x ∈ r, Bd B x
def BdT (B : Nat) (T : List (List Int)) : Prop := ∀ r ∈ T, BdR B r
theorem getDm {α : Type} {xs : List α} {i : Nat} {d : α} (h : i < xs.length) : xs.getD i d ∈ xs := by simp [List.getD, h]
theorem Sq.row {n : Nat} {T : List (List Int)} (h : Sq n T) {i : Nat} (hi : i < n) : (T.getD i []).length = n := h.2 _ (getDm (by rw [h.1]; exact hi))
theorem Sq.mem {n : Nat} {T : List (List Int)} (h : Sq n T) {i : Nat} {r : List Int} (e : T[i]? = some r) : r.length = n := h.2 _ (List.mem_of_getElem? e)
theorem BdR.at {B : Nat} {r : List Int} (h : BdR B r) {i : Nat} (hi : i < r.length) : Bd B (r.getD i 0) := h _ (getDm hi)
theorem BdT.row {B : Nat} {T : List (List Int)} (h : BdT B T) {i : Nat} (hi : i < T.length) : BdR B (T.getD i []) := h _ (getDm hi)
theorem BdT.mem {B : Nat} {T : List (List Int)} (h : BdT B T) {i : Nat} {r : List Int} (e : T[i]? = some r) : BdR B r := h _ (List.mem_of_getElem? e)
theorem BdR.mono {a b : Nat} {r : List Int} (h : BdR a r) (hab : a ≤ b) : BdR b r := fun x hx => (h x hx).mono hab
theorem BdT.mono {a b : Nat} {T : List (List Int)} (h : BdT a T) (hab : a ≤ b) : BdT b T := fun x hx => BdR.mono (h x hx) hab
@[simp] theorem mulI_length (r : List Int) (T : List (List Int)) : (mulI r T).length = r.length := by simp [mulI]
@[simp] theorem mulT_length (A T : List (List Int)) : (mulT A T).length = A.length := by simp [mulT]
@[simp] theorem oneT_length (m : Nat) : (oneT m).length = m := by simp [oneT]
theorem dotTo_succ (row : List Int) (T : List (List Int)) (j n : Nat) : dotTo row T j (n + 1) = dotTo row T j n + row.getD n 0 * (T.getD n []).getD j 0 := by
  unfold dotTo; rw [List.range_succ, List.map_append, List.sum_append]; simp
theorem mulTo_succ (row : List Int) (T : List (List Int)) (n : Nat) : mulTo row T (n + 1) = mulTo row T n ++ [dotTo row T n row.length] := by
  unfold mulTo; rw [List.range_succ, List.map_append]; rfl
theorem mulI_getD {row : List Int} {T : List (List Int)} {j : Nat} (h : j < row.length) : (mulI row T).getD j 0 = dotTo row T j row.length := by
  unfold mulI; rw [List.getD_eq_getElem?_getD]; simp [h]
theorem oneT_sq (m : Nat) : Sq m (oneT m) := ⟨by simp, fun r hr => by
  obtain ⟨i, _, rfl⟩ := List.mem_map.mp hr
  simp⟩
theorem oneT_bd (m : Nat) : BdT 1 (oneT m) := fun r hr x hx => by
  obtain ⟨i, _, rfl⟩ := List.mem_map.mp hr
  obtain ⟨j, _, rfl⟩ := List.mem_map.mp hx
  refine ⟨?_⟩
  split <;> decide
theorem mulT_sq {n : Nat} {A T : List (List Int)} (h : Sq n A) : Sq n (mulT A T) := ⟨by rw [mulT_length]; exact h.1, fun r hr => by
  obtain ⟨a, ha, rfl⟩ := List.mem_map.mp hr
  rw [mulI_length]; exact h.2 a ha⟩
theorem oneT_getD {m i j : Nat} (hi : i < m) (hj : j < m) : ((oneT m).getD i []).getD j 0 = if i = j then 1 else 0 := by
  unfold oneT
  rw [List.getD_eq_getElem?_getD (l := List.map _ _), List.getElem?_map, List.getElem?_range hi]
  show (List.map (fun j => if i = j then (1 : Int) else 0) (List.range m)).getD j 0 = _
  rw [List.getD_eq_getElem?_getD, List.getElem?_map, List.getElem?_range hj]; rfl
theorem sum_map_zero {l : List Nat} {f : Nat → Int} (h : ∀ i ∈ l, f i = 0) : (l.map f).sum = 0 := by
  induction l with
  | nil => rfl
  | cons a l ih => rw [List.map_cons, List.sum_cons, h a List.mem_cons_self, ih fun i hi => h i (List.mem_cons_of_mem _ hi)]; rfl
theorem sum_one : ∀ {n k : Nat} {f : Nat → Int}, k < n → (∀ i, i < n → i ≠ k → f i = 0) → ((List.range n).map f).sum = f k
  | 0, _, _, h, _ => by omega
  | n + 1, k, f, h, hz => by
    rw [List.range_succ, List.map_append, List.sum_append]
    by_cases e : k = n
    · subst e
      rw [sum_map_zero fun i hi => hz i (by have := List.mem_range.mp hi; omega) (by have := List.mem_range.mp hi; omega)]; simp
    · rw [sum_one (show k < n by omega) fun i hi hne => hz i (by omega) hne]
      simp [hz n (by omega) (by omega)]
theorem listI_ext {a b : List Int} (hl : a.length = b.length) (h : ∀ i, i < a.length → a.getD i 0 = b.getD i 0) : a = b := by
  apply List.ext_getElem hl
  intro i h1 h2
  have := h i h1
  rw [List.getD_eq_getElem?_getD, List.getD_eq_getElem?_getD, List.getElem?_eq_getElem h1, List.getElem?_eq_getElem h2] at this
  exact this
theorem mulI_one {row : List Int} {m : Nat} (h : row.length = m) : mulI row (oneT m) = row := by
  refine listI_ext (by simp) fun j hj => ?_
  rw [mulI_length] at hj
  rw [mulI_getD hj]
  unfold dotTo
  rw [sum_one hj fun i hi hne => by rw [oneT_getD (by omega) (by omega), if_neg hne, Int.mul_zero]]
  rw [oneT_getD (by omega) (by omega), if_pos rfl, Int.mul_one]
theorem mulT_one {A : List (List Int)} {m : Nat} (h : Sq m A) : mulT A (oneT m) = A := by
  unfold mulT
  exact (List.map_congr_left fun r hr => mulI_one (h.2 r hr)).trans (List.map_id _)
theorem one_mulT {A : List (List Int)} {m : Nat} (h : Sq m A) : mulT (oneT m) A = A := by
  apply List.ext_getElem (by simp [h.1])
  intro i h1 h2
  have hi : i < m := by rw [h.1] at h2; exact h2
  have e : (mulT (oneT m) A)[i] = mulI ((oneT m).getD i []) A := by
    have hl : i < (oneT m).length := by simpa using hi
    have e1 : (mulT (oneT m) A)[i]? = some (mulI ((oneT m).getD i []) A) := by
      unfold mulT
      rw [List.getElem?_map, List.getD_eq_getElem?_getD, List.getElem?_eq_getElem hl]; rfl
    rw [List.getElem?_eq_getElem h1] at e1
    exact Option.some.inj e1
  rw [e]
  have er : ((oneT m).getD i []).length = m := (oneT_sq m).row hi
  have eA : A[i] = A.getD i [] := by simp [List.getD, h2]
  rw [eA]
  have eAl := h.row hi
  refine listI_ext (by rw [mulI_length, er, eAl]) fun j hj => ?_
  rw [mulI_length, er] at hj
  rw [mulI_getD (by rw [er]; exact hj), er]
  unfold dotTo
  rw [sum_one hi fun k hk hne => by rw [oneT_getD hi hk, if_neg (fun z => hne z.symm), Int.zero_mul]]
  rw [oneT_getD hi hi, if_pos rfl, Int.one_mul]
theorem bdR_nil (B : Nat) : BdR B [] := fun _ h => nomatch h
theorem bdR_app {B : Nat} {r : List Int} {x : Int} (h : BdR B r) (hx : Bd B x) : BdR B (r ++ [x]) := fun y hy => by
  rcases List.mem_append.mp hy with hy | hy
  · exact h y hy
  · rw [List.mem_singleton.mp hy]; exact hx
theorem mul_mono_sq {m : Int} {i : Nat} (h0 : 1 ≤ m) (hi : i < m.toNat) : m * (i : Int) + m ≤ m * m := by
  have : m * ((i : Int) + 1) ≤ m * m := Int.mul_le_mul_of_nonneg_left (by omega) (by omega)
  rw [Int.mul_add, Int.mul_one] at this
  exact this
theorem sq36 {m : Int} (h0 : 1 ≤ m) (h1 : m ≤ 6) : 1 ≤ m * m ∧ m * m ≤ 36 := by
  have a : 1 * 1 ≤ m * m := Int.mul_le_mul h0 h0 (by decide) (by omega)
  have b : m * m ≤ 6 * 6 := Int.mul_le_mul h1 h1 (by omega) (by decide)
  omega
theorem one_eq (m : Int) : (List.map (fun i : Nat => List.map (fun i1 : Nat => (if decide ((i : Int) = (i1 : Int)) then (1 : Int) else 0)) (List.range m.toNat)) (List.range m.toNat)) = oneT m.toNat := by
  unfold oneT
  refine List.map_congr_left fun i _ => List.map_congr_left fun j _ => ?_
  by_cases h : i = j
  · subst h; simp
  · rw [if_neg h, if_neg (by simp; omega)]
end Rc
namespace Rc
/-- sums over the first numbers -/
def sumR (n : Nat) (f : Nat → Int) : Int := ((List.range n).map f).sum
@[simp] theorem sumR_zero (f : Nat → Int) : sumR 0 f = 0 := rfl
theorem sumR_succ (n : Nat) (f : Nat → Int) : sumR (n + 1) f = sumR n f + f n := by unfold sumR; rw [List.range_succ, List.map_append, List.sum_append]; simp
theorem sumR_congr {n : Nat} {f g : Nat → Int} (h : ∀ i, i < n → f i = g i) : sumR n f = sumR n g := by
  unfold sumR; congr 1; exact List.map_congr_left fun i hi => h i (List.mem_range.mp hi)
theorem sumR_add (n : Nat) (f g : Nat → Int) : sumR n (fun i => f i + g i) = sumR n f + sumR n g := by
  induction n with
  | zero => rfl
  | succ n ih => rw [sumR_succ, sumR_succ, sumR_succ, ih]; omega
theorem sumR_sub (n : Nat) (f g : Nat → Int) : sumR n (fun i => f i - g i) = sumR n f - sumR n g := by
  induction n with
  | zero => rfl
  | succ n ih => rw [sumR_succ, sumR_succ, sumR_succ, ih]; omega
theorem sumR_mul (n : Nat) (c : Int) (f : Nat → Int) : sumR n (fun i => c * f i) = c * sumR n f := by
  induction n with
  | zero => simp
  | succ n ih => rw [sumR_succ, sumR_succ, ih, Int.mul_add]
theorem sumR_mulr (n : Nat) (c : Int) (f : Nat → Int) : sumR n (fun i => f i * c) = sumR n f * c := by
  induction n with
  | zero => simp
  | succ n ih => rw [sumR_succ, sumR_succ, ih, Int.add_mul]
theorem sumR_front (n : Nat) (f : Nat → Int) : sumR (n + 1) f = f 0 + sumR n fun i => f (i + 1) := by
  induction n with
  | zero => rw [sumR_succ]; simp
  | succ n ih => rw [sumR_succ, ih, sumR_succ]; omega
theorem sumR_zeros {n : Nat} {f : Nat → Int} (h : ∀ i, i < n → f i = 0) : sumR n f = 0 := by
  induction n with
  | zero => rfl
  | succ n ih => rw [sumR_succ, ih fun i hi => h i (by omega), h n (by omega)]; rfl
theorem sumR_const (n : Nat) (c : Int) : sumR n (fun _ => c) = n * c := by
  induction n with
  | zero => simp
  | succ n ih => rw [sumR_succ, ih]; push_cast; rw [Int.add_mul, Int.one_mul]
theorem sumR_comm (n m : Nat) (f : Nat → Nat → Int) : sumR n (fun i => sumR m (f i)) = sumR m fun j => sumR n fun i => f i j := by
  induction n with
  | zero => exact (sumR_zeros fun _ _ => rfl).symm
  | succ n ih => rw [sumR_succ, ih, ← sumR_add]; exact sumR_congr fun j _ => (sumR_succ n _).symm
theorem sumR_ext {n m : Nat} {f : Nat → Int} (hnm : n ≤ m) (h : ∀ i, n ≤ i → i < m → f i = 0) : sumR m f = sumR n f := by
  induction m with
  | zero => rw [show n = 0 by omega]
  | succ m ih =>
    by_cases e : n = m + 1
    · rw [e]
    · rw [sumR_succ, h m (by omega) (by omega), ih (by omega) fun i h1 h2 => h i h1 (by omega)]; omega
theorem sumR_le {n : Nat} {f g : Nat → Int} (h : ∀ i, i < n → f i ≤ g i) : sumR n f ≤ sumR n g := by
  induction n with
  | zero => exact Int.le_refl _
  | succ n ih => rw [sumR_succ, sumR_succ]; have := ih fun i hi => h i (by omega); have := h n (by omega); omega
theorem sumR_rev (n : Nat) (f : Nat → Int) : sumR n (fun i => f (n - 1 - i)) = sumR n f := by
  induction n with
  | zero => rfl
  | succ n ih =>
    rw [sumR_front, sumR_succ, ← ih]
    rw [show n + 1 - 1 - 0 = n by omega, Int.add_comm]
    congr 1
    exact sumR_congr fun i hi => by congr 1; omega
theorem sumR_tele (n : Nat) (f : Int → Int) (y : Int) : sumR n (fun d => f (y - d) - f (y - d - 1)) = f y - f (y - n) := by
  induction n with
  | zero => simp
  | succ n ih => rw [sumR_succ, ih]; rw [show y - ((n + 1 : Nat) : Int) = y - n - 1 by omega]; omega
/-- how often d comes as a sum of m + 1 numbers -/
def fM (m : Nat) (d : Int) : Int := chooseZ (d + m) m
theorem fM_neg {m : Nat} {d : Int} (h : d < 0) : fM m d = 0 := chooseZ_out (.inr (by omega))
theorem fM_zero (m : Nat) : fM m 0 = 1 := by
  unfold fM; rw [Int.zero_add, chooseZ_in (by omega) (by omega), bin_self]; rfl
theorem fM_0 {d : Int} (h : 0 ≤ d) : fM 0 d = 1 := by
  unfold fM; rw [chooseZ_in (by omega) (by omega)]; simp
theorem fM_diff (m : Nat) (d : Int) : fM (m + 1) d - fM (m + 1) (d - 1) = fM m d := by
  by_cases h : d < 0
  · rw [fM_neg h, fM_neg (show d - 1 < 0 by omega), fM_neg h]; rfl
  · unfold fM
    have := chooseZ_pascal (n := d + ((m + 1 : Nat) : Int)) (k := ((m + 1 : Nat) : Int)) (by omega)
    rw [show d - 1 + ((m + 1 : Nat) : Int) = d + ((m + 1 : Nat) : Int) - 1 by omega, ← this]
    rw [show ((m + 1 : Nat) : Int) - 1 = (m : Int) by omega, show d + ((m + 1 : Nat) : Int) - 1 = d + m by omega]
    omega
/-- differences -/
def dif : Nat → (Int → Int) → Int → Int
  | 0, g, n => g n
  | M + 1, g, n => dif M g n - dif M g (n - 1)
theorem dif_congr {M : Nat} {g h : Int → Int} {n : Int} (e : ∀ y, y ≤ n → g y = h y) : dif M g n = dif M h n := by
  induction M generalizing n with
  | zero => exact e n (Int.le_refl _)
  | succ M ih => rw [dif, dif, ih e, ih fun y hy => e y (by omega)]
theorem dif_sub (M : Nat) (g h : Int → Int) (n : Int) : dif M (fun y => g y - h y) n = dif M g n - dif M h n := by
  induction M generalizing n with
  | zero => rfl
  | succ M ih => rw [dif, dif, dif, ih, ih]; omega
theorem dif_shift (M : Nat) (g : Int → Int) (c n : Int) : dif M (fun y => g (y + c)) n = dif M g (n + c) := by
  induction M generalizing n with
  | zero => rfl
  | succ M ih => rw [dif, dif, ih, ih, show n - 1 + c = n + c - 1 by omega]
theorem dif_comm (M : Nat) (g : Int → Int) (n : Int) : dif (M + 1) g n = dif M (fun y => g y - g (y - 1)) n := by
  rw [dif_sub, dif]
  congr 1
  exact (dif_shift M g (-1) n).symm
theorem dif_zero {M : Nat} {g : Int → Int} {n : Int} (h : ∀ y, y ≤ n → g y = 0) : dif M g n = 0 := by
  induction M generalizing n with
  | zero => exact h n (Int.le_refl _)
  | succ M ih => rw [dif, ih h, ih fun y hy => h y (by omega)]; rfl
theorem dif_sum (M k : Nat) (g : Nat → Int → Int) (n : Int) : dif M (fun y => sumR k fun d => g d y) n = sumR k fun d => dif M (g d) n := by
  induction M generalizing n with
  | zero => rfl
  | succ M ih => rw [dif, ih, ih, ← sumR_sub]; rfl
/-- .. by choices -/
def sg (t : Nat) : Int := if t % 2 = 0 then 1 else -1
theorem sg_succ (t : Nat) : sg (t + 1) = - sg t := by
  unfold sg
  by_cases h : t % 2 = 0
  · rw [if_pos h, if_neg (by omega)]
  · rw [if_neg h, if_pos (by omega)]; rfl
def altTo (M : Nat) (g : Int → Int) (n : Int) (K : Nat) : Int := sumR K fun t => sg t * chooseZ M t * g (n - t)
theorem altTo_succ (M : Nat) (g : Int → Int) (n : Int) (K : Nat) : altTo M g n (K + 1) = altTo M g n K + sg K * chooseZ M K * g (n - K) := sumR_succ _ _
theorem alt_dif : ∀ (M : Nat) (g : Int → Int) (n : Int), altTo M g n (M + 1) = dif M g n
  | 0, g, n => by
    unfold altTo
    rw [sumR_succ, sumR_zero, dif]
    rw [chooseZ_in (by omega) (by omega)]
    simp [sg]
  | M + 1, g, n => by
    rw [dif, ← alt_dif M g n, ← alt_dif M g (n - 1)]
    unfold altTo
    have e : ∀ t : Nat, t < M + 1 + 1 → sg t * chooseZ ((M + 1 : Nat) : Int) t * g (n - t) = sg t * chooseZ (M : Int) t * g (n - t) + sg t * chooseZ (M : Int) ((t : Int) - 1) * g (n - t) := fun t _ => by
      have := chooseZ_pascal (n := ((M + 1 : Nat) : Int)) (k := (t : Int)) (by omega)
      rw [show ((M + 1 : Nat) : Int) - 1 = (M : Int) by omega] at this
      rw [← this, Int.mul_add, Int.add_mul]
    rw [sumR_congr e, sumR_add]
    rw [sumR_succ (M + 1) fun t => sg t * chooseZ (M : Int) t * g (n - t), chooseZ_out (n := (M : Int)) (k := ((M + 1 : Nat) : Int)) (by omega), Int.mul_zero, Int.zero_mul, Int.add_zero]
    rw [sumR_front (M + 1) fun t => sg t * chooseZ (M : Int) ((t : Int) - 1) * g (n - t)]
    rw [chooseZ_out (n := (M : Int)) (k := ((0 : Nat) : Int) - 1) (by omega), Int.mul_zero, Int.zero_mul, Int.zero_add, Int.sub_eq_add_neg]
    congr 1
    have : ∀ t : Nat, t < M + 1 → sg (t + 1) * chooseZ (M : Int) (((t + 1 : Nat) : Int) - 1) * g (n - ((t + 1 : Nat) : Int)) = -1 * (sg t * chooseZ (M : Int) t * g (n - 1 - t)) := fun t _ => by
      rw [sg_succ, show ((t + 1 : Nat) : Int) - 1 = (t : Int) by omega, show n - ((t + 1 : Nat) : Int) = n - 1 - t by omega, Int.neg_mul, Int.neg_mul, Int.neg_one_mul]
    rw [sumR_congr this, sumR_mul, Int.neg_one_mul]
theorem altTo_cut {M K : Nat} {g : Int → Int} {n : Int} (hK : K ≤ M + 1) (h : ∀ y, y ≤ n - K → g y = 0) : altTo M g n K = dif M g n := by
  rw [← alt_dif]
  unfold altTo
  exact (sumR_ext hK fun i h1 _ => by rw [h _ (by omega), Int.mul_zero]).symm
/-- undone again -/
theorem conv : ∀ (M : Nat) (g : Int → Int), (∀ y, y ≤ 0 → g y = 0) → ∀ x : Nat, sumR x (fun k => dif (M + 1) g ((k : Int) + 1) * fM M ((x : Int) - 1 - k)) = g x
  | 0, g, hg, x => by
    rw [sumR_congr (g := fun k : Nat => dif 1 g ((k : Int) + 1)) fun k hk => by rw [fM_0 (by omega), Int.mul_one]]
    induction x with
    | zero => rw [sumR_zero, hg _ (by omega)]
    | succ x ih =>
      rw [sumR_succ, ih, dif, dif, dif, show (x : Int) + 1 - 1 = x by omega, show ((x + 1 : Nat) : Int) = (x : Int) + 1 by omega]; omega
  | M + 1, g, hg, x => by
    rw [← conv M g hg x]
    have hz : ∀ y, y ≤ 0 → dif (M + 1) g y = 0 := fun y hy => dif_zero fun z hz => hg z (by omega)
    have e1 : ∀ k : Nat, k < x → dif (M + 1 + 1) g ((k : Int) + 1) * fM (M + 1) ((x : Int) - 1 - k) = dif (M + 1) g ((k : Int) + 1) * fM (M + 1) ((x : Int) - 1 - k) - dif (M + 1) g k * fM (M + 1) ((x : Int) - 1 - k) := fun k _ => by
      rw [dif, show (k : Int) + 1 - 1 = k by omega, Int.sub_mul]
    rw [sumR_congr e1, sumR_sub]
    have e2 : sumR x (fun k => dif (M + 1) g k * fM (M + 1) ((x : Int) - 1 - k)) = sumR x fun k => dif (M + 1) g ((k : Int) + 1) * fM (M + 1) ((x : Int) - 1 - k - 1) := by
      cases x with
      | zero => rfl
      | succ x =>
        rw [sumR_front, sumR_succ]
        rw [hz _ (by omega : ((0 : Nat) : Int) ≤ 0), Int.zero_mul, Int.zero_add, fM_neg (m := M + 1) (d := ((x + 1 : Nat) : Int) - 1 - x - 1) (by omega), Int.mul_zero, Int.add_zero]
        exact sumR_congr fun k _ => by rw [show ((k + 1 : Nat) : Int) = (k : Int) + 1 by omega, show ((x + 1 : Nat) : Int) - 1 - ((k : Int) + 1) = ((x + 1 : Nat) : Int) - 1 - k - 1 by omega]
    rw [e2, ← sumR_sub]
    exact sumR_congr fun k _ => by rw [← Int.mul_sub, fM_diff]
/-- rows of m figures below b that come to at most T -/
def nR (b : Nat) : Nat → Int → Int
  | 0, T => if 0 ≤ T then 1 else 0
  | m + 1, T => sumR b fun d => nR b m (T - d)
theorem nR_eq (b : Nat) : ∀ (m : Nat) (T : Int), dif m (fun n => fM m (T + n * b)) 0 = nR b m T
  | 0, T => by
    rw [dif, nR, Int.zero_mul, Int.add_zero]
    by_cases h : 0 ≤ T
    · rw [if_pos h, fM_0 h]
    · rw [if_neg h, fM_neg (by omega)]
  | m + 1, T => by
    rw [dif_comm, nR]
    have e : ∀ y : Int, y ≤ 0 → fM (m + 1) (T + y * b) - fM (m + 1) (T + (y - 1) * b) = sumR b fun d => fM m (T - d + y * b) := fun y _ => by
      have t := sumR_tele b (fM (m + 1)) (T + y * b)
      rw [show T + (y - 1) * b = T + y * b - b by rw [Int.sub_mul]; omega, ← t]
      exact sumR_congr fun d _ => by rw [fM_diff]; congr 1; omega
    rw [dif_congr e, dif_sum]
    exact sumR_congr fun d _ => nR_eq b m (T - d)
theorem nR_mono (b : Nat) : ∀ (m : Nat) {S T : Int}, S ≤ T → nR b m S ≤ nR b m T
  | 0, S, T, h => by
    rw [nR, nR]; split <;> split <;> omega
  | m + 1, S, T, h => by
    rw [nR, nR]; exact sumR_le fun i _ => nR_mono b m (by omega)
theorem nR_neg (b : Nat) : ∀ (m : Nat) {T : Int}, T < 0 → nR b m T = 0
  | 0, T, h => if_neg (by omega)
  | m + 1, T, h => by rw [nR]; exact sumR_zeros fun i _ => nR_neg b m (by omega)
theorem pow_succ' (b : Int) (m : Nat) : b ^ (m + 1) = b * b ^ m := by rw [Int.pow_succ, Int.mul_comm]
theorem nR_compl (b : Nat) : ∀ (m : Nat) (T : Int), nR b m T + nR b m ((m : Int) * ((b : Int) - 1) - 1 - T) = (b : Int) ^ m
  | 0, T => by
    rw [nR, nR]
    by_cases h : 0 ≤ T
    · rw [if_pos h, if_neg (by omega)]; rfl
    · rw [if_neg h, if_pos (by omega)]; rfl
  | m + 1, T => by
    rw [nR, nR]
    have e : ∀ d : Nat, d < b → nR b m (((m + 1 : Nat) : Int) * ((b : Int) - 1) - 1 - T - d) = (b : Int) ^ m - nR b m (T - ((b - 1 - d : Nat) : Int)) := fun d hd => by
      have := nR_compl b m (T - ((b - 1 - d : Nat) : Int))
      rw [show ((m + 1 : Nat) : Int) * ((b : Int) - 1) - 1 - T - d = (m : Int) * ((b : Int) - 1) - 1 - (T - ((b - 1 - d : Nat) : Int)) by
        rw [show ((m + 1 : Nat) : Int) = (m : Int) + 1 by omega, Int.add_mul]; omega]
      omega
    rw [sumR_congr e, sumR_sub, sumR_const, sumR_rev b fun d => nR b m (T - d), pow_succ']
    omega
theorem nR_top {b m : Nat} {T : Int} (h : (m : Int) * ((b : Int) - 1) ≤ T) : nR b m T = (b : Int) ^ m := by
  have := nR_compl b m T
  rw [nR_neg b m (T := (m : Int) * ((b : Int) - 1) - 1 - T) (by omega)] at this
  omega
/-- the table of carries -/
def cC (m b i j : Nat) : Int := dif (m + 1) (fun n => fM m (n * b - 1 - i)) ((j : Int) + 1)
theorem cC_zero {m b i : Nat} : ∀ y : Int, y ≤ 0 → fM m (y * b - 1 - i) = 0 := fun y hy => fM_neg (by
  have : y * (b : Int) ≤ 0 := Int.mul_nonpos_of_nonpos_of_nonneg hy (by omega)
  omega)
theorem dif_nR (m b i : Nat) (j : Int) : dif m (fun n => fM m (n * b - 1 - i)) j = nR b m (j * b - 1 - i) := by
  have h := dif_shift m (fun n => fM m (n * b - 1 - i)) j 0
  rw [Int.zero_add] at h
  rw [← h, ← nR_eq]
  exact dif_congr fun y _ => by
    show fM m ((y + j) * b - 1 - i) = _
    rw [Int.add_mul]; congr 1; omega
theorem cC_nR (m b i j : Nat) : cC m b i j = nR b m (((j : Int) + 1) * b - 1 - i) - nR b m ((j : Int) * b - 1 - i) := by
  unfold cC
  rw [dif, dif_nR, dif_nR, show (j : Int) + 1 - 1 = j by omega]
theorem cC_nonneg (m b i j : Nat) : 0 ≤ cC m b i j := by
  rw [cC_nR]
  have := nR_mono b m (S := (j : Int) * b - 1 - i) (T := ((j : Int) + 1) * b - 1 - i) (by rw [Int.add_mul]; omega)
  omega
theorem mul_le_b {m j b : Nat} (h : m ≤ j) : (m : Int) * b ≤ (j : Int) * b := Int.mul_le_mul_of_nonneg_right (by omega) (by omega)
theorem cC_out {m b i j : Nat} (hi : i < m) (hj : m ≤ j) : cC m b i j = 0 := by
  rw [cC_nR]
  have h1 := mul_le_b (b := b) hj
  have h2 : (m : Int) * ((b : Int) - 1) = (m : Int) * b - m := by rw [Int.mul_sub, Int.mul_one]
  rw [nR_top (by rw [Int.add_mul]; omega), nR_top (by omega)]; omega
theorem cC_sum {m b i : Nat} (hi : i < m) : sumR m (cC m b i) = (b : Int) ^ m := by
  have key : ∀ k : Nat, sumR k (cC m b i) = nR b m ((k : Int) * b - 1 - i) := fun k => by
    induction k with
    | zero => rw [sumR_zero, nR_neg b m (by omega)]
    | succ k ih => rw [sumR_succ, ih, cC_nR, show ((k + 1 : Nat) : Int) = (k : Int) + 1 by omega]; omega
  rw [key, nR_top]
  rw [Int.mul_sub, Int.mul_one]; omega
theorem cC_symm {m b i j : Nat} (hi : i < m) (hj : j < m) : cC m b (m - 1 - i) (m - 1 - j) = cC m b i j := by
  rw [cC_nR, cC_nR]
  have c1 := nR_compl b m ((j : Int) * b - 1 - i)
  have c2 := nR_compl b m (((j : Int) + 1) * b - 1 - i)
  rw [show (m : Int) * ((b : Int) - 1) - 1 - ((j : Int) * b - 1 - i) = (((m - 1 - j : Nat) : Int) + 1) * b - 1 - ((m - 1 - i : Nat) : Int) by
    rw [show ((m - 1 - j : Nat) : Int) + 1 = (m : Int) - j by omega, Int.mul_sub, Int.sub_mul]; omega] at c1
  rw [show (m : Int) * ((b : Int) - 1) - 1 - (((j : Int) + 1) * b - 1 - i) = ((m - 1 - j : Nat) : Int) * b - 1 - ((m - 1 - i : Nat) : Int) by
    rw [show ((m - 1 - j : Nat) : Int) = (m : Int) - (j + 1) by omega, Int.mul_sub, Int.sub_mul]; omega] at c2
  omega
theorem cC_conv {m b i : Nat} (hi : i < m) (x : Nat) : sumR m (fun j => cC m b i j * fM m ((x : Int) - 1 - j)) = fM m ((x : Int) * b - 1 - i) := by
  have h := conv m (fun n => fM m (n * b - 1 - i)) cC_zero x
  rw [← h]
  by_cases hx : x ≤ m
  · exact sumR_ext hx fun k h1 _ => by rw [fM_neg (m := m) (d := (x : Int) - 1 - k) (by omega), Int.mul_zero]
  · exact (sumR_ext (show m ≤ x by omega) fun k h1 _ => by
      show cC m b i k * _ = 0
      rw [cC_out hi h1, Int.zero_mul]).symm
theorem uniq {m : Nat} {d : Nat → Int} (h : ∀ x : Nat, sumR m (fun j => d j * fM m ((x : Int) - 1 - j)) = 0) : ∀ j, j < m → d j = 0 := by
  intro j
  induction j using Nat.strongRecOn with
  | _ j ih =>
    intro hj
    have := h (j + 1)
    rw [sumR_ext (n := j + 1) (by omega) fun k h1 _ => by rw [fM_neg (m := m) (d := ((j + 1 : Nat) : Int) - 1 - k) (by omega), Int.mul_zero]] at this
    rw [sumR_succ, sumR_zeros fun k hk => by rw [ih k hk (by omega), Int.zero_mul]] at this
    rw [show ((j + 1 : Nat) : Int) - 1 - (j : Int) = 0 by omega, fM_zero] at this
    omega
/-- the table of a product -/
theorem cC_prod {m a b i j : Nat} (hi : i < m) (hj : j < m) : sumR m (fun k => cC m a i k * cC m b k j) = cC m (a * b) i j := by
  have := uniq (m := m) (d := fun j => sumR m (fun k => cC m a i k * cC m b k j) - cC m (a * b) i j) (fun x => by
    have e1 : ∀ j, j < m → (sumR m (fun k => cC m a i k * cC m b k j) - cC m (a * b) i j) * fM m ((x : Int) - 1 - j) = sumR m (fun k => cC m a i k * (cC m b k j * fM m ((x : Int) - 1 - j))) - cC m (a * b) i j * fM m ((x : Int) - 1 - j) := fun j _ => by
      rw [Int.sub_mul, ← sumR_mulr]
      congr 1
      exact sumR_congr fun k _ => Int.mul_assoc _ _ _
    rw [sumR_congr e1, sumR_sub, sumR_comm, cC_conv hi]
    have e2 : ∀ k, k < m → sumR m (fun j => cC m a i k * (cC m b k j * fM m ((x : Int) - 1 - j))) = cC m a i k * fM m (((x * b : Nat) : Int) - 1 - k) := fun k hk => by
      rw [sumR_mul, cC_conv hk]; push_cast; rfl
    rw [sumR_congr e2, cC_conv hi (x * b)]
    have : ((x * b : Nat) : Int) * (a : Int) = (x : Int) * ((a * b : Nat) : Int) := by push_cast; rw [Int.mul_assoc, Int.mul_comm (b : Int)]
    rw [this]; omega) j hj
  omega
/-- the row that is kept -/
theorem cC_kept {m b j : Nat} (h1 : 1 ≤ m) (hj : j < m) : sumR m (fun i => (eulRow m).getD i 0 * cC m b i j) = (b : Int) ^ m * (eulRow m).getD j 0 := by
  have := uniq (m := m) (d := fun j => sumR m (fun i => (eulRow m).getD i 0 * cC m b i j) - (b : Int) ^ m * (eulRow m).getD j 0) (fun x => by
    have w : ∀ y : Nat, sumR m (fun i => (eulRow m).getD i 0 * fM m ((y : Int) - 1 - i)) = (y : Int) ^ m := fun y => by
      have t := totI_all (n := m) (h := (y : Int)) (by omega) h1
      rw [← t]; unfold totI sumR
      congr 1
      exact List.map_congr_left fun i _ => by unfold fM; congr 2; omega
    have e1 : ∀ j, j < m → (sumR m (fun i => (eulRow m).getD i 0 * cC m b i j) - (b : Int) ^ m * (eulRow m).getD j 0) * fM m ((x : Int) - 1 - j) = sumR m (fun i => (eulRow m).getD i 0 * (cC m b i j * fM m ((x : Int) - 1 - j))) - (b : Int) ^ m * ((eulRow m).getD j 0 * fM m ((x : Int) - 1 - j)) := fun j _ => by
      rw [Int.sub_mul, ← sumR_mulr, Int.mul_assoc]
      congr 1
      exact sumR_congr fun k _ => Int.mul_assoc _ _ _
    rw [sumR_congr e1, sumR_sub, sumR_comm, sumR_mul, w]
    have e2 : ∀ k, k < m → sumR m (fun j => (eulRow m).getD k 0 * (cC m b k j * fM m ((x : Int) - 1 - j))) = (eulRow m).getD k 0 * fM m (((x * b : Nat) : Int) - 1 - k) := fun k hk => by
      rw [sumR_mul, cC_conv hk]; push_cast; rfl
    rw [sumR_congr e2, w]
    push_cast
    rw [Int.mul_pow, Int.mul_comm]; omega) j hj
  omega
end Rc
namespace Rc
/-! how far from even -/
theorem sumR_abs (n : Nat) (f : Nat → Int) : ((sumR n f).natAbs : Int) ≤ sumR n fun i => ((f i).natAbs : Int) := by
  induction n with
  | zero => exact Int.le_refl 0
  | succ n ih => rw [sumR_succ, sumR_succ]; omega
def facZ : Nat → Int
  | 0 => 1
  | n + 1 => facZ n * ((n : Int) + 1)
theorem facZ_pos : ∀ n, 1 ≤ facZ n
  | 0 => Int.le_refl 1
  | n + 1 => by
    have := Int.mul_le_mul (facZ_pos n) (show (1 : Int) ≤ (n : Int) + 1 by omega) (by omega) (by have := facZ_pos n; omega)
    simpa [facZ] using this
theorem eul_fac (m : Nat) : sumR (m + 1) (fun k => (eul (m + 1) k : Int)) = facZ (m + 1) := by
  induction m with
  | zero => rfl
  | succ m ih =>
    have h0 : sumR (m + 1 + 1) (fun k => (eul (m + 1 + 1) k : Int)) = (eul (m + 1) 0 : Int) + (sumR (m + 1) (fun i => ((i : Int) + 2) * (eul (m + 1) (i + 1) : Int)) + sumR (m + 1) (fun i => ((m : Int) + 1 - i) * (eul (m + 1) i : Int))) := by
      rw [sumR_front, eul_s0, ← sumR_add]
      congr 1
      refine sumR_congr fun i hi => ?_
      rw [eul_ss]
      push_cast
      rw [show ((m + 1 - i : Nat) : Int) = (m : Int) + 1 - i by omega, show (i : Int) + 1 + 1 = i + 2 by omega]
    have h1 : sumR (m + 1 + 1) (fun k => ((k : Int) + 1) * (eul (m + 1) k : Int)) = (eul (m + 1) 0 : Int) + sumR (m + 1) (fun i => ((i : Int) + 2) * (eul (m + 1) (i + 1) : Int)) := by
      rw [sumR_front]
      rw [show sumR (m + 1) (fun i => (((i + 1 : Nat) : Int) + 1) * (eul (m + 1) (i + 1) : Int)) = sumR (m + 1) (fun i => ((i : Int) + 2) * (eul (m + 1) (i + 1) : Int)) from sumR_congr fun i _ => by rw [show ((i + 1 : Nat) : Int) + 1 = (i : Int) + 2 by omega]]
      simp
    have h2 : sumR (m + 1 + 1) (fun k => ((k : Int) + 1) * (eul (m + 1) k : Int)) = sumR (m + 1) (fun k => ((k : Int) + 1) * (eul (m + 1) k : Int)) := by
      rw [sumR_succ, eul_self]; simp
    have h3 : sumR (m + 1) (fun k => ((k : Int) + 1) * (eul (m + 1) k : Int)) + sumR (m + 1) (fun i => ((m : Int) + 1 - i) * (eul (m + 1) i : Int)) = ((m : Int) + 1 + 1) * sumR (m + 1) (fun k => (eul (m + 1) k : Int)) := by
      rw [← sumR_add, ← sumR_mul]
      refine sumR_congr fun i _ => ?_
      rw [← Int.add_mul]; congr 1; omega
    rw [h0]
    have e : facZ (m + 1 + 1) = ((m : Int) + 1 + 1) * facZ (m + 1) := by
      show facZ (m + 1) * (((m + 1 : Nat) : Int) + 1) = _
      rw [Int.mul_comm]; push_cast; rfl
    rw [e, ← ih, ← h3]
    omega
theorem eulRow_sumR (n : Nat) : (eulRow n).sum = sumR n fun k => (eulRow n).getD k 0 := by
  show ((List.range n).map fun k => (eul n k : Int)).sum = _
  exact sumR_congr fun i hi => (eulRow_getD hi).symm
theorem eulRow_fac {n : Nat} (h : 1 ≤ n) : (eulRow n).sum = facZ n := by
  obtain ⟨m, rfl⟩ : ∃ m, n = m + 1 := ⟨n - 1, by omega⟩
  exact eul_fac m
theorem eulRow_nn (n k : Nat) : 0 ≤ (eulRow n).getD k 0 := by
  by_cases h : k < n
  · rw [eulRow_getD h]; omega
  · rw [eulRow_out (by omega)]; omega
def farTo (n : Nat) (h F w : Int) (i : Nat) : Int := sumR i fun k => (eulRow n).getD k 0 * ((chooseZ (h + n - (1 + k)) n * F - w).natAbs : Int)
theorem farTo_succ (n : Nat) (h F w : Int) (i : Nat) : farTo n h F w (i + 1) = farTo n h F w i + (eulRow n).getD i 0 * ((chooseZ (h + n - (1 + i)) n * F - w).natAbs : Int) := sumR_succ _ _
def dist (n h : Nat) : Int := farTo n h (facZ n) ((h : Int) ^ n) n
theorem dist_nn (n h : Nat) : 0 ≤ dist n h := by
  have : sumR n (fun _ => (0 : Int)) ≤ dist n h := sumR_le fun i _ => Int.mul_nonneg (eulRow_nn _ _) (by omega)
  rwa [sumR_zeros fun _ _ => rfl] at this
theorem w_conv {n b h j : Nat} (hj : j < n) : sumR n (fun i => cC n b j i * chooseZ ((h : Int) + n - (1 + i)) n) = chooseZ (((h * b : Nat) : Int) + n - (1 + j)) n := by
  have := cC_conv (m := n) (b := b) hj h
  rw [show chooseZ (((h * b : Nat) : Int) + n - (1 + j)) n = fM n ((h : Int) * b - 1 - j) by unfold fM; congr 1; push_cast; omega, ← this]
  refine sumR_congr fun i _ => ?_
  unfold fM; congr 2; omega
theorem dist_step {n h b : Nat} (h1 : 1 ≤ n) : dist n (h * b) ≤ (b : Int) ^ n * dist n h := by
  unfold dist farTo
  have e : (((h * b : Nat) : Int)) ^ n = (h : Int) ^ n * (b : Int) ^ n := by push_cast; exact Int.mul_pow
  have s1 : ∀ j, j < n → (((chooseZ (((h * b : Nat) : Int) + n - (1 + j)) n * facZ n - ((h * b : Nat) : Int) ^ n).natAbs : Nat) : Int) ≤ sumR n fun i => cC n b j i * ((chooseZ ((h : Int) + n - (1 + i)) n * facZ n - (h : Int) ^ n).natAbs : Int) := by
    intro j hj
    have e2 : chooseZ (((h * b : Nat) : Int) + n - (1 + j)) n * facZ n - ((h * b : Nat) : Int) ^ n = sumR n fun i => cC n b j i * (chooseZ ((h : Int) + n - (1 + i)) n * facZ n - (h : Int) ^ n) := by
      rw [← w_conv hj, e, ← cC_sum (b := b) hj, ← sumR_mulr, ← sumR_mul, ← sumR_sub]
      refine sumR_congr fun i _ => ?_
      rw [Int.mul_sub, Int.mul_assoc, Int.mul_comm ((h : Int) ^ n)]
    rw [e2]
    refine Int.le_trans (sumR_abs _ _) (Int.le_of_eq (sumR_congr fun i _ => ?_))
    rw [Int.natAbs_mul, Int.natCast_mul]
    congr 1
    have := cC_nonneg n b j i
    omega
  have s2 : sumR n (fun k => (eulRow n).getD k 0 * ((chooseZ (((h * b : Nat) : Int) + n - (1 + k)) n * facZ n - ((h * b : Nat) : Int) ^ n).natAbs : Int)) ≤ sumR n fun k => (eulRow n).getD k 0 * sumR n fun i => cC n b k i * ((chooseZ ((h : Int) + n - (1 + i)) n * facZ n - (h : Int) ^ n).natAbs : Int) :=
    sumR_le fun k hk => Int.mul_le_mul_of_nonneg_left (s1 k hk) (eulRow_nn _ _)
  refine Int.le_trans s2 (Int.le_of_eq ?_)
  have s3 : sumR n (fun k => (eulRow n).getD k 0 * sumR n fun i => cC n b k i * ((chooseZ ((h : Int) + n - (1 + i)) n * facZ n - (h : Int) ^ n).natAbs : Int)) = sumR n fun k => sumR n fun i => ((eulRow n).getD k 0 * cC n b k i) * ((chooseZ ((h : Int) + n - (1 + i)) n * facZ n - (h : Int) ^ n).natAbs : Int) := by
    refine sumR_congr fun k _ => ?_
    rw [← sumR_mul]
    exact sumR_congr fun i _ => (Int.mul_assoc _ _ _).symm
  rw [s3, sumR_comm, ← sumR_mul]
  refine sumR_congr fun i hi => ?_
  rw [sumR_mulr, cC_kept h1 hi, Int.mul_assoc]
theorem w_one0 (n : Nat) : chooseZ (((1 : Nat) : Int) + n - (1 + (0 : Nat))) n = 1 := by
  rw [show ((1 : Nat) : Int) + n - (1 + ((0 : Nat) : Int)) = n by push_cast; omega, chooseZ_in (by omega) (by omega), bin_self]; rfl
theorem w_one (n i : Nat) : chooseZ (((1 : Nat) : Int) + n - (1 + ((i + 1 : Nat) : Int))) n = 0 := chooseZ_out (.inr (by push_cast; omega))
theorem dist_one {n : Nat} (h1 : 1 ≤ n) : dist n 1 = 2 * (facZ n - 1) := by
  obtain ⟨m, rfl⟩ : ∃ m, n = m + 1 := ⟨n - 1, by omega⟩
  have hF := facZ_pos (m + 1)
  have hs := eulRow_fac h1
  rw [eulRow_sumR, sumR_front, eulRow_getD (by omega), eul_zero] at hs
  unfold dist farTo
  rw [sumR_front, w_one0, eulRow_getD (by omega), eul_zero]
  have e : sumR m (fun i => (eulRow (m + 1)).getD (i + 1) 0 * ((chooseZ (((1 : Nat) : Int) + ((m + 1 : Nat) : Int) - (1 + ((i + 1 : Nat) : Int))) ((m + 1 : Nat) : Int) * facZ (m + 1) - ((1 : Nat) : Int) ^ (m + 1)).natAbs : Int)) = sumR m fun i => (eulRow (m + 1)).getD (i + 1) 0 := by
    refine sumR_congr fun i _ => ?_
    rw [w_one, Int.zero_mul, show ((1 : Nat) : Int) ^ (m + 1) = 1 from Int.one_pow]
    simp
  rw [e, show ((1 : Nat) : Int) ^ (m + 1) = 1 from Int.one_pow]
  push_cast at hs ⊢
  omega
theorem sumR_lt {n : Nat} {f g : Nat → Int} (h : ∀ i, i < n → f i ≤ g i) {k : Nat} (hk : k < n) (hl : f k < g k) : sumR n f < sumR n g := by
  induction n with
  | zero => omega
  | succ n ih =>
    rw [sumR_succ, sumR_succ]
    by_cases e : k = n
    · subst e
      have := sumR_le (n := k) (f := f) (g := g) fun i hi => h i (by omega)
      omega
    · have := ih (fun i hi => h i (by omega)) (by omega)
      have := h n (by omega)
      omega
theorem dist_strict {n b : Nat} (hn : 2 ≤ n) (hb : 2 ≤ b) : dist n b < (b : Int) ^ n * dist n 1 := by
  have hF := facZ_pos n
  have hw : (1 : Int) ≤ (b : Int) ^ n := Int.pow_pos (by omega)
  have hs := eulRow_fac (n := n) (by omega)
  rw [eulRow_sumR] at hs
  have ht := totI_all (n := n) (h := (b : Int)) (by omega) (by omega)
  have ht : sumR n (fun k => (eulRow n).getD k 0 * chooseZ ((b : Int) + n - (1 + k)) n) = (b : Int) ^ n := ht
  -- the numbers, signed, come to 0
  have hz : sumR n (fun k => (eulRow n).getD k 0 * (chooseZ ((b : Int) + n - (1 + k)) n * facZ n - (b : Int) ^ n)) = 0 := by
    have : sumR n (fun k => (eulRow n).getD k 0 * (chooseZ ((b : Int) + n - (1 + k)) n * facZ n - (b : Int) ^ n)) = sumR n (fun k => (eulRow n).getD k 0 * chooseZ ((b : Int) + n - (1 + k)) n) * facZ n - sumR n (fun k => (eulRow n).getD k 0) * (b : Int) ^ n := by
      rw [← sumR_mulr, ← sumR_mulr, ← sumR_sub]
      refine sumR_congr fun i _ => ?_
      rw [Int.mul_sub, Int.mul_assoc]
    rw [this, ht, hs, Int.mul_comm, Int.sub_self]
  -- the first is not below
  have h0 : (b : Int) ^ n ≤ chooseZ ((b : Int) + n - (1 + (0 : Nat))) n * facZ n := by
    have : sumR n (fun k => (eulRow n).getD k 0 * chooseZ ((b : Int) + n - (1 + k)) n) ≤ sumR n (fun k => (eulRow n).getD k 0 * chooseZ ((b : Int) + n - (1 + (0 : Nat))) n) :=
      sumR_le fun k _ => Int.mul_le_mul_of_nonneg_left (chooseZ_mono (by omega)) (eulRow_nn _ _)
    rw [sumR_mulr, ht, hs, Int.mul_comm] at this
    exact this
  have hc1 : 1 ≤ chooseZ ((b : Int) + n - (1 + (1 : Nat))) n := by
    have h1 := chooseZ_zero_iff (n := n) (h := b) (r := 1 + (1 : Nat)) (by omega) (by omega) (by omega)
    have h2 := chooseZ_nonneg ((b : Int) + n - (1 + (1 : Nat))) n
    have h3 : chooseZ ((b : Int) + n - (1 + (1 : Nat))) n ≠ 0 := fun e => absurd (h1.mp e) (by omega)
    omega
  have ha1 : 1 ≤ (eulRow n).getD 1 0 := by
    rw [eulRow_getD (by omega)]
    have : 1 ≤ eul n 1 := by
      obtain ⟨m, rfl⟩ : ∃ m, n = m + 2 := ⟨n - 2, by omega⟩
      rw [show m + 2 = (m + 1) + 1 from rfl, show (1 : Nat) = 0 + 1 from rfl, eul_ss, eul_zero]
      omega
    omega
  -- each term: twice the bounds
  have key : dist n b < sumR n (fun k => (eulRow n).getD k 0 * (chooseZ ((b : Int) + n - (1 + k)) n * facZ n - (b : Int) ^ n) + (eulRow n).getD k 0 * (2 * if k = 0 then 0 else (b : Int) ^ n)) := by
    refine sumR_lt (k := 1) (fun k hk => ?_) (by omega) ?_
    · rw [← Int.mul_add]
      refine Int.mul_le_mul_of_nonneg_left ?_ (eulRow_nn _ _)
      have hcn := chooseZ_nonneg ((b : Int) + n - (1 + k)) n
      have hcf := Int.mul_nonneg hcn (show 0 ≤ facZ n by omega)
      by_cases e : k = 0
      · subst e; rw [if_pos rfl]; omega
      · rw [if_neg e]; omega
    · rw [← Int.mul_add, if_neg (by decide)]
      refine Int.mul_lt_mul_of_pos_left ?_ (by omega)
      have hcf := Int.mul_le_mul hc1 hF (by omega) (by omega)
      omega
  rw [sumR_add, hz, Int.zero_add] at key
  have e2 : sumR n (fun k => (eulRow n).getD k 0 * (2 * if k = 0 then 0 else (b : Int) ^ n)) = (b : Int) ^ n * dist n 1 := by
    obtain ⟨m, rfl⟩ : ∃ m, n = m + 1 := ⟨n - 1, by omega⟩
    rw [sumR_front, eulRow_getD (by omega), eul_zero] at hs
    rw [sumR_front, if_pos rfl, dist_one (by omega)]
    have : sumR m (fun i => (eulRow (m + 1)).getD (i + 1) 0 * (2 * if i + 1 = 0 then 0 else (b : Int) ^ (m + 1))) = sumR m (fun i => (eulRow (m + 1)).getD (i + 1) 0) * (2 * (b : Int) ^ (m + 1)) := by
      rw [← sumR_mulr]
      exact sumR_congr fun i _ => by rw [if_neg (by omega)]
    rw [this, show sumR m (fun i => (eulRow (m + 1)).getD (i + 1) 0) = facZ (m + 1) - 1 by push_cast at hs; omega]
    rw [Int.mul_zero, Int.mul_zero, Int.zero_add, Int.mul_comm, Int.mul_assoc, Int.mul_left_comm]
  rwa [e2] at key
/-! fractions held against one another -/
abbrev fT (a b : Int) : Int := a / ((Int.gcd a b : Nat) : Int)
abbrev fB (a b : Int) : Int := b / ((Int.gcd a b : Nat) : Int)
theorem fT_mul (a b : Int) : fT a b * ((Int.gcd a b : Nat) : Int) = a := Int.ediv_mul_cancel (Int.gcd_dvd_left ..)
theorem fB_mul (a b : Int) : fB a b * ((Int.gcd a b : Nat) : Int) = b := Int.ediv_mul_cancel (Int.gcd_dvd_right ..)
theorem mul_swap4 (x y g k : Int) : (x * y) * (g * k) = (x * g) * (y * k) := by rw [Int.mul_assoc, Int.mul_left_comm y, ← Int.mul_assoc x]
theorem fr_cross {a b c d : Int} : (fT a b * fB c d) * (((Int.gcd a b : Nat) : Int) * ((Int.gcd c d : Nat) : Int)) = a * d := by rw [mul_swap4, fT_mul, fB_mul]
theorem fr_cross' {a b c d : Int} : (fT c d * fB a b) * (((Int.gcd a b : Nat) : Int) * ((Int.gcd c d : Nat) : Int)) = c * b := by
  rw [Int.mul_comm ((Int.gcd a b : Nat) : Int)]; exact fr_cross
theorem fr_le {a b c d : Int} (hb : 1 ≤ b) (hd : 1 ≤ d) (h : a * d ≤ c * b) : fT a b * fB c d ≤ fT c d * fB a b := by
  have g1 := gcd_pos' (a := a) hb
  have g2 := gcd_pos' (a := c) hd
  have hg : 0 < ((Int.gcd a b : Nat) : Int) * ((Int.gcd c d : Nat) : Int) := Int.mul_pos (by omega) (by omega)
  rw [← fr_cross (a := a) (b := b) (c := c) (d := d), ← fr_cross' (a := a) (b := b) (c := c) (d := d)] at h
  exact Int.le_of_mul_le_mul_right h hg
theorem fr_lt {a b c d : Int} (hb : 1 ≤ b) (hd : 1 ≤ d) (h : a * d < c * b) : fT a b * fB c d < fT c d * fB a b := by
  have g1 := gcd_pos' (a := a) hb
  have g2 := gcd_pos' (a := c) hd
  have hg : 0 < ((Int.gcd a b : Nat) : Int) * ((Int.gcd c d : Nat) : Int) := Int.mul_pos (by omega) (by omega)
  rw [← fr_cross (a := a) (b := b) (c := c) (d := d), ← fr_cross' (a := a) (b := b) (c := c) (d := d)] at h
  exact Int.lt_of_mul_lt_mul_right h (by omega)
/-- how far, as a fraction -/
def farB (n h : Nat) : Int := 2 * (h : Int) ^ n * facZ n
theorem farB_pos {n h : Nat} (hh : 1 ≤ h) : 1 ≤ farB n h := by
  have h1 : (0 : Int) < (h : Int) ^ n := Int.pow_pos (by omega)
  have h2 := facZ_pos n
  have := Int.mul_pos (show 0 < 2 * (h : Int) ^ n by omega) (show 0 < facZ n by omega)
  unfold farB; omega
theorem far_le {n h b : Nat} (hn : 1 ≤ n) (hh : 1 ≤ h) (hb : 1 ≤ b) : fT (dist n (h * b)) (farB n (h * b)) * fB (dist n h) (farB n h) ≤ fT (dist n h) (farB n h) * fB (dist n (h * b)) (farB n (h * b)) := by
  refine fr_le (farB_pos (Nat.mul_pos (by omega) (by omega))) (farB_pos hh) ?_
  have h1 := Int.mul_le_mul_of_nonneg_right (dist_step (n := n) (h := h) (b := b) hn) (show 0 ≤ farB n h from by have := farB_pos (n := n) hh; omega)
  refine Int.le_trans h1 (Int.le_of_eq ?_)
  unfold farB
  rw [show ((h * b : Nat) : Int) = (h : Int) * b by push_cast; rfl, Int.mul_pow]
  generalize dist n h = D
  generalize facZ n = F
  generalize (b : Int) ^ n = B
  generalize (h : Int) ^ n = X
  simp only [Int.mul_assoc, Int.mul_left_comm, Int.mul_comm]
theorem far_ind {n b : Nat} (hn : 1 ≤ n) (hb : 1 ≤ b) : ∀ k, fT (dist n (b ^ (k + 1))) (farB n (b ^ (k + 1))) * fB (dist n (b ^ k)) (farB n (b ^ k)) ≤ fT (dist n (b ^ k)) (farB n (b ^ k)) * fB (dist n (b ^ (k + 1))) (farB n (b ^ (k + 1))) := fun k => by
  rw [Nat.pow_succ]; exact far_le hn (Nat.pow_pos hb) hb
theorem dist_pow {n b : Nat} (hn : 1 ≤ n) : ∀ k, dist n (b ^ (k + 1)) ≤ ((b : Int) ^ n) ^ k * dist n b
  | 0 => by simp
  | k + 1 => by
    rw [Nat.pow_succ]
    refine Int.le_trans (dist_step hn) ?_
    refine Int.le_trans (Int.mul_le_mul_of_nonneg_left (dist_pow hn k) (Int.pow_nonneg (by omega))) (Int.le_of_eq ?_)
    rw [Int.pow_succ, ← Int.mul_assoc, Int.mul_comm ((b : Int) ^ n)]
theorem far_last {n b k : Nat} (hn : 2 ≤ n) (hb : 2 ≤ b) : fT (dist n (b ^ (k + 1))) (farB n (b ^ (k + 1))) * fB (dist n (b ^ 0)) (farB n (b ^ 0)) < fT (dist n (b ^ 0)) (farB n (b ^ 0)) * fB (dist n (b ^ (k + 1))) (farB n (b ^ (k + 1))) := by
  refine fr_lt (farB_pos (Nat.pow_pos (by omega))) (farB_pos (Nat.pow_pos (by omega))) ?_
  rw [Nat.pow_zero]
  have hB : (0 : Int) < (b : Int) ^ n := Int.pow_pos (by omega)
  have hBk : (0 : Int) < ((b : Int) ^ n) ^ k := Int.pow_pos hB
  have h1 : dist n (b ^ (k + 1)) < ((b : Int) ^ n) ^ k * ((b : Int) ^ n * dist n 1) := Int.lt_of_le_of_lt (dist_pow (by omega) k) (Int.mul_lt_mul_of_pos_left (dist_strict hn hb) hBk)
  have hf : 0 < farB n 1 := by have := farB_pos (n := n) (h := 1) (by omega); omega
  refine Int.lt_of_lt_of_le (Int.mul_lt_mul_of_pos_right h1 hf) (Int.le_of_eq ?_)
  unfold farB
  rw [show (((b ^ (k + 1) : Nat) : Int)) ^ n = ((b : Int) ^ n) ^ k * (b : Int) ^ n by push_cast; rw [← Int.pow_mul, Nat.mul_comm, Int.pow_mul, Int.pow_succ], show ((1 : Nat) : Int) ^ n = 1 from Int.one_pow]
  generalize dist n 1 = D
  generalize facZ n = F
  generalize (b : Int) ^ n = B
  generalize B ^ k = X
  rw [Int.mul_one]
  simp only [Int.mul_assoc, Int.mul_left_comm, Int.mul_comm]
theorem far_zero {n : Nat} (hn : 1 ≤ n) : fT (dist n 1) (farB n 1) * facZ n = fB (dist n 1) (farB n 1) * (facZ n - 1) := by
  have h := frac_eq (dist n 1) (farB n 1)
  have hF := facZ_pos n
  have h1 : fT (dist n 1) (farB n 1) * farB n 1 = dist n 1 * fB (dist n 1) (farB n 1) := h
  have e1 : farB n 1 = 2 * facZ n := by unfold farB; rw [show ((1 : Nat) : Int) ^ n = 1 from Int.one_pow]; omega
  rw [dist_one hn] at *
  generalize fT (2 * (facZ n - 1)) (farB n 1) = x at *
  generalize fB (2 * (facZ n - 1)) (farB n 1) = y at *
  rw [e1] at h1
  have h2 : 2 * (x * facZ n) = 2 * (y * (facZ n - 1)) := by
    rw [Int.mul_left_comm, h1, Int.mul_assoc, Int.mul_comm (facZ n - 1)]
  omega
theorem Bd.nat {B : Nat} {x : Int} (h : Bd B x) : Bd B (x.natAbs : Int) := ⟨by rw [Int.natAbs_natCast]; exact h.lt⟩
theorem Bd.sub' {B : Nat} {x y : Int} (h : Bd B x) (h' : Bd B y) : Bd (B + 1) (x - y) := by
  rw [Int.sub_eq_add_neg]; exact h.add ⟨by rw [Int.natAbs_neg]; exact h'.lt⟩
theorem facZ_bd : ∀ {n : Nat}, n ≤ 20 → Bd 1000 (facZ n) := by
  have key : ∀ n : Nat, n ≤ 20 → Bd (40 * n + 1) (facZ n) := by
    intro n
    induction n with
    | zero => intro _; exact ⟨by decide⟩
    | succ n ih =>
      intro h
      exact ((ih (by omega)).mul (show Bd 40 ((n : Int) + 1) from ⟨by omega⟩)).mono (by omega)
  exact fun {n} h => (key n h).mono (by omega)
theorem dist_bd {n h : Nat} (hn : n ≤ 20) (hh : h < 2 ^ 120) : Bd 20000 (dist n h) := by
  have hw : Bd 2401 ((h : Int) ^ n) := (Bd.pow (B := 120) ⟨by omega⟩ n).mono (by omega)
  have key : ∀ i, i ≤ n → Bd (10000 + i) (farTo n h (facZ n) ((h : Int) ^ n) i) := by
    intro i
    induction i with
    | zero => intro _; exact ⟨Nat.pow_pos (by decide)⟩
    | succ i ih =>
      intro hi
      rw [farTo_succ]
      have hc : Bd 7261 (chooseZ ((h : Int) + n - (1 + i)) n) := Bd.choose (B := 121) (by omega) (by omega) (by omega)
      have ht := ((eulRow_bd (n := n) (by omega) i).mul (Bd.nat ((hc.mul (facZ_bd hn)).sub' (hw.mono (by omega))))).mono (b := 10000 + i) (by omega)
      exact (ih (by omega)).add ht
  exact (key n (Nat.le_refl _)).mono (by omega)
theorem farB_bd {n h : Nat} (hn : n ≤ 20) (hh : h < 2 ^ 120) : Bd 4000 (farB n h) := by
  have hw : Bd 2401 ((h : Int) ^ n) := (Bd.pow (B := 120) ⟨by omega⟩ n).mono (by omega)
  exact (((show Bd 2 2 from ⟨by decide⟩).mul hw).mul (facZ_bd hn)).mono (by omega)
structure FarOk (t u : Int) : Prop where
  t0 : 0 ≤ t
  u1 : 1 ≤ u
  tb : Bd 20000 t
  ub : Bd 4000 u
theorem far_ok {n h : Nat} (hn : n ≤ 20) (h1 : 1 ≤ h) (hh : h < 2 ^ 120) : FarOk (fT (dist n h) (farB n h)) (fB (dist n h) (farB n h)) :=
  ⟨Int.ediv_nonneg (dist_nn _ _) (by omega), frac_pos (farB_pos h1), (dist_bd hn hh).div (dist_nn _ _) (gcd_pos' (farB_pos h1)), (farB_bd hn hh).div (by have := farB_pos (n := n) h1; omega) (gcd_pos' (farB_pos h1))⟩
def farL (n b m : Nat) : List (Int × Int) := (List.range m).map fun i => (fT (dist n (b ^ i)) (farB n (b ^ i)), fB (dist n (b ^ i)) (farB n (b ^ i)))
theorem farL_at {n b m i : Nat} {d : Int × Int} (h : i < m) : (farL n b m).getD i d = (fT (dist n (b ^ i)) (farB n (b ^ i)), fB (dist n (b ^ i)) (farB n (b ^ i))) := by
  unfold farL
  rw [List.getD_eq_getElem?_getD, List.getElem?_map, List.getElem?_range h]; rfl
theorem far_prev {n b i : Nat} (hn : 1 ≤ n) (hb : 1 ≤ b) (hi : 0 < i) : fT (dist n (b ^ i)) (farB n (b ^ i)) * fB (dist n (b ^ (i - 1))) (farB n (b ^ (i - 1))) ≤ fT (dist n (b ^ (i - 1))) (farB n (b ^ (i - 1))) * fB (dist n (b ^ i)) (farB n (b ^ i)) := by
  obtain ⟨j, rfl⟩ : ∃ j, i = j + 1 := ⟨i - 1, by omega⟩
  exact far_ind hn hb j
theorem far_end {n b i : Nat} (hn : 2 ≤ n) (hb : 2 ≤ b) (hi : 0 < i) : fT (dist n (b ^ i)) (farB n (b ^ i)) * fB (dist n (b ^ 0)) (farB n (b ^ 0)) < fT (dist n (b ^ 0)) (farB n (b ^ 0)) * fB (dist n (b ^ i)) (farB n (b ^ i)) := by
  obtain ⟨j, rfl⟩ : ∃ j, i = j + 1 := ⟨i - 1, by omega⟩
  exact far_last hn hb
theorem sq_one (b : Nat) : (Int.toNat ((b : Int) * (b : Int))) ^ (Int.toNat 1) = b ^ 2 := by
  show (b * b) ^ 1 = b ^ 2
  rw [Nat.pow_one, Nat.pow_two]
theorem sq_two (b : Nat) : (Int.toNat ((b : Int) * (b : Int))) ^ (Int.toNat 2) = b ^ 4 := by
  show (b * b) ^ 2 = b ^ 4
  rw [← Nat.pow_two, ← Nat.pow_mul]
end Rc
namespace Rc
open PySem PySem.Spec PyProof.Rows L2
/-! fractions of numbers above and below 0 -/
theorem cdn {b : Nat} {i j : Int} (h0 : j ≠ 0) (h : Bd b j) (hs : b ≤ 8000) : CDivNW i j := ⟨h0, by
  have h1 : j.natAbs ≠ 0 := by omega
  exact Nat.lt_of_lt_of_le ((Nat.log2_lt h1).mpr h.lt) (by omega)⟩
theorem gcd_fmod {a b : Int} : Int.gcd b (Int.fmod a b) = Int.gcd a b := by
  rw [Int.fmod_def]
  apply Nat.dvd_antisymm
  · refine Int.dvd_gcd ?_ (Int.gcd_dvd_left ..)
    have h1 : ((Int.gcd b (a - b * a.fdiv b) : Nat) : Int) ∣ b := Int.gcd_dvd_left ..
    have h2 : ((Int.gcd b (a - b * a.fdiv b) : Nat) : Int) ∣ a - b * a.fdiv b := Int.gcd_dvd_right ..
    have h3 := Int.dvd_add h2 (show _ ∣ b * a.fdiv b from Int.dvd_mul_of_dvd_left h1)
    rwa [Int.sub_add_cancel] at h3
  · refine Int.dvd_gcd (Int.gcd_dvd_right ..) ?_
    exact Int.dvd_sub (Int.gcd_dvd_left ..) (Int.dvd_mul_of_dvd_left (Int.gcd_dvd_right ..))
theorem fmod_less {a b : Int} (h : b ≠ 0) : (Int.fmod a b).natAbs < b.natAbs := by
  rcases Int.lt_or_gt_of_ne h with l | l
  · have h1 : Int.fmod a b = a % b + if 0 ≤ b ∨ b ∣ a then 0 else b := Int.fmod_eq_emod
    have e1 := Int.emod_nonneg a h
    have e2 := Int.emod_lt_of_neg a l
    rw [h1]; split <;> omega
  · rw [Int.fmod_eq_emod_of_nonneg a (by omega)]
    have e1 := Int.emod_nonneg a h
    have e2 := Int.emod_lt_of_pos a l
    omega
theorem gcd_z {a : Int} : ((a.natAbs : Nat) : Int) = ((Int.gcd a 0 : Nat) : Int) := by rw [Int.gcd_zero_right]
def partN (a b : Int) : Int := if b < 0 then - ((Int.gcd a b : Nat) : Int) else ((Int.gcd a b : Nat) : Int)
structure FrN (x y a b : Int) : Prop where
  y1 : 1 ≤ y
  eq : x * b = a * y
  cop : Int.gcd x y = 1
theorem gcd_ne {a b : Int} (h : b ≠ 0) : 0 < Int.gcd a b := Int.gcd_pos_of_ne_zero_right _ h
theorem frn_of {a b : Int} (h : b ≠ 0) : FrN (a.fdiv (partN a b)) (b.fdiv (partN a b)) a b := by
  have hg := gcd_ne (a := a) h
  obtain ⟨u, hu⟩ : ((Int.gcd a b : Nat) : Int) ∣ a := Int.gcd_dvd_left ..
  obtain ⟨v, hv⟩ : ((Int.gcd a b : Nat) : Int) ∣ b := Int.gcd_dvd_right ..
  have hc : Int.gcd u v = 1 := by
    have h1 : Int.gcd (((Int.gcd a b : Nat) : Int) * u) (((Int.gcd a b : Nat) : Int) * v) = Int.gcd a b * Int.gcd u v := by rw [Int.gcd_mul_left, Int.natAbs_natCast]
    rw [← hu, ← hv] at h1
    have h2 : Int.gcd a b * 1 = Int.gcd a b * Int.gcd u v := by rw [Nat.mul_one]; exact h1
    exact (Nat.eq_of_mul_eq_mul_left hg h2).symm
  unfold partN
  generalize hG : ((Int.gcd a b : Nat) : Int) = g at *
  have hgp : 0 < g := by omega
  by_cases hb : b < 0
  · rw [if_pos hb]
    have e1 : a.fdiv (-g) = -u := by rw [hu, show g * u = (-g) * (-u) by rw [Int.neg_mul_neg]]; exact Int.mul_fdiv_cancel_left _ (by omega)
    have e2 : b.fdiv (-g) = -v := by rw [hv, show g * v = (-g) * (-v) by rw [Int.neg_mul_neg]]; exact Int.mul_fdiv_cancel_left _ (by omega)
    rw [e1, e2]
    have hvn : v < 0 := by
      rcases Int.lt_trichotomy v 0 with l | l | l
      · exact l
      · rw [l, Int.mul_zero] at hv; omega
      · have := Int.mul_pos hgp l; omega
    refine ⟨by omega, ?_, by rw [Int.gcd_neg, Int.neg_gcd]; exact hc⟩
    conv => lhs; rw [hv]
    conv => rhs; rw [hu]
    rw [Int.neg_mul, Int.mul_neg, Int.mul_left_comm, Int.mul_assoc]
  · rw [if_neg hb]
    have e1 : a.fdiv g = u := by rw [hu]; exact Int.mul_fdiv_cancel_left _ (by omega)
    have e2 : b.fdiv g = v := by rw [hv]; exact Int.mul_fdiv_cancel_left _ (by omega)
    rw [e1, e2]
    have hvp : 0 < v := by
      rcases Int.lt_trichotomy v 0 with l | l | l
      · have := Int.mul_pos hgp (show 0 < -v by omega); rw [Int.mul_neg] at this; omega
      · rw [l, Int.mul_zero] at hv; omega
      · exact l
    refine ⟨by omega, ?_, hc⟩
    conv => lhs; rw [hv]
    conv => rhs; rw [hu]
    rw [Int.mul_left_comm, Int.mul_assoc]
theorem bd_fdiv {a b : Int} {B : Nat} (h : b ≠ 0) (ha : Bd B a) (hd : ((Int.gcd a b : Nat) : Int) ∣ a) : Bd B (a.fdiv (partN a b)) := by
  have hg := gcd_ne (a := a) h
  obtain ⟨u, hu⟩ := hd
  have hl : u.natAbs ≤ a.natAbs := by
    rw [hu, Int.natAbs_mul, Int.natAbs_natCast]
    exact Nat.le_mul_of_pos_left _ hg
  unfold partN
  refine ⟨Nat.lt_of_le_of_lt ?_ ha.lt⟩
  generalize hG : ((Int.gcd a b : Nat) : Int) = g at *
  have hgp : 0 < g := by omega
  by_cases hb : b < 0
  · rw [if_pos hb, show a.fdiv (-g) = -u by rw [hu, show g * u = (-g) * (-u) by rw [Int.neg_mul_neg]]; exact Int.mul_fdiv_cancel_left _ (by omega), Int.natAbs_neg]; exact hl
  · rw [if_neg hb, show a.fdiv g = u by rw [hu]; exact Int.mul_fdiv_cancel_left _ (by omega)]; exact hl
theorem bd_fdiv2 {a b : Int} {B : Nat} (h : b ≠ 0) (hb : Bd B b) : Bd B (b.fdiv (partN a b)) := by
  have hg := gcd_ne (a := a) h
  obtain ⟨u, hu⟩ : ((Int.gcd a b : Nat) : Int) ∣ b := Int.gcd_dvd_right ..
  have hl : u.natAbs ≤ b.natAbs := by
    conv => rhs; rw [hu, Int.natAbs_mul, Int.natAbs_natCast]
    exact Nat.le_mul_of_pos_left _ hg
  unfold partN
  refine ⟨Nat.lt_of_le_of_lt ?_ hb.lt⟩
  generalize hG : ((Int.gcd a b : Nat) : Int) = g at *
  have hgp : 0 < g := by omega
  by_cases hn : b < 0
  · rw [if_pos hn, show b.fdiv (-g) = -u by rw [hu, show g * u = (-g) * (-u) by rw [Int.neg_mul_neg]]; exact Int.mul_fdiv_cancel_left _ (by omega), Int.natAbs_neg]; exact hl
  · rw [if_neg hn, show b.fdiv g = u by rw [hu]; exact Int.mul_fdiv_cancel_left _ (by omega)]; exact hl
def shr (w x : Int) : Int × Int := (x.fdiv (partN x w), w.fdiv (partN x w))
def shrT (w : Int) (T : List (List Int)) : List (List (Int × Int)) := T.map fun row => row.map (shr w)
theorem shr_row {w : Int} {T : List (List Int)} {C : List (List (Int × Int))} {i : Nat} {row : List Int} {c : List (Int × Int)} (hC : C = shrT w T) (h1 : T[i]? = some row) (h2 : C[i]? = some c) : c = row.map (shr w) := by
  rw [hC, shrT, List.getElem?_map, h1] at h2; exact (Option.some.inj h2).symm
theorem shr_at {w : Int} {row : List Int} {c : List (Int × Int)} {j : Nat} {x : Int} {t : RO (Int × Int)} {z : List (RO (Int × Int))} (hc : z.map (·.2) = row.map (shr w)) (h1 : row[j]? = some x) (h2 : z[j]? = some t) : t.2 = shr w x := by
  have := congrArg (fun l : List (Int × Int) => l[j]?) hc
  simp only [List.getElem?_map, h1, h2] at this
  exact Option.some.inj this
theorem shr_frn {w x : Int} (h : w ≠ 0) : FrN (shr w x).1 (shr w x).2 x w := frn_of h
theorem shr_bd {w x : Int} (h : w ≠ 0) (hw : Bd 900 w) (hx : Bd 900 x) : Bd 900 (shr w x).1 ∧ Bd 900 (shr w x).2 := ⟨bd_fdiv h hx (Int.gcd_dvd_left ..), bd_fdiv2 h hw⟩
end Rc
namespace Rc
open PySem PySem.Spec PyProof.Rows L2 Evl

local macro_rules | `(tactic| walk_at "sca") => `(tactic| first | assumption | exact Sca.ints _ | exact Sca.bls _ | rfl | decide | (simp_all; done))
local macro_rules | `(tactic| walk_at "side") => `(tactic| first | omega | assumption | (simp only [List.length_map, List.length_range, List.length_append, List.length_cons, List.length_nil, cutL_length]; omega) | (simp only [List.length_map, List.length_range, List.length_append, List.length_cons, List.length_nil] at *; omega) | (simp at *; omega))
local macro_rules | `(tactic| walk_at "size") => `(tactic| first | (refine Evl.sz_lt ?_; simp only [List.length_map, List.length_range, List.length_append, List.length_cons, List.length_nil, cutL_length, List.length_set, List.length_replicate, List.length_reverse]; omega) | (refine Evl.sz_of ?_; simp only [List.length_map, List.length_range, List.length_append, List.length_cons, List.length_nil, cutL_length, List.length_set, List.length_replicate, List.length_reverse]; omega) | (refine Evl.sz_lt ?_; simp; omega) | (refine Evl.sz_of ?_; simp; omega))
local macro_rules | `(tactic| walk_at "tsize") => `(tactic| (refine Evl.sz_lt ?_; simp only [List.length_map, List.length_append, List.length_cons, List.length_nil]; first | omega | (rw [snd_len (by assumption)]; omega)))
local macro_rules | `(tactic| walk_at "csize") => `(tactic| first | (refine Evl.sz_lt ?_; simp only [List.length_map, List.length_take, List.length_range]; omega) | (refine Evl.sz_lt ?_; simp only [List.length_map]; refine Nat.lt_of_le_of_lt (List.length_filter_le _ _) ?_; simp only [List.length_take, List.length_range]; omega))
local macro_rules | `(tactic| walk_at "inv") => `(tactic| first | omega | assumption | rfl | (simp only [List.length_append, List.length_cons, List.length_nil, List.length_set]; omega) | (simp; omega) | simp_all)
local macro_rules | `(tactic| walk_at "post") => `(tactic| first | rfl | assumption | omega | (simp_all; done) | (simp_all; omega))
local macro_rules | `(tactic| walk_at "mul") => `(tactic| first | exact .inl (by omega) | exact .inr (by omega))
local macro_rules | `(tactic| walk_at "div") => `(tactic| exact ⟨by omega, by omega⟩)
local macro_rules | `(tactic| walk_at "widediv") => `(tactic| first | exact ⟨by omega, wl_of (by omega) (by omega)⟩)
local macro_rules | `(tactic| walk_at "rgok") => `(tactic| exact ⟨by omega, by omega, by omega, by omega, by omega⟩)
local macro_rules | `(tactic| walk_at "rgc") => `(tactic| omega)
local macro_rules | `(tactic| walk_at "comp") => `(tactic| first | (simp_all; done) | (simp_all; omega) | grind)
def topS (i : Nat) : Stmt := PySem.Challenge.pw_riftcarry_k65_fractions_and_shares.main.body.getD i (.Pass ⟨0, 0, 0, 0⟩)
abbrev s_law_big : Stmt := topS 5
abbrev s_law_number : Stmt := topS 9
abbrev s_law_table : Stmt := topS 11
abbrev s_law_whole : Stmt := topS 6
abbrev s_law_common : Stmt := topS 7
abbrev s_law_is : Stmt := topS 8
abbrev s_greatest : Stmt := topS 1
abbrev s_fraction : Stmt := topS 2
abbrev s_shares : Stmt := topS 3
abbrev s_law_shared : Stmt := topS 10
abbrev s_law : Stmt := topS 12
structure Txt (K : PySem.W.Frag) (mg : Str → Option Value) where
  f_law_big : Addr
  fd_law_big : FuncData
  F_law_big : Fun K "_law_big" "_law_big" s_law_big f_law_big fd_law_big
  g_law_big : mg "_law_big" = some (.ref f_law_big)
  b_law_big : Binds K fd_law_big ["_law_script", "_law_k"] []
  f_law_number : Addr
  fd_law_number : FuncData
  F_law_number : Fun K "_law_number" "_law_number" s_law_number f_law_number fd_law_number
  g_law_number : mg "_law_number" = some (.ref f_law_number)
  b_law_number : Binds K fd_law_number ["_law_cell"] []
  f_law_table : Addr
  fd_law_table : FuncData
  F_law_table : Fun K "_law_table" "_law_table" s_law_table f_law_table fd_law_table
  g_law_table : mg "_law_table" = some (.ref f_law_table)
  b_law_table : Binds K fd_law_table ["_law_size", "_law_cell"] []
  f_law_whole : Addr
  fd_law_whole : FuncData
  F_law_whole : Fun K "_law_whole" "_law_whole" s_law_whole f_law_whole fd_law_whole
  g_law_whole : mg "_law_whole" = some (.ref f_law_whole)
  b_law_whole : Binds K fd_law_whole ["_law_found"] []
  f_law_common : Addr
  fd_law_common : FuncData
  F_law_common : Fun K "_law_common" "_law_common" s_law_common f_law_common fd_law_common
  g_law_common : mg "_law_common" = some (.ref f_law_common)
  b_law_common : Binds K fd_law_common ["_law_one", "_law_other"] []
  f_law_is : Addr
  fd_law_is : FuncData
  F_law_is : Fun K "_law_is" "_law_is" s_law_is f_law_is fd_law_is
  g_law_is : mg "_law_is" = some (.ref f_law_is)
  b_law_is : Binds K fd_law_is ["_law_found", "_law_top", "_law_bottom"] []
  f_greatest : Addr
  fd_greatest : FuncData
  F_greatest : Fun K "greatest" "greatest" s_greatest f_greatest fd_greatest
  g_greatest : mg "greatest" = some (.ref f_greatest)
  b_greatest : Binds K fd_greatest ["one", "other"] []
  f_fraction : Addr
  fd_fraction : FuncData
  F_fraction : Fun K "fraction" "fraction" s_fraction f_fraction fd_fraction
  g_fraction : mg "fraction" = some (.ref f_fraction)
  b_fraction : Binds K fd_fraction ["top", "bottom"] []
  f_shares : Addr
  fd_shares : FuncData
  F_shares : Fun K "shares" "shares" s_shares f_shares fd_shares
  g_shares : mg "shares" = some (.ref f_shares)
  b_shares : Binds K fd_shares ["table", "whole"] []
  f_law_shared : Addr
  fd_law_shared : FuncData
  F_law_shared : Fun K "_law_shared" "_law_shared" s_law_shared f_law_shared fd_law_shared
  g_law_shared : mg "_law_shared" = some (.ref f_law_shared)
  b_law_shared : Binds K fd_law_shared ["_law_table_here", "_law_whole_here"] []
  f_law : Addr
  fd_law : FuncData
  F_law : Fun K "law" "law" s_law f_law fd_law
  g_law : mg "law" = some (.ref f_law)
  b_law : Binds K fd_law ["_law_script"] []
  m_abs : mg "abs" = none
  m_bool : mg "bool" = none
  m_int : mg "int" = none
  m_isinstance : mg "isinstance" = none
  m_len : mg "len" = none
  m_list : mg "list" = none
  m_min : mg "min" = none
  m_range : mg "range" = none
  m_tuple : mg "tuple" = none
  m_zip : mg "zip" = none
section
variable {P : Program} {w : World} {K : PySem.W.Frag} {mg : Str → Option Value} {base : Heap}
def sp_law_big (K : PySem.W.Frag) : Sp := fun vs H Q _ => ∃ (a_script : Addr) (script : List Int) (k : Int), vs = [V.ref a_script, V.int k] ∧ SqL K H a_script (List.map V.int script) ∧ (0 ≤ k ∧ k < 1000) ∧ (∀ (H1 : Hp) (res : Int), (True) → Same H H1 → Q (V.int res) H1)
theorem sc_law_big : FnScope ["_law_script", "_law_k", "_law_cell", "_law_number_here", "_law_j", "_law_step"] ["_law_script", "_law_k"] (defScope s_law_big) := ⟨rfl, rfl, rfl, by decide +kernel, rfl, by decide +kernel, by decide +kernel⟩
theorem ok_law_big (T : Txt K mg) : FnOk P w K mg base CX0 1 T.f_law_big T.fd_law_big ["_law_script", "_law_k"] (sp_law_big K) := by
  refine T.F_law_big.ok sc_law_big (fun vs H Q E h => ?_) (fun cdv A outer s H vs Q E hr h => ?_)
  · obtain ⟨a_script, script, k, rfl, _⟩ := h; rfl
  · obtain ⟨a_script, script, k, rfl, h_script, pre0, q⟩ := h
    have fr := Fr.nil H
    refine ⟨_, (pss_cons (ps_set (i := 2) sc_law_big.nd rfl (Or.inl rfl) (pe_op op_add pe_int (pv 1)))
          (pss_cut (ps_if (pt_cmpR op_ltS (pv 1) (pe_callB (show CallR _ _ (rLenL K) from call_lenL) (by rfl) T.m_len (by decide +kernel) (pa_cons (pv 0) pa_nil)) (nomark _)) (pss_one (ps_set (i := 2) sc_law_big.nd rfl (Or.inl rfl) (pe_ix (show IxR _ (rIxL K) from ix_list) (pv 0) (pv 1) (fun _ _ => rfl)))) pss_nil)
          (pss_cons (ps_if (PW.pt (pw_or (pt_cmpR op_ltS (pv 2) pe_int (nomark _)) (pw_or1 (pt_cmpR op_geS (pv 2) (pe_op op_powL pe_int pe_int) (nomark _))))) (pss_one (ps_ret (pv 2))) pss_nil)
          (pss_cons (ps_set (i := 3) sc_law_big.nd rfl (Or.inl rfl) pe_int)
          (pss_cons (ps_for PassesOwn.never rfl (pi_range1 (by rfl) T.m_range (pa_cons pe_int pa_nil)) (pg_name (i := 4) sc_law_big.nd rfl (Or.inl rfl)) (pss_cons (ps_set (i := 5) sc_law_big.nd rfl (Or.inl rfl) (pe_op op_mod (pe_op op_mul (pe_op op_mod (pe_op op_add (pe_op op_mul (pv 2) pe_int) (pe_op op_mul (pe_op op_mul (pe_op op_add (pv 4) pe_int) (pe_op op_add (pe_op op_add (pv 1) (pv 4)) pe_int)) pe_int)) pe_int) pe_int) pe_int))
          (pss_one (ps_set (i := 3) sc_law_big.nd rfl (Or.inl rfl) (pe_op op_add (pe_op op_mulW (pv 3) pe_int) (pe_op op_mod (pe_op op_mul (pv 5) (pe_op op_add (pv 4) pe_int)) pe_int))))))
          (pss_one (ps_ret (pv 3)))))))), ?_⟩
    refine ⟨_, rfl, _, _, rfl, rfl, ?_⟩
    refine ⟨fun σ H1 => ∃ (cell_1 : Int), σ = [some (V.ref a_script), some (V.int k), some (V.int cell_1), none, none, none] ∧ Fr H H1 [], ?_, ?_⟩
    · refine ⟨_, rfl, _, rfl, _, _, _, rfl, (fr.same.seq h_script), (List.length_map _), _, _, rfl, rfl, ?_, ?_⟩
      · intro h2
        refine ⟨_, rfl, ?_⟩
        refine iteT ?_
        refine ⟨_, rfl, _, rfl, _, _, _, _, rfl, rfl, (fr.same.seq h_script), (atD 0 ?_ ?_), ?_⟩
        · walk_at "side"
        · walk_at "side"
        refine ⟨(List.getD script (Int.toNat k) 0), rfl, fr⟩
      · intro h2
        refine ⟨_, rfl, ?_⟩
        refine iteF ?_
        refine ⟨(7 + k), rfl, fr⟩
    rintro s_4 H_3 ⟨cell_1, rfl, fr⟩
    refine ⟨_, rfl, _, _, rfl, rfl, ?_, ?_⟩
    · intro h5
      refine ⟨_, rfl, ?_⟩
      refine iteT ?_
      refine iteT ?_
      refine ⟨_, rfl, ?_⟩
      exact q _ cell_1 (by trivial) fr.same
    · intro h5
      refine ⟨_, rfl, ?_⟩
      refine iteF ?_
      refine ⟨_, rfl, _, _, 1000000000000000000, rfl, rfl, ⟨by decide, by decide, by decide⟩, (by decide), _, _, rfl, rfl, ?_, ?_⟩
      · intro h6
        refine ⟨_, rfl, ?_⟩
        refine iteT ?_
        refine ⟨_, rfl, ?_⟩
        exact q _ cell_1 (by trivial) fr.same
      · intro h6
        refine ⟨_, rfl, ?_⟩
        refine iteF ?_
        refine ⟨_, rfl, ?_, ?_, ?_⟩
        · walk_at "side"
        · walk_at "side"
        refine for_it (walkR (n := (Int.toNat 7))) (fun (i : Nat) σ H1 => ∃ (number_7 : Int) (y_8 : Option V) (y_9 : Option V), σ = [some (V.ref a_script), some (V.int k), some (V.int cell_1), some (V.int number_7), y_8, y_9] ∧ Fr H H1 [] ∧ (Bd (41 * i + 1) number_7)) ?_ ?_ ?_ ?_
        · refine ⟨1, _, _, rfl, fr, ?_⟩
          · exact Bd.one 0
        · rintro i σ H1 hi ⟨number_7, y_8, y_9, rfl, fr, hb⟩
          exact trivial
        · rintro i_10 x_12 s_15 H_13 H_14 hi_11 ⟨number_7, y_8, y_9, rfl, fr, hb⟩ ⟨rfl, rfl⟩
          refine ⟨_, rfl, _, _, rfl, rfl, (.inr (by decide)), _, rfl, _, _, rfl, rfl, _, rfl, _, rfl, _, _, rfl, rfl, _, _, rfl, rfl, _, _, rfl, rfl, ?_, _, _, rfl, rfl, (.inr (by decide)), _, _, rfl, rfl, _, _, rfl, rfl, (show (0 : Int) < _ by decide), _, _, rfl, rfl, (.inr (by decide)), _, _, rfl, rfl, (show (0 : Int) < _ by decide), ?_⟩
          · walk_at "mul"
          refine ⟨_, rfl, _, _, rfl, rfl, ?_, _, rfl, _, rfl, _, _, rfl, rfl, _, _, rfl, rfl, ?_, _, _, rfl, rfl, (show (0 : Int) < _ by decide), _, _, rfl, rfl, ?_⟩
          · exact cmw hb (show Bd 40 _ from ⟨by omega⟩) (by omega)
          · walk_at "mul"
          refine ⟨((number_7 * 2147483647) + (((((((cell_1 * 48271) + ((((i_10 : Int) + 3) * ((k + (i_10 : Int)) + 5)) * 69621)) % 2147483647) * 16807) % 2147483629) * ((i_10 : Int) + 2)) % 2147483647)), _, _, rfl, fr, ?_⟩
          · exact ((hb.mul (show Bd 40 2147483647 from ⟨by decide⟩)).add ((show Bd 40 _ from ⟨by omega⟩ : Bd 40 _).mono (by omega))).mono (by omega)
        rintro s_17 H_16 ⟨number_7, y_8, y_9, rfl, fr, hb⟩
        refine ⟨_, rfl, ?_⟩
        exact q _ number_7 (by trivial) fr.same
def sp_law_common (K : PySem.W.Frag) : Sp := fun vs H Q _ => ∃ (one : Int) (other : Int), vs = [V.int one, V.int other] ∧ (∀ (H1 : Hp) (res : Int), (res = ((Int.gcd one other : Nat) : Int)) → Same H H1 → Q (V.int res) H1)
theorem sc_law_common : FnScope ["_law_one", "_law_other", "_law_rest"] ["_law_one", "_law_other"] (defScope s_law_common) := ⟨rfl, rfl, rfl, by decide +kernel, rfl, by decide +kernel, by decide +kernel⟩
theorem ok_law_common (T : Txt K mg) : FnOk P w K mg base CX0 1 T.f_law_common T.fd_law_common ["_law_one", "_law_other"] (sp_law_common K) := by
  refine T.F_law_common.ok sc_law_common (fun vs H Q E h => ?_) (fun cdv A outer s H vs Q E hr h => ?_)
  · obtain ⟨one, other, rfl, _⟩ := h; rfl
  · obtain ⟨one, other, rfl, q⟩ := h
    have fr := Fr.nil H
    refine ⟨_, (pss_cons (ps_while PassesOwn.never (pt_cmpR op_neS (pv 1) pe_int (nomark _)) (pss_cons (ps_set (i := 2) sc_law_common.nd rfl (Or.inl rfl) (pe_op op_modN (pv 0) (pv 1)))
          (pss_cons (ps_set (i := 0) sc_law_common.nd rfl (Or.inl rfl) (pv 1))
          (pss_one (ps_set (i := 1) sc_law_common.nd rfl (Or.inl rfl) (pv 2))))))
          (pss_one (ps_ret (pe_callB call_absI (by rfl) T.m_abs (by decide +kernel) (pa_cons (pv 0) pa_nil))))), ?_⟩
    refine while_m (fun (m : Nat) σ H1 => ∃ (one_1 : Int) (other_2 : Int) (y_3 : Option V), σ = [some (V.int one_1), some (V.int other_2), y_3] ∧ Fr H H1 [] ∧ (m = other_2.natAbs) ∧ (Int.gcd one_1 other_2 = Int.gcd one other)) ?_ ?_
    · refine ⟨_, one, other, _, rfl, fr, rfl, ?_⟩
      · rfl
    rintro m_4 s_5 H_6 ⟨one_1, other_2, y_3, rfl, fr, hmu, hg⟩
    refine ⟨_, rfl, _, _, rfl, rfl, ?_, ?_⟩
    · intro h7
      refine ⟨_, rfl, ?_⟩
      refine iteT ?_
      refine ⟨_, fun _ _ h => h, ?_⟩
      refine ⟨_, rfl, _, rfl, _, _, rfl, rfl, ?_, ?_⟩
      · assumption
      refine ⟨_, rfl, ?_⟩
      refine ⟨_, rfl, ?_⟩
      refine ⟨_, ?_, other_2, (Int.fmod one_1 other_2), _, rfl, fr, rfl, ?_⟩
      · subst hmu
        exact fmod_less (by assumption)
      · rw [gcd_fmod]; exact hg
    · intro h7
      refine ⟨_, rfl, ?_⟩
      refine iteF ?_
      refine ⟨_, rfl, _, rfl, ?_⟩
      exact q _ ((one_1.natAbs : Int)) (by rw [← hg, show other_2 = 0 by omega]; exact gcd_z) fr.same
def sp_law_whole (K : PySem.W.Frag) : Sp := fun vs H Q _ => ∃ (found : V), vs = [found] ∧ (sca found = true) ∧ (∀ (H1 : Hp) (res : Bool), (res = wholeV found) → Same H H1 → Q (V.bl res) H1)
theorem sc_law_whole : FnScope ["_law_found"] ["_law_found"] (defScope s_law_whole) := ⟨rfl, rfl, rfl, by decide +kernel, rfl, by decide +kernel, by decide +kernel⟩
theorem ok_law_whole (T : Txt K mg) : FnOk P w K mg base CX0 1 T.f_law_whole T.fd_law_whole ["_law_found"] (sp_law_whole K) := by
  refine T.F_law_whole.ok sc_law_whole (fun vs H Q E h => ?_) (fun cdv A outer s H vs Q E hr h => ?_)
  · obtain ⟨found, rfl, _⟩ := h; rfl
  · obtain ⟨found, rfl, pre0, q⟩ := h
    have fr := Fr.nil H
    refine ⟨_, (pss_one (ps_ret (pe_and (pe_splS (pe_callB (show CallR _ _ (rIsi K) from call_isi) (by rfl) T.m_isinstance (by decide +kernel) (pa_cons (pv 0) (pa_cons (pe_bltn (v := .ty "int") (by rfl) T.m_int (by decide +kernel) rfl) pa_nil)))) (pe_one (pe_not (pe_callB (show CallR _ _ (rIsi K) from call_isi) (by rfl) T.m_isinstance (by decide +kernel) (pa_cons (pv 0) (pa_cons (pe_bltn (v := .ty "bool") (by rfl) T.m_bool (by decide +kernel) rfl) pa_nil)))))))), ?_⟩
    refine ⟨_, rfl, _, _, _, _, _, rfl, (ClsV.ty _), (tyx_val ?_), (kit_int ?_), _, rfl, ?_, ?_⟩
    · walk_at "side"
    · walk_at "side"
    · intro h1
      refine ⟨_, rfl, ?_⟩
      refine iteT ?_
      refine ⟨_, rfl, _, _, _, _, _, rfl, (ClsV.ty _), (tyx_val ?_), (kit_bool ?_), _, rfl, ?_⟩
      · walk_at "side"
      · walk_at "side"
      exact q _ ((!((is_bool found)))) (by simp_all [wholeV]) fr.same
    · intro h1
      refine ⟨_, rfl, ?_⟩
      refine iteF ?_
      exact q _ false (by simp_all [wholeV]) fr.same
def sp_law_is (K : PySem.W.Frag) : Sp := fun vs H Q _ => ∃ (a_found : Addr) (found0 : Int) (found1 : Int) (top : Int) (bottom : Int), vs = [V.ref a_found, V.int top, V.int bottom] ∧ H a_found = some (.tup [(V.int found0), (V.int found1)]) ∧ (FrN found0 found1 top bottom) ∧ (Bd 900 found0 ∧ Bd 900 found1) ∧ (Bd 900 top ∧ Bd 900 bottom) ∧ (∀ (H1 : Hp) (res : Bool), (res = true) → Same H H1 → Q (V.bl res) H1)
theorem sc_law_is : FnScope ["_law_found", "_law_top", "_law_bottom"] ["_law_found", "_law_top", "_law_bottom"] (defScope s_law_is) := ⟨rfl, rfl, rfl, by decide +kernel, rfl, by decide +kernel, by decide +kernel⟩
theorem ok_law_is (T : Txt K mg) : FnOk P w K mg base CX0 2 T.f_law_is T.fd_law_is ["_law_found", "_law_top", "_law_bottom"] (sp_law_is K) := by
  refine T.F_law_is.ok sc_law_is (fun vs H Q E h => ?_) (fun cdv A outer s H vs Q E hr h => ?_)
  · obtain ⟨a_found, found0, found1, top, bottom, rfl, _⟩ := h; rfl
  · obtain ⟨a_found, found0, found1, top, bottom, rfl, h_found, pre0, pre1, pre2, q⟩ := h
    have fr := Fr.nil H
    have hy1 := pre0.y1
    have hcp := pre0.cop
    refine ⟨_, (pss_cons (ps_if (PW.pt (pw_or (pt_not (pt_valS (pe_callB (show CallR _ _ (rIsi K) from call_isi) (by rfl) T.m_isinstance (by decide +kernel) (pa_cons (pv 0) (pa_cons (pe_bltn (v := .ty "tuple") (by rfl) T.m_tuple (by decide +kernel) rfl) pa_nil))))) (pw_or (pt_cmpR op_neS (pe_callB (show CallR _ _ (rLenT K) from call_lenT) (by rfl) T.m_len (by decide +kernel) (pa_cons (pv 0) pa_nil)) pe_int (nomark _)) (pw_or (pt_not (pt_valS (pe_call (ok_law_whole T) (hr.mono (by decide)) (by rfl) T.g_law_whole T.F_law_whole.kp T.b_law_whole .nil pass0 (pa_cons (pe_ix (show IxR _ (rIxT K) from ix_tup) (pv 0) pe_int (fun _ _ => rfl)) pa_nil)))) (pw_or1 (pt_not (pt_valS (pe_call (ok_law_whole T) (hr.mono (by decide)) (by rfl) T.g_law_whole T.F_law_whole.kp T.b_law_whole .nil pass0 (pa_cons (pe_ix (show IxR _ (rIxT K) from ix_tup) (pv 0) pe_int (fun _ _ => rfl)) pa_nil))))))))) (pss_one (ps_ret pe_bl)) pss_nil)
          (pss_one (ps_ret (pe_and (pe_splS (pe_cmp (pc_ge (pe_ix (show IxR _ (rIxT K) from ix_tup) (pv 0) pe_int (fun _ _ => rfl)) pe_int))) (pe_and (pe_splS (pe_cmp (pc_eqI (pe_op op_mulW (pe_ix (show IxR _ (rIxT K) from ix_tup) (pv 0) pe_int (fun _ _ => rfl)) (pv 2)) (pe_op op_mulW (pv 1) (pe_ix (show IxR _ (rIxT K) from ix_tup) (pv 0) pe_int (fun _ _ => rfl)))))) (pe_one (pe_cmp (pc_eqI (pe_call (ok_law_common T) (hr.mono (by decide)) (by rfl) T.g_law_common T.F_law_common.kp T.b_law_common .nil pass0 (pa_cons (pe_ix (show IxR _ (rIxT K) from ix_tup) (pv 0) pe_int (fun _ _ => rfl)) (pa_cons (pe_ix (show IxR _ (rIxT K) from ix_tup) (pv 0) pe_int (fun _ _ => rfl)) pa_nil))) pe_int)))))))), ?_⟩
    refine ⟨_, rfl, _, _, _, _, _, rfl, (ClsV.ty _), (.base (.tup (fr.same _ _ h_found))), (kit_ty (r := true) (by decide +kernel)), _, rfl, fun _ => ?_, (fun h => nomatch h)⟩
    refine iteF ?_
    refine ⟨_, rfl, _, 2, _, rfl, (SqT.of (fr.same _ _ h_found)), rfl, _, _, rfl, rfl, ?_, ?_⟩
    · intro h1
      exfalso
      exact h1 rfl
    · intro h1
      refine ⟨_, rfl, ?_⟩
      refine iteF ?_
      refine ⟨_, rfl, _, _, _, _, rfl, rfl, (SqT.of (fr.same _ _ h_found)), (atI_nat (j := 0) rfl), ((V.int found0)), rfl, ?_, fun H_2 whole_3 hp_5 sm_4 => ?_⟩
      · rfl
      have fr : Fr H _ [] := fr.call sm_4
      subst hp_5
      refine ⟨_, rfl, ?_, ?_⟩
      · intro h6
        refine iteF ?_
        refine ⟨_, rfl, _, _, _, _, rfl, rfl, (SqT.of (fr.same _ _ h_found)), (atI_nat (j := 1) rfl), ((V.int found1)), rfl, ?_, fun H_7 whole_8 hp_10 sm_9 => ?_⟩
        · rfl
        have fr : Fr H _ [] := fr.call sm_9
        subst hp_10
        refine ⟨_, rfl, ?_, ?_⟩
        · intro h11
          refine iteF ?_
          refine ⟨_, rfl, _, _, _, _, rfl, rfl, (SqT.of (fr.same _ _ h_found)), (atI_nat (j := 1) rfl), _, _, rfl, rfl, _, rfl, ?_, ?_⟩
          · intro h12
            replace h12 := of_decide_eq_true h12
            refine ⟨_, rfl, ?_⟩
            refine iteT ?_
            refine ⟨_, rfl, _, _, _, _, rfl, rfl, (SqT.of (fr.same _ _ h_found)), (atI_nat (j := 0) rfl), _, rfl, _, _, rfl, rfl, ?_, _, rfl, _, rfl, _, _, _, _, rfl, rfl, (SqT.of (fr.same _ _ h_found)), (atI_nat (j := 1) rfl), _, _, rfl, rfl, ?_, _, _, rfl, rfl, _, rfl, ?_, ?_⟩
            · exact cmw pre1.1 pre2.2 (by decide)
            · exact cmw pre2.1 pre1.2 (by decide)
            · intro h13
              replace h13 := of_decide_eq_true h13
              refine ⟨_, rfl, ?_⟩
              refine iteT ?_
              refine ⟨_, rfl, _, _, _, _, rfl, rfl, (SqT.of (fr.same _ _ h_found)), (atI_nat (j := 0) rfl), _, rfl, _, _, _, _, rfl, rfl, (SqT.of (fr.same _ _ h_found)), (atI_nat (j := 1) rfl), found0, found1, rfl, fun H_14 common_15 hp_17 sm_16 => ?_⟩
              have fr : Fr H _ [] := fr.call sm_16
              subst hp_17
              refine ⟨_, _, rfl, rfl, ?_⟩
              exact q _ (decide (((((Int.gcd found0 found1 : Nat) : Int))) = 1)) (by first | rfl | exact decide_eq_true (by rw [hcp]; rfl) | simp [hcp]) fr.same
            · intro h13
              replace h13 := of_decide_eq_false h13
              exfalso
              exact h13 pre0.eq
          · intro h12
            replace h12 := of_decide_eq_false h12
            exfalso
            omega
        · intro h11
          exfalso
          simp [wholeV_of] at h11
      · intro h6
        exfalso
        simp [wholeV_of] at h6
def sp_law_number (K : PySem.W.Frag) : Sp := fun vs H Q _ => ∃ (cell : Int), vs = [V.int cell] ∧ (∀ (H1 : Hp) (res : Int), (Bd 300 res) → Same H H1 → Q (V.int res) H1)
theorem sc_law_number : FnScope ["_law_cell"] ["_law_cell"] (defScope s_law_number) := ⟨rfl, rfl, rfl, by decide +kernel, rfl, by decide +kernel, by decide +kernel⟩
theorem ok_law_number (T : Txt K mg) : FnOk P w K mg base CX0 1 T.f_law_number T.fd_law_number ["_law_cell"] (sp_law_number K) := by
  refine T.F_law_number.ok sc_law_number (fun vs H Q E h => ?_) (fun cdv A outer s H vs Q E hr h => ?_)
  · obtain ⟨cell, rfl, _⟩ := h; rfl
  · obtain ⟨cell, rfl, q⟩ := h
    have fr := Fr.nil H
    refine ⟨_, (pss_cons (ps_if (pt_cmpR op_eqS (pe_op op_mod (pv 0) pe_int) pe_int (nomark _)) (pss_one (ps_ret (pe_op op_sub (pe_op op_mod (pe_op op_fdiv (pv 0) pe_int) pe_int) pe_int))) pss_nil)
          (pss_one (ps_ret (pe_op op_sub (pe_op op_mod (pe_op op_fdiv (pv 0) pe_int) (pe_op op_mul pe_int (pe_op op_powL pe_int pe_int))) (pe_op op_powL pe_int pe_int))))), ?_⟩
    refine ⟨_, rfl, _, _, rfl, rfl, (show (0 : Int) < _ by decide), _, _, rfl, rfl, ?_, ?_⟩
    · intro h1
      refine ⟨_, rfl, ?_⟩
      refine iteT ?_
      refine ⟨_, rfl, _, _, rfl, rfl, ⟨by decide, by decide⟩, _, _, rfl, rfl, (show (0 : Int) < _ by decide), _, _, rfl, rfl, ?_⟩
      exact q _ ((((cell / 3) % 25) - 12)) (by exact ⟨by omega⟩) fr.same
    · intro h1
      refine ⟨_, rfl, ?_⟩
      refine iteF ?_
      refine ⟨_, rfl, _, _, rfl, rfl, ⟨by decide, by decide⟩, _, _, 1000000000000000000000000000000000000000000000000000000000000, rfl, rfl, ⟨by decide, by decide, by decide⟩, (by decide), _, _, rfl, rfl, (.inl (by decide)), _, _, rfl, rfl, (show (0 : Int) < _ by decide), _, _, 1000000000000000000000000000000000000000000000000000000000000, rfl, rfl, ⟨by decide, by decide, by decide⟩, (by decide), _, _, rfl, rfl, ?_⟩
      exact q _ ((((cell / 3) % (2 * 1000000000000000000000000000000000000000000000000000000000000)) - 1000000000000000000000000000000000000000000000000000000000000)) (by exact ⟨by omega⟩) fr.same
def sp_greatest (K : PySem.W.Frag) : Sp := fun vs H Q _ => ∃ (one : Int) (other : Int), vs = [V.int one, V.int other] ∧ (∀ (H1 : Hp) (res : Int), (res = ((Int.gcd one other : Nat) : Int)) → Same H H1 → Q (V.int res) H1)
theorem sc_greatest : FnScope ["one", "other"] ["one", "other"] (defScope s_greatest) := ⟨rfl, rfl, rfl, by decide +kernel, rfl, by decide +kernel, by decide +kernel⟩
theorem ok_greatest (T : Txt K mg) : FnOk P w K mg base CX0 1 T.f_greatest T.fd_greatest ["one", "other"] (sp_greatest K) := by
  refine T.F_greatest.ok sc_greatest (fun vs H Q E h => ?_) (fun cdv A outer s H vs Q E hr h => ?_)
  · obtain ⟨one, other, rfl, _⟩ := h; rfl
  · obtain ⟨one, other, rfl, q⟩ := h
    have fr := Fr.nil H
    refine ⟨_, (pss_cons (ps_while PassesOwn.never (pt_cmpR op_neS (pv 1) pe_int (nomark _)) (pss_one (ps_par (i := 0) (j := 1) (by rfl) sc_greatest.nd rfl rfl (by decide) rfl rfl (pa_cons (pv 1) (pa_cons (pe_op op_modN (pv 0) (pv 1)) pa_nil)) (by rfl))))
          (pss_one (ps_ret (pe_callB call_absI (by rfl) T.m_abs (by decide +kernel) (pa_cons (pv 0) pa_nil))))), ?_⟩
    refine while_m (fun (m : Nat) σ H1 => ∃ (one_1 : Int) (other_2 : Int), σ = [some (V.int one_1), some (V.int other_2)] ∧ Fr H H1 [] ∧ (m = other_2.natAbs) ∧ (Int.gcd one_1 other_2 = Int.gcd one other)) ?_ ?_
    · refine ⟨_, one, other, rfl, fr, rfl, ?_⟩
      · rfl
    rintro m_3 s_4 H_5 ⟨one_1, other_2, rfl, fr, hmu, hg⟩
    refine ⟨_, rfl, _, _, rfl, rfl, ?_, ?_⟩
    · intro h6
      refine ⟨_, rfl, ?_⟩
      refine iteT ?_
      refine ⟨_, fun _ _ h => h, ?_⟩
      refine ⟨_, rfl, _, rfl, _, rfl, _, _, rfl, rfl, ?_, _, _, rfl, ?_⟩
      · assumption
      refine ⟨_, ?_, other_2, (Int.fmod one_1 other_2), rfl, fr, rfl, ?_⟩
      · subst hmu
        exact fmod_less (by assumption)
      · rw [gcd_fmod]; exact hg
    · intro h6
      refine ⟨_, rfl, ?_⟩
      refine iteF ?_
      refine ⟨_, rfl, _, rfl, ?_⟩
      exact q _ ((one_1.natAbs : Int)) (by rw [← hg, show other_2 = 0 by omega]; exact gcd_z) fr.same
def sp_fraction (K : PySem.W.Frag) : Sp := fun vs H Q _ => ∃ (top : Int) (bottom : Int), vs = [V.int top, V.int bottom] ∧ (bottom ≠ 0) ∧ (Bd 900 top ∧ Bd 900 bottom) ∧ (∀ (H1 : Hp) (rA : Addr) (res0 : Int) (res1 : Int), (res0 = top.fdiv (partN top bottom)) → (res1 = bottom.fdiv (partN top bottom)) → Same H H1 → H rA = none → H1 rA = some (.tup [V.int res0, V.int res1]) → Q (V.ref rA) H1)
theorem sc_fraction : FnScope ["top", "bottom", "part"] ["top", "bottom"] (defScope s_fraction) := ⟨rfl, rfl, rfl, by decide +kernel, rfl, by decide +kernel, by decide +kernel⟩
theorem ok_fraction (T : Txt K mg) : FnOk P w K mg base CX0 2 T.f_fraction T.fd_fraction ["top", "bottom"] (sp_fraction K) := by
  refine T.F_fraction.ok sc_fraction (fun vs H Q E h => ?_) (fun cdv A outer s H vs Q E hr h => ?_)
  · obtain ⟨top, bottom, rfl, _⟩ := h; rfl
  · obtain ⟨top, bottom, rfl, pre0, pre1, q⟩ := h
    have fr := Fr.nil H
    have hgp := gcd_ne (a := top) pre0
    have hfr := frn_of (a := top) pre0
    have hgb : Bd 900 ((Int.gcd top bottom : Nat) : Int) := ⟨Nat.lt_of_le_of_lt (Nat.le_of_dvd (by omega) (Int.natAbs_dvd_natAbs.mpr (Int.gcd_dvd_right top bottom))) pre1.2.lt⟩
    refine ⟨_, (pss_cons (ps_set (i := 2) sc_fraction.nd rfl (Or.inl rfl) (pe_call (ok_greatest T) (hr.mono (by decide)) (by rfl) T.g_greatest T.F_greatest.kp T.b_greatest .nil pass0 (pa_cons (pv 0) (pa_cons (pv 1) pa_nil))))
          (pss_cut (ps_if (pt_cmpR op_ltS (pv 1) pe_int (nomark _)) (pss_one (ps_set (i := 2) sc_fraction.nd rfl (Or.inl rfl) (pe_un un_neg (pv 2)))) pss_nil)
          (pss_one (ps_ret (pe_tup (pa_cons (pe_op op_fdivNW (pv 0) (pv 2)) (pa_cons (pe_op op_fdivNW (pv 1) (pv 2)) pa_nil))))))), ?_⟩
    refine ⟨_, rfl, _, rfl, top, bottom, rfl, fun H_1 greatest_2 hp_4 sm_3 => ?_⟩
    have fr : Fr H _ [] := fr.call sm_3
    subst hp_4
    refine ⟨fun σ H1 => ∃ (part_5 : Int), σ = [some (V.int top), some (V.int bottom), some (V.int part_5)] ∧ Fr H H1 [] ∧ (part_5 = partN top bottom), ?_, ?_⟩
    · refine ⟨_, rfl, _, _, rfl, rfl, ?_, ?_⟩
      · intro h6
        refine ⟨_, rfl, ?_⟩
        refine iteT ?_
        refine ⟨_, rfl, _, rfl, ?_⟩
        refine ⟨(-(((((Int.gcd top bottom : Nat) : Int))))), rfl, fr, ?_⟩
        · unfold partN; first | rw [if_pos (by assumption)] | rw [if_neg (by assumption)]
      · intro h6
        refine ⟨_, rfl, ?_⟩
        refine iteF ?_
        refine ⟨((((Int.gcd top bottom : Nat) : Int))), rfl, fr, ?_⟩
        · unfold partN; first | rw [if_pos (by assumption)] | rw [if_neg (by assumption)]
    rintro s_8 H_7 ⟨part_5, rfl, fr, hp⟩
    refine ⟨_, rfl, _, rfl, _, _, rfl, rfl, ?_, _, rfl, _, rfl, _, _, rfl, rfl, ?_, (Evl.sz_of (show 2 ≤ 100000 by decide)), fun t_9 nt_10 => ?_⟩
    · rw [hp]; exact cdn (by unfold partN; split <;> omega) (show Bd 900 _ from ⟨by have := hgb.lt; unfold partN; split <;> first | (rw [Int.natAbs_neg]; exact this) | exact this⟩) (by decide)
    · rw [hp]; exact cdn (by unfold partN; split <;> omega) (show Bd 900 _ from ⟨by have := hgb.lt; unfold partN; split <;> first | (rw [Int.natAbs_neg]; exact this) | exact this⟩) (by decide)
    have fr : Fr H _ [(t_9, (.tup [(V.int ((Int.fdiv top part_5))), (V.int ((Int.fdiv bottom part_5)))] : HO))] := fr.new nt_10
    exact q _ _ ((Int.fdiv top part_5)) ((Int.fdiv bottom part_5)) (by rw [hp]) (by rw [hp]) fr.same fr.n0 fr.at0
def sp_shares (K : PySem.W.Frag) : Sp := fun vs H Q _ => ∃ (a_table : Addr) (table : List (List Int)) (whole : Int), vs = [V.ref a_table, V.int whole] ∧ Tab H gI a_table table ∧ (whole ≠ 0 ∧ Bd 900 whole) ∧ (BdT 900 table) ∧ (table.length ≤ 10 ∧ ∀ r ∈ table, r.length ≤ 10) ∧ (∀ (H1 : Hp) (rA : Addr) (rows : List (RO (List RT))) (res : List (List (Int × Int))), (res = shrT whole table) → TriN H H1 rA rows res → Same H H1 → Q (V.ref rA) H1)
theorem sc_shares : FnScope ["table", "whole", "row", "number"] ["table", "whole"] (defScope s_shares) := ⟨rfl, rfl, rfl, by decide +kernel, rfl, by decide +kernel, by decide +kernel⟩
theorem ok_shares (T : Txt K mg) : FnOk P w K mg base CX0 3 T.f_shares T.fd_shares ["table", "whole"] (sp_shares K) := by
  refine T.F_shares.ok sc_shares (fun vs H Q E h => ?_) (fun cdv A outer s H vs Q E hr h => ?_)
  · obtain ⟨a_table, table, whole, rfl, _⟩ := h; rfl
  · obtain ⟨a_table, table, whole, rfl, ht_table, pre0, pre1, pre2, q⟩ := h
    obtain ⟨r_table, hc_table, h_table, hr_table⟩ := ht_table.ex
    have fr := Fr.nil H
    refine ⟨_, (pss_one (ps_ret (pe_lc (own := [("row", 2)]) (g := gName 2) (tt := tYes) rfl sc_shares.nd (pi_list (pv 0)) (blkOk_by (N := ["table", "whole", "row", "number"]) (sc := (defScope s_shares)) (by decide +kernel)) (fun _ _ _ _ _ => pg_name (i := 2) sc_shares.nd rfl (Or.inl rfl)) (fun _ _ _ _ _ => pts_nil) (fun _ _ _ _ _ => (pe_lc (own := [("number", 3)]) (g := gName 3) (tt := tYes) rfl sc_shares.nd (show PI _ _ _ (iList K _) from (pi_list (pv 2))) (blkOk_by (N := ["table", "whole", "row", "number"]) (sc := ({ kind := PySem.ScopeKind.function, names := [ (PySem.Str.ofString ".0", PySem.NameKind.local), (PySem.Str.ofString "row", PySem.NameKind.local), (PySem.Str.ofString "whole", PySem.NameKind.cell)], isGenerator := false, isCoroutine := false, more := [] : PySem.Scope })) (by decide +kernel)) (fun _ _ _ _ _ => pg_name (i := 3) sc_shares.nd rfl (Or.inl rfl)) (fun _ _ _ _ _ => pts_nil) (fun _ _ _ _ _ => (pe_call (ok_fraction T) (hr.mono (by decide)) (by rfl) T.g_fraction T.F_fraction.kp T.b_fraction .nil pass0 (pa_cons (pv 3) (pa_cons (pv 1) pa_nil))))))))), ?_⟩
    refine ⟨_, rfl, _, rfl, ⟨_, (SqL.of (fr.same _ _ h_table))⟩, ?_⟩
    intro D_1 nD_2
    refine lc_it (walkT (K := K) (a := a_table) (rows := r_table) hc_table) (fun (i : Nat) H1 => ∃ rw_ : List (RO (List RT)), Fr H H1 ([(D_1, (.lst (List.map rref rw_) : HO))] ++ List.flatten [rosOwn gR rw_, rosOwn gII ((flatR rw_))]) ∧ contR rw_ = (List.map (fun y : List Int => ((List.map (fun y1 : Int => ((((y1.fdiv (partN y1 whole))), ((whole.fdiv (partN y1 whole)))) : Int × Int)) y) : List (Int × Int))) (List.take i table))) ⟨[], fr.new nD_2, rfl⟩ (fun i H1 hi ⟨rw_, fr, hrw_⟩ => (fr.same _ _ h_table)) ?_ ?_
    · rintro i_39 x_45 H_43 H_44 hi_40 ⟨rw_41, fr, hrw_42⟩ ⟨rfl, y_46, hr_47, hy_48, rfl⟩
      refine ⟨rfl, ?_⟩
      have hrl := pre2.2 _ (List.mem_of_getElem? hy_48)
      have hrb := pre1 _ (List.mem_of_getElem? hy_48)
      refine ⟨_, rfl, _, rfl, ⟨_, (SqL.of (fr.same _ _ (hr_table _ (List.mem_of_getElem? hr_47))))⟩, ?_⟩
      intro D_49 nD_50
      refine lc_it (walkL V.int y_46.2) (fun (i : Nat) H1 => ∃ rw_ : List (RO (Int × Int)), Fr H H1 ([(D_49, (.lst (List.map rref rw_) : HO)), (D_1, (.lst (List.map rref rw_41) : HO))] ++ List.flatten [rosOwn gII rw_, rosOwn gR rw_41, rosOwn gII ((flatR rw_41))]) ∧ rw_.map (·.2) = (List.map (fun y1 : Int => ((((y1.fdiv (partN y1 whole))), ((whole.fdiv (partN y1 whole)))) : Int × Int)) (List.take i y_46.2))) ⟨[], fr.new nD_50, rfl⟩ (fun i H1 hi ⟨rw_, fr, hrw_⟩ => (fr.same _ _ (hr_table _ (List.mem_of_getElem? hr_47)))) ?_ ?_
      · rintro i_62 x_68 H_66 H_67 hi_63 ⟨rw_64, fr, hrw_65⟩ ⟨rfl, y_69, hy_70, rfl⟩
        refine ⟨rfl, ?_⟩
        have hnb := hrb _ (List.mem_of_getElem? hy_70)
        refine ⟨_, rfl, _, rfl, y_69, whole, rfl, ?_, ?_, fun H_71 p_76 fraction_79 fraction_80 hp_74 hp_75 sm_73 np_77 ep_78 => ?_⟩
        · exact pre0.1
        · exact ⟨hnb, pre0.2⟩
        have fr : Fr H _ ([(p_76, (.tup [(V.int fraction_79), (V.int fraction_80)] : HO)), (D_49, (.lst (List.map rref rw_64) : HO)), (D_1, (.lst (List.map rref rw_41) : HO))] ++ List.flatten [rosOwn gII rw_64, rosOwn gR rw_41, rosOwn gII ((flatR rw_41))]) := fr.cnew sm_73 np_77 ep_78
        subst hp_74
        subst hp_75
        refine ⟨_, (Fr.atk fr 1 rfl), ?_, ?_⟩
        · rw [len_rows hrw_65]; refine Evl.sz_lt ?_; simp only [List.length_map, List.length_take, List.length_range]; omega
        have fr : Fr H _ ([(p_76, (.tup [(V.int (((y_69.fdiv (partN y_69 whole))))), (V.int (((whole.fdiv (partN y_69 whole)))))] : HO)), (D_49, (.lst (List.map rref ((rw_64 ++ [(p_76, (((y_69.fdiv (partN y_69 whole))), ((whole.fdiv (partN y_69 whole)))))]))) : HO)), (D_1, (.lst (List.map rref rw_41) : HO))] ++ List.flatten [rosOwn gII rw_64, rosOwn gR rw_41, rosOwn gII ((flatR rw_41))]) := Fr.wrk fr 1 rfl (lst_rref_app (rows := rw_64) (x := (((y_69.fdiv (partN y_69 whole))), ((whole.fdiv (partN y_69 whole))))))
        have fr : Fr H _ ([(p_76, (.tup [(V.int (((y_69.fdiv (partN y_69 whole))))), (V.int (((whole.fdiv (partN y_69 whole)))))] : HO)), (D_49, (.lst (List.map rref ((rw_64 ++ [(p_76, (((y_69.fdiv (partN y_69 whole))), ((whole.fdiv (partN y_69 whole)))))]))) : HO)), (D_1, (.lst (List.map rref rw_41) : HO))] ++ List.flatten [rosOwn gII ((flatR rw_41)), rosOwn gII rw_64, rosOwn gR rw_41]) := Fr.tup (pre := [(p_76, (.tup [(V.int (((y_69.fdiv (partN y_69 whole))))), (V.int (((whole.fdiv (partN y_69 whole)))))] : HO)), (D_49, (.lst (List.map rref ((rw_64 ++ [(p_76, (((y_69.fdiv (partN y_69 whole))), ((whole.fdiv (partN y_69 whole)))))]))) : HO)), (D_1, (.lst (List.map rref rw_41) : HO))]) (ts := [rosOwn gII rw_64, rosOwn gR rw_41, rosOwn gII ((flatR rw_41))]) fr 2 rfl
        have fr : Fr H _ ([(p_76, (.tup [(V.int (((y_69.fdiv (partN y_69 whole))))), (V.int (((whole.fdiv (partN y_69 whole)))))] : HO)), (D_49, (.lst (List.map rref ((rw_64 ++ [(p_76, (((y_69.fdiv (partN y_69 whole))), ((whole.fdiv (partN y_69 whole)))))]))) : HO)), (D_1, (.lst (List.map rref rw_41) : HO))] ++ List.flatten [rosOwn gR rw_41, rosOwn gII ((flatR rw_41)), rosOwn gII rw_64]) := Fr.tup (pre := [(p_76, (.tup [(V.int (((y_69.fdiv (partN y_69 whole))))), (V.int (((whole.fdiv (partN y_69 whole)))))] : HO)), (D_49, (.lst (List.map rref ((rw_64 ++ [(p_76, (((y_69.fdiv (partN y_69 whole))), ((whole.fdiv (partN y_69 whole)))))]))) : HO)), (D_1, (.lst (List.map rref rw_41) : HO))]) (ts := [rosOwn gII ((flatR rw_41)), rosOwn gII rw_64, rosOwn gR rw_41]) fr 2 rfl
        have fr : Fr H _ ([(p_76, (.tup [(V.int (((y_69.fdiv (partN y_69 whole))))), (V.int (((whole.fdiv (partN y_69 whole)))))] : HO)), (D_49, (.lst (List.map rref ((rw_64 ++ [(p_76, (((y_69.fdiv (partN y_69 whole))), ((whole.fdiv (partN y_69 whole)))))]))) : HO)), (D_1, (.lst (List.map rref rw_41) : HO))] ++ List.flatten [rosOwn gII rw_64, rosOwn gR rw_41, rosOwn gII ((flatR rw_41))]) := Fr.tup (pre := [(p_76, (.tup [(V.int (((y_69.fdiv (partN y_69 whole))))), (V.int (((whole.fdiv (partN y_69 whole)))))] : HO)), (D_49, (.lst (List.map rref ((rw_64 ++ [(p_76, (((y_69.fdiv (partN y_69 whole))), ((whole.fdiv (partN y_69 whole)))))]))) : HO)), (D_1, (.lst (List.map rref rw_41) : HO))]) (ts := [rosOwn gR rw_41, rosOwn gII ((flatR rw_41)), rosOwn gII rw_64]) fr 2 rfl
        exact ⟨(rw_64 ++ [(p_76, (((y_69.fdiv (partN y_69 whole))), ((whole.fdiv (partN y_69 whole)))))]), Fr.radd (g := gII) (pre := [(D_49, (.lst (List.map rref ((rw_64 ++ [(p_76, (((y_69.fdiv (partN y_69 whole))), ((whole.fdiv (partN y_69 whole)))))]))) : HO)), (D_1, (.lst (List.map rref rw_41) : HO))]) (ts := [rosOwn gR rw_41, rosOwn gII ((flatR rw_41))]) (rows := rw_64) (x := (((y_69.fdiv (partN y_69 whole))), ((whole.fdiv (partN y_69 whole))))) fr, (snd_app hrw_65).trans (mtn hy_70 (by rfl))⟩
      rintro H_81 ⟨rw_82, fr, hrw_83⟩
      rw [List.take_length] at hrw_83
      refine ⟨_, (Fr.atk fr 1 rfl), ?_, ?_⟩
      · rw [List.length_map, contR_len hrw_42]; refine Evl.sz_lt ?_; simp only [List.length_map, List.length_take]; omega
      have fr : Fr H _ ([(D_49, (.lst (List.map rref rw_82) : HO)), (D_1, (.lst (List.map rref ((rw_41 ++ [(D_49, rw_82)]))) : HO))] ++ List.flatten [rosOwn gII rw_82, rosOwn gR rw_41, rosOwn gII ((flatR rw_41))]) := Fr.wrk fr 1 rfl (lst_rref_app (rows := rw_41) (x := rw_82))
      have fr : Fr H _ ([(D_49, (.lst (List.map rref rw_82) : HO)), (D_1, (.lst (List.map rref ((rw_41 ++ [(D_49, rw_82)]))) : HO))] ++ List.flatten [rosOwn gII ((flatR rw_41)), rosOwn gII rw_82, rosOwn gR rw_41]) := Fr.tup (pre := [(D_49, (.lst (List.map rref rw_82) : HO)), (D_1, (.lst (List.map rref ((rw_41 ++ [(D_49, rw_82)]))) : HO))]) (ts := [rosOwn gII rw_82, rosOwn gR rw_41, rosOwn gII ((flatR rw_41))]) fr 2 rfl
      have fr : Fr H _ ([(D_49, (.lst (List.map rref rw_82) : HO)), (D_1, (.lst (List.map rref ((rw_41 ++ [(D_49, rw_82)]))) : HO))] ++ List.flatten [rosOwn gR rw_41, rosOwn gII ((flatR rw_41)), rosOwn gII rw_82]) := Fr.tup (pre := [(D_49, (.lst (List.map rref rw_82) : HO)), (D_1, (.lst (List.map rref ((rw_41 ++ [(D_49, rw_82)]))) : HO))]) (ts := [rosOwn gII ((flatR rw_41)), rosOwn gII rw_82, rosOwn gR rw_41]) fr 2 rfl
      have fr : Fr H _ ([(D_49, (.lst (List.map rref rw_82) : HO)), (D_1, (.lst (List.map rref ((rw_41 ++ [(D_49, rw_82)]))) : HO))] ++ List.flatten [rosOwn gII rw_82, rosOwn gR rw_41, rosOwn gII ((flatR rw_41))]) := Fr.tup (pre := [(D_49, (.lst (List.map rref rw_82) : HO)), (D_1, (.lst (List.map rref ((rw_41 ++ [(D_49, rw_82)]))) : HO))]) (ts := [rosOwn gR rw_41, rosOwn gII ((flatR rw_41)), rosOwn gII rw_82]) fr 2 rfl
      exact ⟨(rw_41 ++ [(D_49, rw_82)]), Fr.triadd (pre := [(D_1, (.lst (List.map rref ((rw_41 ++ [(D_49, rw_82)]))) : HO))]) (ts := []) (rows := rw_41) (x := rw_82) fr, (contR_app hrw_42 hrw_83).trans (mtn hy_48 rfl)⟩
    rintro H_84 ⟨rw_85, fr, hrw_86⟩
    rw [List.take_length] at hrw_86
    have fr : Fr H _ ([(D_1, (.lst (List.map rref rw_85) : HO))] ++ List.flatten [rosOwn gII ((flatR rw_85)), rosOwn gR rw_85]) := Fr.tup (pre := [(D_1, (.lst (List.map rref rw_85) : HO))]) (ts := [rosOwn gR rw_85, rosOwn gII ((flatR rw_85))]) fr 1 rfl
    have fr : Fr H _ ([(D_1, (.lst (List.map rref rw_85) : HO))] ++ List.flatten [rosOwn gR rw_85, rosOwn gII ((flatR rw_85))]) := Fr.tup (pre := [(D_1, (.lst (List.map rref rw_85) : HO))]) (ts := [rosOwn gII ((flatR rw_85)), rosOwn gR rw_85]) fr 1 rfl
    exact q _ _ _ ((List.map (fun y : List Int => ((List.map (fun y1 : Int => ((((y1.fdiv (partN y1 whole))), ((whole.fdiv (partN y1 whole)))) : Int × Int)) y) : List (Int × Int))) table)) (by rfl) (Fr.triback (rows := rw_85) fr hrw_86) fr.same
def sp_law_shared (K : PySem.W.Frag) : Sp := fun vs H Q _ => ∃ (a_table : Addr) (table : List (List Int)) (whole : Int), vs = [V.ref a_table, V.int whole] ∧ Tab H gI a_table table ∧ (whole ≠ 0 ∧ Bd 900 whole) ∧ (BdT 900 table) ∧ (table.length ≤ 10 ∧ ∀ r ∈ table, r.length ≤ 10) ∧ (∀ (H1 : Hp) (res : Bool), (res = true) → Same H H1 → Q (V.bl res) H1)
theorem sc_law_shared : FnScope ["_law_table_here", "_law_whole_here", "_law_handed", "_law_found", "_law_row", "_law_made", "_law_number_here", "_law_part"] ["_law_table_here", "_law_whole_here"] (defScope s_law_shared) := ⟨rfl, rfl, rfl, by decide +kernel, rfl, by decide +kernel, by decide +kernel⟩
theorem ok_law_shared (T : Txt K mg) : FnOk P w K mg base CX0 4 T.f_law_shared T.fd_law_shared ["_law_table_here", "_law_whole_here"] (sp_law_shared K) := by
  refine T.F_law_shared.ok sc_law_shared (fun vs H Q E h => ?_) (fun cdv A outer s H vs Q E hr h => ?_)
  · obtain ⟨a_table, table, whole, rfl, _⟩ := h; rfl
  · obtain ⟨a_table, table, whole, rfl, ht_table, pre0, pre1, pre2, q⟩ := h
    obtain ⟨r_table, hc_table, h_table, hr_table⟩ := ht_table.ex
    have fr := Fr.nil H
    refine ⟨_, (pss_cons (ps_setLc (i := 2) (own := [("_law_row", 4)]) (g := gName 4) (tt := tYes) rfl sc_law_shared.nd rfl rfl (sw_true rfl rfl rfl (by decide +kernel)) (pi_list (pv 0)) (blkOk_by (N := ["_law_table_here", "_law_whole_here", "_law_handed", "_law_found", "_law_row", "_law_made", "_law_number_here", "_law_part"]) (sc := (defScope s_law_shared)) (by decide +kernel)) (fun _ _ _ _ _ => pg_name (i := 4) sc_law_shared.nd rfl (Or.inl rfl)) (fun _ _ _ _ _ => pts_nil) (fun _ _ _ _ _ => (pe_callTy (show CallR _ _ (rListL K) from call_listL) (by rfl) T.m_list (by decide +kernel) (pa_cons (pv 4) pa_nil))))
          (pss_cons (ps_set (i := 3) sc_law_shared.nd rfl (Or.inl rfl) (pe_call (ok_shares T) (hr.mono (by decide)) (by rfl) T.g_shares T.F_shares.kp T.b_shares .nil pass0 (pa_cons (pv 2) (pa_cons (pv 1) pa_nil))))
          (pss_cons (ps_if (PW.pt (pw_or (pt_not (pt_valS (pe_callB (show CallR _ _ (rIsi K) from call_isi) (by rfl) T.m_isinstance (by decide +kernel) (pa_cons (pv 3) (pa_cons (pe_bltn (v := .ty "list") (by rfl) T.m_list (by decide +kernel) rfl) pa_nil))))) (pw_or (pt_cmpR op_neS (pe_callB (show CallR _ _ (rLenL K) from call_lenL) (by rfl) T.m_len (by decide +kernel) (pa_cons (pv 3) pa_nil)) (pe_callB (show CallR _ _ (rLenL K) from call_lenL) (by rfl) T.m_len (by decide +kernel) (pa_cons (pv 0) pa_nil)) (nomark _)) (pw_or1 (pt_cmpR (opS (show OpR _ _ (rNeX K) from op_neX (hu64 hr))) (pv 2) (pv 0) (nomark _)))))) (pss_one (ps_ret pe_bl)) pss_nil)
          (pss_cons (ps_for PassesOwn.never rfl (pi_zip (by rfl) T.m_zip (pa_cons (pv 0) (pa_cons (pv 3) pa_nil))) (pg_tup rfl (pgs_cons (pg_name (i := 4) sc_law_shared.nd rfl (Or.inl rfl)) (pgs_cons (pg_name (i := 5) sc_law_shared.nd rfl (Or.inl rfl)) pgs_nil))) (pss_cons (ps_if (PW.pt (pw_or (pt_not (pt_valS (pe_callB (show CallR _ _ (rIsi K) from call_isi) (by rfl) T.m_isinstance (by decide +kernel) (pa_cons (pv 5) (pa_cons (pe_bltn (v := .ty "list") (by rfl) T.m_list (by decide +kernel) rfl) pa_nil))))) (pw_or1 (pt_cmpR op_neS (pe_callB (show CallR _ _ (rLenL K) from call_lenL) (by rfl) T.m_len (by decide +kernel) (pa_cons (pv 5) pa_nil)) (pe_callB (show CallR _ _ (rLenL K) from call_lenL) (by rfl) T.m_len (by decide +kernel) (pa_cons (pv 4) pa_nil)) (nomark _))))) (pss_one (ps_ret pe_bl)) pss_nil)
          (pss_one (ps_for PassesOwn.never rfl (pi_zip (by rfl) T.m_zip (pa_cons (pv 4) (pa_cons (pv 5) pa_nil))) (pg_tup rfl (pgs_cons (pg_name (i := 6) sc_law_shared.nd rfl (Or.inl rfl)) (pgs_cons (pg_name (i := 7) sc_law_shared.nd rfl (Or.inl rfl)) pgs_nil))) (pss_one (ps_if (pt_not (pt_valS (pe_call (ok_law_is T) (hr.mono (by decide)) (by rfl) T.g_law_is T.F_law_is.kp T.b_law_is .nil pass0 (pa_cons (pv 7) (pa_cons (pv 6) (pa_cons (pv 1) pa_nil)))))) (pss_one (ps_ret pe_bl)) pss_nil))))))
          (pss_one (ps_ret pe_bl)))))), ?_⟩
    refine ⟨_, rfl, _, rfl, ⟨_, (SqL.of (fr.same _ _ h_table))⟩, ?_⟩
    intro D_1 nD_2
    refine lc_it (walkT (K := K) (a := a_table) (rows := r_table) hc_table) (fun (i : Nat) H1 => ∃ rw_ : List (RO (List Int)), Fr H H1 ([(D_1, (.lst (List.map rref rw_) : HO))] ++ List.flatten [rosOwn gI rw_]) ∧ rw_.map (·.2) = (List.map (fun y : List Int => (y : List Int)) (List.take i table))) ⟨[], fr.new nD_2, rfl⟩ (fun i H1 hi ⟨rw_, fr, hrw_⟩ => (fr.same _ _ h_table)) ?_ ?_
    · rintro i_6 x_12 H_10 H_11 hi_7 ⟨rw_8, fr, hrw_9⟩ ⟨rfl, y_13, hr_14, hy_15, rfl⟩
      refine ⟨rfl, ?_⟩
      have hrl := pre2.2 _ (List.mem_of_getElem? hy_15)
      refine ⟨_, rfl, _, _, rfl, (.inl (SqL.of (fr.same _ _ (hr_table _ (List.mem_of_getElem? hr_14))))), fun l_16 nl_17 => ?_⟩
      have fr : Fr H _ ([(l_16, (.lst (List.map V.int y_13.2) : HO)), (D_1, (.lst (List.map rref rw_8) : HO))] ++ List.flatten [rosOwn gI rw_8]) := fr.new nl_17
      refine ⟨_, (Fr.atk fr 1 rfl), ?_, ?_⟩
      · rw [len_rows hrw_9]; refine Evl.sz_lt ?_; simp only [List.length_map, List.length_take, List.length_range]; omega
      have fr : Fr H _ ([(l_16, (.lst (List.map V.int y_13.2) : HO)), (D_1, (.lst (List.map rref ((rw_8 ++ [(l_16, y_13.2)]))) : HO))] ++ List.flatten [rosOwn gI rw_8]) := Fr.wrk fr 1 rfl (lst_rref_app (rows := rw_8) (x := y_13.2))
      exact ⟨(rw_8 ++ [(l_16, y_13.2)]), Fr.radd (g := gI) (pre := [(D_1, (.lst (List.map rref ((rw_8 ++ [(l_16, y_13.2)]))) : HO))]) (ts := []) (rows := rw_8) (x := y_13.2) fr, (snd_app hrw_9).trans (mtn hy_15 (by rfl))⟩
    rintro H_18 ⟨rw_19, fr, hrw_20⟩
    rw [List.take_length] at hrw_20
    replace hrw_20 := hrw_20.trans (List.map_id' _)
    refine ⟨_, rfl, _, rfl, D_1, table, whole, rfl, (tab_lit (rows := rw_19) (fun z hz => Fr.rmem (pre := [(D_1, (.lst (List.map rref rw_19) : HO))]) (ts := [rosOwn gI rw_19]) fr 0 rfl hz) fr.at0 hrw_20), ?_, ?_, ?_, fun H_21 p_25 rw_26 shares_22 hp_24 tn_27 sm_23 => ?_⟩
    · exact pre0
    · exact pre1
    · exact pre2
    have fr : Fr H _ ([(p_25, (.lst (List.map rref rw_26) : HO)), (D_1, (.lst (List.map rref rw_19) : HO))] ++ List.flatten [rosOwn gR rw_26, rosOwn gII ((flatR rw_26)), rosOwn gI rw_19]) := Fr.ctri (pre := [(D_1, (.lst (List.map rref rw_19) : HO))]) (ts := [rosOwn gI rw_19]) fr sm_23 tn_27
    subst hp_24
    replace tn_27 : TriN _ _ p_25 rw_26 (((shrT whole table))) := tn_27
    refine ⟨_, rfl, _, _, _, _, _, rfl, (ClsV.ty _), (.base (.lst fr.at0)), (kit_ty (r := true) (by decide +kernel)), _, rfl, fun _ => ?_, (fun h => nomatch h)⟩
    refine iteF ?_
    refine ⟨_, rfl, _, _, _, rfl, (SqL.of fr.at0), (tri_len tn_27.c), _, rfl, _, _, _, rfl, (SqL.of (fr.same _ _ h_table)), (len_rows hc_table), _, _, rfl, rfl, ?_, ?_⟩
    · intro h28
      exfalso
      refine h28 ?_; unfold shrT; rw [List.length_map]
    · intro h28
      refine ⟨_, rfl, ?_⟩
      refine iteF ?_
      refine ⟨_, rfl, _, rfl, _, _, true, (dp_tabI (tab_lit (rows := rw_19) (fun z hz => Fr.rmem (pre := [(p_25, (.lst (List.map rref rw_26) : HO)), (D_1, (.lst (List.map rref rw_19) : HO))]) (ts := [rosOwn gR rw_26, rosOwn gII ((flatR rw_26)), rosOwn gI rw_19]) fr 2 rfl hz) fr.at1 hrw_20)), (dp_tabI (tab_lit (rows := r_table) (fun z hz => fr.same _ _ (hr_table z hz)) (fr.same _ _ h_table) hc_table)), (Okd.sh (okd_tabI _)), (Okd.sh (okd_tabI _)), (PySem.SeqAt.eqv_refl _ (Okd.cn (okd_tabI _))), _, rfl, (fun h => nomatch h), fun _ => ?_⟩
      refine ⟨_, rfl, ?_⟩
      refine iteF ?_
      refine ⟨_, rfl, _, rfl, _, _, _, _, rfl, (SqL.of (fr.same _ _ h_table)), (SqL.of fr.at0), ?_⟩
      refine for_it (walkZ rref rref r_table rw_26) (fun (i : Nat) σ H1 => ∃ (y_29 : Option V) (y_30 : Option V) (y_31 : Option V) (y_32 : Option V), σ = [some (V.ref a_table), some (V.int whole), some (V.ref D_1), some (V.ref p_25), y_29, y_30, y_31, y_32] ∧ Fr H H1 ([(p_25, (.lst (List.map rref rw_26) : HO)), (D_1, (.lst (List.map rref rw_19) : HO))] ++ List.flatten [rosOwn gR rw_26, rosOwn gII ((flatR rw_26)), rosOwn gI rw_19])) ?_ ?_ ?_ ?_
      · have fr : Fr H _ ([(p_25, (.lst (List.map rref rw_26) : HO)), (D_1, (.lst (List.map rref rw_19) : HO))] ++ List.flatten [rosOwn gI rw_19, rosOwn gR rw_26, rosOwn gII ((flatR rw_26))]) := Fr.tup (pre := [(p_25, (.lst (List.map rref rw_26) : HO)), (D_1, (.lst (List.map rref rw_19) : HO))]) (ts := [rosOwn gR rw_26, rosOwn gII ((flatR rw_26)), rosOwn gI rw_19]) fr 2 rfl
        have fr : Fr H _ ([(p_25, (.lst (List.map rref rw_26) : HO)), (D_1, (.lst (List.map rref rw_19) : HO))] ++ List.flatten [rosOwn gII ((flatR rw_26)), rosOwn gI rw_19, rosOwn gR rw_26]) := Fr.tup (pre := [(p_25, (.lst (List.map rref rw_26) : HO)), (D_1, (.lst (List.map rref rw_19) : HO))]) (ts := [rosOwn gI rw_19, rosOwn gR rw_26, rosOwn gII ((flatR rw_26))]) fr 2 rfl
        have fr : Fr H _ ([(p_25, (.lst (List.map rref rw_26) : HO)), (D_1, (.lst (List.map rref rw_19) : HO))] ++ List.flatten [rosOwn gR rw_26, rosOwn gII ((flatR rw_26)), rosOwn gI rw_19]) := Fr.tup (pre := [(p_25, (.lst (List.map rref rw_26) : HO)), (D_1, (.lst (List.map rref rw_19) : HO))]) (ts := [rosOwn gII ((flatR rw_26)), rosOwn gI rw_19, rosOwn gR rw_26]) fr 2 rfl
        refine ⟨_, _, _, _, rfl, fr⟩
      · rintro i σ H1 hi ⟨y_29, y_30, y_31, y_32, rfl, fr⟩
        exact ⟨(fr.same _ _ h_table), fr.at0⟩
      · rintro i_33 x_35 s_38 H_36 H_37 hi_34 ⟨y_29, y_30, y_31, y_32, rfl, fr⟩ ⟨T_39, y_40, z_41, rfl, nT_42, rfl, hy_43, hz_44⟩
        have fr := fr.tmp (o := .tup [(V.ref y_40.1), (V.ref z_41.1)]) nT_42
        refine ⟨_, _, rfl, (SqT.of upd_same), rfl, _, _, rfl, _, _, rfl, rfl, ?_⟩
        have hrow := snd_get hc_table hy_43
        have hmade := shr_row rfl hrow (contR_get tn_27.c hz_44)
        have hrb := pre1 _ (List.mem_of_getElem? hrow)
        have hml := congrArg List.length hmade
        rw [List.length_map, List.length_map] at hml
        refine ⟨_, rfl, _, _, _, _, _, rfl, (ClsV.ty _), (.base (.lst (Fr.rmem (pre := [(p_25, (.lst (List.map rref rw_26) : HO)), (D_1, (.lst (List.map rref rw_19) : HO))]) (ts := [rosOwn gR rw_26, rosOwn gII ((flatR rw_26)), rosOwn gI rw_19]) fr 0 rfl (List.mem_of_getElem? hz_44)))), (kit_ty (r := true) (by decide +kernel)), _, rfl, fun _ => ?_, (fun h => nomatch h)⟩
        refine iteF ?_
        refine ⟨_, rfl, _, _, _, rfl, (SqL.of (Fr.rmem (pre := [(p_25, (.lst (List.map rref rw_26) : HO)), (D_1, (.lst (List.map rref rw_19) : HO))]) (ts := [rosOwn gR rw_26, rosOwn gII ((flatR rw_26)), rosOwn gI rw_19]) fr 0 rfl (List.mem_of_getElem? hz_44))), (len_rows rfl), _, rfl, _, _, _, rfl, (SqL.of (fr.same _ _ (hr_table _ (List.mem_of_getElem? hy_43)))), (List.length_map _), _, _, rfl, rfl, ?_, ?_⟩
        · intro h45
          exfalso
          refine h45 ?_; rw [List.length_map]; omega
        · intro h45
          refine ⟨_, rfl, ?_⟩
          refine iteF ?_
          refine ⟨_, rfl, _, rfl, _, _, _, _, rfl, (SqL.of (fr.same _ _ (hr_table _ (List.mem_of_getElem? hy_43)))), (SqL.of (Fr.rmem (pre := [(p_25, (.lst (List.map rref rw_26) : HO)), (D_1, (.lst (List.map rref rw_19) : HO))]) (ts := [rosOwn gR rw_26, rosOwn gII ((flatR rw_26)), rosOwn gI rw_19]) fr 0 rfl (List.mem_of_getElem? hz_44))), ?_⟩
          refine for_it (walkZ V.int rref y_40.2 z_41.2) (fun (i : Nat) σ H1 => ∃ (y_46 : Option V) (y_47 : Option V), σ = [some (V.ref a_table), some (V.int whole), some (V.ref D_1), some (V.ref p_25), some (V.ref y_40.1), some (V.ref z_41.1), y_46, y_47] ∧ Fr H H1 ([(p_25, (.lst (List.map rref rw_26) : HO)), (D_1, (.lst (List.map rref rw_19) : HO))] ++ List.flatten [rosOwn gR rw_26, rosOwn gII ((flatR rw_26)), rosOwn gI rw_19])) ?_ ?_ ?_ ?_
          · have fr : Fr H _ ([(p_25, (.lst (List.map rref rw_26) : HO)), (D_1, (.lst (List.map rref rw_19) : HO))] ++ List.flatten [rosOwn gI rw_19, rosOwn gR rw_26, rosOwn gII ((flatR rw_26))]) := Fr.tup (pre := [(p_25, (.lst (List.map rref rw_26) : HO)), (D_1, (.lst (List.map rref rw_19) : HO))]) (ts := [rosOwn gR rw_26, rosOwn gII ((flatR rw_26)), rosOwn gI rw_19]) fr 2 rfl
            have fr : Fr H _ ([(p_25, (.lst (List.map rref rw_26) : HO)), (D_1, (.lst (List.map rref rw_19) : HO))] ++ List.flatten [rosOwn gII ((flatR rw_26)), rosOwn gI rw_19, rosOwn gR rw_26]) := Fr.tup (pre := [(p_25, (.lst (List.map rref rw_26) : HO)), (D_1, (.lst (List.map rref rw_19) : HO))]) (ts := [rosOwn gI rw_19, rosOwn gR rw_26, rosOwn gII ((flatR rw_26))]) fr 2 rfl
            have fr : Fr H _ ([(p_25, (.lst (List.map rref rw_26) : HO)), (D_1, (.lst (List.map rref rw_19) : HO))] ++ List.flatten [rosOwn gR rw_26, rosOwn gII ((flatR rw_26)), rosOwn gI rw_19]) := Fr.tup (pre := [(p_25, (.lst (List.map rref rw_26) : HO)), (D_1, (.lst (List.map rref rw_19) : HO))]) (ts := [rosOwn gII ((flatR rw_26)), rosOwn gI rw_19, rosOwn gR rw_26]) fr 2 rfl
            refine ⟨_, _, rfl, fr⟩
          · rintro i σ H1 hi ⟨y_46, y_47, rfl, fr⟩
            exact ⟨(fr.same _ _ (hr_table _ (List.mem_of_getElem? hy_43))), (Fr.rmem (pre := [(p_25, (.lst (List.map rref rw_26) : HO)), (D_1, (.lst (List.map rref rw_19) : HO))]) (ts := [rosOwn gR rw_26, rosOwn gII ((flatR rw_26)), rosOwn gI rw_19]) fr 0 rfl (List.mem_of_getElem? hz_44))⟩
          · rintro i_48 x_50 s_53 H_51 H_52 hi_49 ⟨y_46, y_47, rfl, fr⟩ ⟨T_54, y_55, z_56, rfl, nT_57, rfl, hy_58, hz_59⟩
            have fr := fr.tmp (o := .tup [(V.int y_55), (V.ref z_56.1)]) nT_57
            refine ⟨_, _, rfl, (SqT.of upd_same), rfl, _, _, rfl, _, _, rfl, rfl, ?_⟩
            have hnb := hrb _ (List.mem_of_getElem? hy_58)
            have hpt := shr_at (c := []) hmade hy_58 hz_59
            have hfn := shr_frn (x := y_55) pre0.1
            have hfb := shr_bd pre0.1 pre0.2 hnb
            rw [← hpt] at hfn hfb
            refine ⟨_, rfl, _, rfl, _, rfl, z_56.1, z_56.2.1, z_56.2.2, y_55, whole, rfl, (Fr.rmem (pre := [(p_25, (.lst (List.map rref rw_26) : HO)), (D_1, (.lst (List.map rref rw_19) : HO))]) (ts := [rosOwn gR rw_26, rosOwn gII ((flatR rw_26)), rosOwn gI rw_19]) fr 1 rfl (tri_mem hz_44 hz_59)), ?_, ?_, ?_, fun H_60 is_61 hp_63 sm_62 => ?_⟩
            · exact hfn
            · exact hfb
            · exact ⟨hnb, pre0.2⟩
            have fr : Fr H _ ([(p_25, (.lst (List.map rref rw_26) : HO)), (D_1, (.lst (List.map rref rw_19) : HO))] ++ List.flatten [rosOwn gR rw_26, rosOwn gII ((flatR rw_26)), rosOwn gI rw_19]) := fr.call sm_62
            subst hp_63
            refine ⟨_, rfl, fun _ => ?_, (fun h => nomatch h)⟩
            refine iteF ?_
            have fr : Fr H _ ([(p_25, (.lst (List.map rref rw_26) : HO)), (D_1, (.lst (List.map rref rw_19) : HO))] ++ List.flatten [rosOwn gI rw_19, rosOwn gR rw_26, rosOwn gII ((flatR rw_26))]) := Fr.tup (pre := [(p_25, (.lst (List.map rref rw_26) : HO)), (D_1, (.lst (List.map rref rw_19) : HO))]) (ts := [rosOwn gR rw_26, rosOwn gII ((flatR rw_26)), rosOwn gI rw_19]) fr 2 rfl
            have fr : Fr H _ ([(p_25, (.lst (List.map rref rw_26) : HO)), (D_1, (.lst (List.map rref rw_19) : HO))] ++ List.flatten [rosOwn gII ((flatR rw_26)), rosOwn gI rw_19, rosOwn gR rw_26]) := Fr.tup (pre := [(p_25, (.lst (List.map rref rw_26) : HO)), (D_1, (.lst (List.map rref rw_19) : HO))]) (ts := [rosOwn gI rw_19, rosOwn gR rw_26, rosOwn gII ((flatR rw_26))]) fr 2 rfl
            have fr : Fr H _ ([(p_25, (.lst (List.map rref rw_26) : HO)), (D_1, (.lst (List.map rref rw_19) : HO))] ++ List.flatten [rosOwn gR rw_26, rosOwn gII ((flatR rw_26)), rosOwn gI rw_19]) := Fr.tup (pre := [(p_25, (.lst (List.map rref rw_26) : HO)), (D_1, (.lst (List.map rref rw_19) : HO))]) (ts := [rosOwn gII ((flatR rw_26)), rosOwn gI rw_19, rosOwn gR rw_26]) fr 2 rfl
            refine ⟨_, _, rfl, fr⟩
          rintro s_65 H_64 ⟨y_46, y_47, rfl, fr⟩
          have fr : Fr H _ ([(p_25, (.lst (List.map rref rw_26) : HO)), (D_1, (.lst (List.map rref rw_19) : HO))] ++ List.flatten [rosOwn gI rw_19, rosOwn gR rw_26, rosOwn gII ((flatR rw_26))]) := Fr.tup (pre := [(p_25, (.lst (List.map rref rw_26) : HO)), (D_1, (.lst (List.map rref rw_19) : HO))]) (ts := [rosOwn gR rw_26, rosOwn gII ((flatR rw_26)), rosOwn gI rw_19]) fr 2 rfl
          have fr : Fr H _ ([(p_25, (.lst (List.map rref rw_26) : HO)), (D_1, (.lst (List.map rref rw_19) : HO))] ++ List.flatten [rosOwn gII ((flatR rw_26)), rosOwn gI rw_19, rosOwn gR rw_26]) := Fr.tup (pre := [(p_25, (.lst (List.map rref rw_26) : HO)), (D_1, (.lst (List.map rref rw_19) : HO))]) (ts := [rosOwn gI rw_19, rosOwn gR rw_26, rosOwn gII ((flatR rw_26))]) fr 2 rfl
          have fr : Fr H _ ([(p_25, (.lst (List.map rref rw_26) : HO)), (D_1, (.lst (List.map rref rw_19) : HO))] ++ List.flatten [rosOwn gR rw_26, rosOwn gII ((flatR rw_26)), rosOwn gI rw_19]) := Fr.tup (pre := [(p_25, (.lst (List.map rref rw_26) : HO)), (D_1, (.lst (List.map rref rw_19) : HO))]) (ts := [rosOwn gII ((flatR rw_26)), rosOwn gI rw_19, rosOwn gR rw_26]) fr 2 rfl
          refine ⟨_, _, _, _, rfl, fr⟩
      rintro s_67 H_66 ⟨y_29, y_30, y_31, y_32, rfl, fr⟩
      exact q _ true (by rfl) fr.same
def sp_law_table (K : PySem.W.Frag) : Sp := fun vs H Q _ => ∃ (size : Int) (cell : Int), vs = [V.int size, V.int cell] ∧ (1 ≤ size ∧ size ≤ 10) ∧ (∀ (H1 : Hp) (rA : Addr) (rows : List (RO (List Int))) (res : List (List Int)), (BdT 300 res) → (res.length ≤ 10 ∧ ∀ r ∈ res, r.length ≤ 10) → TabN H H1 gI rA rows res → Same H H1 → Q (V.ref rA) H1)
theorem sc_law_table : FnScope ["_law_size", "_law_cell", "_law_rows", "_law_i", "_law_row", "_law_j"] ["_law_size", "_law_cell"] (defScope s_law_table) := ⟨rfl, rfl, rfl, by decide +kernel, rfl, by decide +kernel, by decide +kernel⟩
theorem ok_law_table (T : Txt K mg) : FnOk P w K mg base CX0 2 T.f_law_table T.fd_law_table ["_law_size", "_law_cell"] (sp_law_table K) := by
  refine T.F_law_table.ok sc_law_table (fun vs H Q E h => ?_) (fun cdv A outer s H vs Q E hr h => ?_)
  · obtain ⟨size, cell, rfl, _⟩ := h; rfl
  · obtain ⟨size, cell, rfl, pre0, q⟩ := h
    have fr := Fr.nil H
    refine ⟨_, (pss_cons (ps_set (i := 2) sc_law_table.nd rfl (Or.inl rfl) (pe_lst pa_nil))
          (pss_cons (ps_for PassesOwn.never rfl (pi_range1 (by rfl) T.m_range (pa_cons (pv 0) pa_nil)) (pg_name (i := 3) sc_law_table.nd rfl (Or.inl rfl)) (pss_cons (ps_set (i := 4) sc_law_table.nd rfl (Or.inl rfl) (pe_lst pa_nil))
          (pss_cons (ps_for PassesOwn.never rfl (pi_range1 (by rfl) T.m_range (pa_cons (pv 0) pa_nil)) (pg_name (i := 5) sc_law_table.nd rfl (Or.inl rfl)) (pss_cons (ps_expr (pe_bmK (K := K) (pe_bm PySem.F.plainAttrs_list PySem.F.slot_list_append PySem.F.type_list_append mt_append (pv 4) (pa_cons (pe_call (ok_law_number T) (hr.mono (by decide)) (by rfl) T.g_law_number T.F_law_number.kp T.b_law_number .nil pass0 (pa_cons (pe_op op_add (pe_op op_add (pv 1) (pe_op op_mul pe_int (pv 3))) (pe_op op_mul (pv 5) (pv 5))) pa_nil)) pa_nil))))
          (pss_one (ps_set (i := 1) sc_law_table.nd rfl (Or.inl rfl) (pe_op op_add (pe_op op_fdiv (pv 1) pe_int) (pv 3))))))
          (pss_one (ps_expr (pe_bmK (K := K) (pe_bm PySem.F.plainAttrs_list PySem.F.slot_list_append PySem.F.type_list_append mt_append (pv 2) (pa_cons (pv 4) pa_nil))))))))
          (pss_one (ps_ret (pv 2))))), ?_⟩
    refine ⟨(Evl.sz_of (show 0 ≤ 100000 by decide)), fun l_1 nl_2 => ?_⟩
    have fr : Fr H _ [(l_1, (.lst [] : HO))] := fr.new nl_2
    refine ⟨_, rfl, _, rfl, ?_, ?_, ?_⟩
    · walk_at "side"
    · walk_at "side"
    refine for_it (walkR (n := (Int.toNat size))) (fun (i : Nat) σ H1 => ∃ (cell_3 : Int) (r_law_rows_4 : List (RO (List Int))) (rows_5 : List (List Int)) (y_6 : Option V) (y_7 : Option V) (y_8 : Option V), σ = [some (V.int size), some (V.int cell_3), some (V.ref l_1), y_6, y_7, y_8] ∧ Fr H H1 ([(l_1, (.lst (List.map rref r_law_rows_4) : HO))] ++ List.flatten [rosOwn gI r_law_rows_4]) ∧ (r_law_rows_4.map (·.2) = rows_5) ∧ (BdT 300 rows_5) ∧ (rows_5.length = i) ∧ (∀ r ∈ rows_5, r.length ≤ 10)) ?_ ?_ ?_ ?_
    · have fr : Fr H _ ([(l_1, (.lst [] : HO))] ++ List.flatten [rosOwn gI ([])]) := fr
      refine ⟨cell, [], [], _, _, _, rfl, fr, ?_, ?_, ?_, ?_⟩
      · exact rfl
      · exact fun _ h => nomatch h
      · walk_at "inv"
      · exact fun _ h => nomatch h
    · rintro i σ H1 hi ⟨cell_3, r_law_rows_4, rows_5, y_6, y_7, y_8, rfl, fr, hC__law_rows, hb, hl, hrl⟩
      exact trivial
    · rintro i_9 x_11 s_14 H_12 H_13 hi_10 ⟨cell_3, r_law_rows_4, rows_5, y_6, y_7, y_8, rfl, fr, hC__law_rows, hb, hl, hrl⟩ ⟨rfl, rfl⟩
      refine ⟨(Evl.sz_of (show 0 ≤ 100000 by decide)), fun l_15 nl_16 => ?_⟩
      have fr : Fr H _ ([(l_15, (.lst [] : HO)), (l_1, (.lst (List.map rref r_law_rows_4) : HO))] ++ List.flatten [rosOwn gI r_law_rows_4]) := fr.new nl_16
      have fr : Fr H _ ([(l_15, (.lst (List.map V.int ([])) : HO)), (l_1, (.lst (List.map rref r_law_rows_4) : HO))] ++ List.flatten [rosOwn gI r_law_rows_4]) := fr
      refine ⟨_, rfl, _, rfl, ?_, ?_, ?_⟩
      · walk_at "side"
      · walk_at "side"
      refine for_it (walkR (n := (Int.toNat size))) (fun (i : Nat) σ H1 => ∃ (cell_17 : Int) (row_18 : List Int) (y_19 : Option V), σ = [some (V.int size), some (V.int cell_17), some (V.ref l_1), some (V.int ((i_9 : Int))), some (V.ref l_15), y_19] ∧ Fr H H1 ([(l_15, (.lst (List.map V.int row_18) : HO)), (l_1, (.lst (List.map rref r_law_rows_4) : HO))] ++ List.flatten [rosOwn gI r_law_rows_4]) ∧ (BdR 300 row_18) ∧ (row_18.length = i)) ?_ ?_ ?_ ?_
      · refine ⟨cell_3, [], _, rfl, fr, ?_, ?_⟩
        · exact fun _ h => nomatch h
        · walk_at "inv"
      · rintro i σ H1 hi ⟨cell_17, row_18, y_19, rfl, fr, hq, hn⟩
        exact trivial
      · rintro i_20 x_22 s_25 H_23 H_24 hi_21 ⟨cell_17, row_18, y_19, rfl, fr, hq, hn⟩ ⟨rfl, rfl⟩
        refine ⟨_, rfl, (.inl ⟨rfl, _, (SqL.of fr.at0)⟩), _, rfl, _, rfl, _, _, rfl, rfl, (.inl (by decide)), _, _, rfl, rfl, _, rfl, _, rfl, _, _, rfl, rfl, ?_, _, _, rfl, rfl, (((cell_17 + (7 * (i_9 : Int))) + ((i_20 : Int) * (i_20 : Int)))), rfl, fun H_26 number_27 hp_29 sm_28 => ?_⟩
        · walk_at "mul"
        have fr : Fr H _ ([(l_15, (.lst (List.map V.int row_18) : HO)), (l_1, (.lst (List.map rref r_law_rows_4) : HO))] ++ List.flatten [rosOwn gI r_law_rows_4]) := fr.call sm_28
        refine ⟨_, _, _, rfl, rfl, fr.at0, ?_, ?_⟩
        · walk_at "size"
        have fr : Fr H _ ([(l_15, (.lst (List.map V.int ((row_18 ++ [number_27]))) : HO)), (l_1, (.lst (List.map rref r_law_rows_4) : HO))] ++ List.flatten [rosOwn gI r_law_rows_4]) := Fr.wrk fr 0 rfl (lst_app V.int _ _)
        refine ⟨_, rfl, _, _, rfl, rfl, ⟨by decide, by decide⟩, _, rfl, _, _, rfl, rfl, ?_⟩
        refine ⟨((cell_17 / 11) + (i_9 : Int)), (row_18 ++ [number_27]), _, rfl, fr, ?_, ?_⟩
        · intro x hx; rcases List.mem_append.mp hx with hx | hx; exact hq x hx; rw [List.mem_singleton.mp hx]; assumption
        · rw [List.length_append]; simp; omega
      rintro s_31 H_30 ⟨cell_17, row_18, y_19, rfl, fr, hq, hn⟩
      refine ⟨_, rfl, (.inl ⟨rfl, _, (SqL.of fr.at1)⟩), _, rfl, _, _, _, rfl, rfl, fr.at1, ?_, ?_⟩
      · rw [len_rows hC__law_rows]; exact Evl.sz_lt (by omega)
      have fr : Fr H _ ([(l_15, (.lst (List.map V.int row_18) : HO)), (l_1, (.lst (List.map rref ((r_law_rows_4 ++ [(l_15, row_18)]))) : HO))] ++ List.flatten [rosOwn gI r_law_rows_4]) := Fr.wrk fr 1 rfl (lst_rref_app (rows := r_law_rows_4) (x := row_18))
      have fr : Fr H _ ([(l_1, (.lst (List.map rref ((r_law_rows_4 ++ [(l_15, row_18)]))) : HO))] ++ List.flatten [rosOwn gI ((r_law_rows_4 ++ [(l_15, row_18)]))]) := Fr.radd (g := gI) (pre := [(l_1, (.lst (List.map rref ((r_law_rows_4 ++ [(l_15, row_18)]))) : HO))]) (ts := []) (rows := r_law_rows_4) (x := row_18) fr
      refine ⟨cell_17, (r_law_rows_4 ++ [(l_15, row_18)]), (rows_5 ++ [row_18]), _, _, _, rfl, fr, ?_, ?_, ?_, ?_⟩
      · exact (snd_app (p := l_15) (x := row_18) hC__law_rows)
      · intro r hr; rcases List.mem_append.mp hr with hr | hr; exact hb r hr; rw [List.mem_singleton.mp hr]; exact hq
      · rw [List.length_append]; simp; omega
      · intro r hr; rcases List.mem_append.mp hr with hr | hr; exact hrl r hr; rw [List.mem_singleton.mp hr]; omega
    rintro s_33 H_32 ⟨cell_3, r_law_rows_4, rows_5, y_6, y_7, y_8, rfl, fr, hC__law_rows, hb, hl, hrl⟩
    refine ⟨_, rfl, ?_⟩
    exact q _ _ _ rows_5 (by exact hb) (by exact ⟨by omega, hrl⟩) (Fr.tabback (g := gI) (pre := []) (ts := []) (rows := r_law_rows_4) fr hC__law_rows) fr.same
def sp_law (K : PySem.W.Frag) : Sp := fun vs H Q _ => ∃ (a_script : Addr) (script : List Int), vs = [V.ref a_script] ∧ SqL K H a_script (List.map V.int script) ∧ (script.length ≤ 63) ∧ (∀ (H1 : Hp) (res : Bool), (res = true) → Same H H1 → Q (V.bl res) H1)
theorem sc_law : FnScope ["_law_script", "_law_k", "_law_cell", "_law_other", "_law_top", "_law_bottom", "_law_more", "_law_table_here", "_law_whole_here"] ["_law_script"] (defScope s_law) := ⟨rfl, rfl, rfl, by decide +kernel, rfl, by decide +kernel, by decide +kernel⟩
theorem ok_law (T : Txt K mg) : FnOk P w K mg base CX0 5 T.f_law T.fd_law ["_law_script"] (sp_law K) := by
  refine T.F_law.ok sc_law (fun vs H Q E h => ?_) (fun cdv A outer s H vs Q E hr h => ?_)
  · obtain ⟨a_script, script, rfl, _⟩ := h; rfl
  · obtain ⟨a_script, script, rfl, h_script, pre0, q⟩ := h
    have fr := Fr.nil H
    refine ⟨_, (pss_cons (ps_for PassesOwn.never rfl (pi_range3 (by rfl) T.m_range (pa_cons pe_int (pa_cons (pe_op op_add (pe_callB (call_minI rfl) (by rfl) T.m_min (by decide +kernel) (pa_cons pe_int (pa_cons (pe_callB (show CallR _ _ (rLenL K) from call_lenL) (by rfl) T.m_len (by decide +kernel) (pa_cons (pv 0) pa_nil)) pa_nil))) pe_int) (pa_cons pe_int pa_nil)))) (pg_name (i := 1) sc_law.nd rfl (Or.inl rfl)) (pss_cons (ps_set (i := 2) sc_law.nd rfl (Or.inl rfl) (pe_call (ok_law_big T) (hr.mono (by decide)) (by rfl) T.g_law_big T.F_law_big.kp T.b_law_big .nil pass0 (pa_cons (pv 0) (pa_cons (pv 1) pa_nil))))
          (pss_cons (ps_set (i := 3) sc_law.nd rfl (Or.inl rfl) (pe_call (ok_law_big T) (hr.mono (by decide)) (by rfl) T.g_law_big T.F_law_big.kp T.b_law_big .nil pass0 (pa_cons (pv 0) (pa_cons (pe_op op_add (pv 1) pe_int) pa_nil))))
          (pss_cons (ps_set (i := 4) sc_law.nd rfl (Or.inl rfl) (pe_call (ok_law_number T) (hr.mono (by decide)) (by rfl) T.g_law_number T.F_law_number.kp T.b_law_number .nil pass0 (pa_cons (pv 2) pa_nil)))
          (pss_cons (ps_set (i := 5) sc_law.nd rfl (Or.inl rfl) (pe_call (ok_law_number T) (hr.mono (by decide)) (by rfl) T.g_law_number T.F_law_number.kp T.b_law_number .nil pass0 (pa_cons (pv 3) pa_nil)))
          (pss_cut (ps_if (pt_cmpR op_eqS (pv 5) pe_int (nomark _)) (pss_one (ps_set (i := 5) sc_law.nd rfl (Or.inl rfl) pe_int)) pss_nil)
          (pss_cut (ps_if (pt_cmpR op_eqS (pe_op op_mod (pv 2) pe_int) pe_int (nomark _)) (pss_cons (ps_set (i := 6) sc_law.nd rfl (Or.inl rfl) (pe_op op_add pe_int (pe_op op_mod (pe_op op_fdiv (pv 3) pe_int) (pe_op op_powL pe_int pe_int))))
          (pss_cons (ps_set (i := 4) sc_law.nd rfl (Or.inl rfl) (pe_op op_mulW (pv 4) (pv 6)))
          (pss_one (ps_set (i := 5) sc_law.nd rfl (Or.inl rfl) (pe_op op_mulW (pv 5) (pv 6)))))) pss_nil)
          (pss_cons (ps_if (pt_not (pt_valS (pe_call (ok_law_is T) (hr.mono (by decide)) (by rfl) T.g_law_is T.F_law_is.kp T.b_law_is .nil pass0 (pa_cons (pe_call (ok_fraction T) (hr.mono (by decide)) (by rfl) T.g_fraction T.F_fraction.kp T.b_fraction .nil pass0 (pa_cons (pv 4) (pa_cons (pv 5) pa_nil))) (pa_cons (pv 4) (pa_cons (pv 5) pa_nil)))))) (pss_one (ps_ret pe_bl)) pss_nil)
          (pss_cons (ps_set (i := 7) sc_law.nd rfl (Or.inl rfl) (pe_call (ok_law_table T) (hr.mono (by decide)) (by rfl) T.g_law_table T.F_law_table.kp T.b_law_table .nil pass0 (pa_cons (pe_op op_add pe_int (pe_op op_mod (pe_op op_fdiv (pv 2) pe_int) pe_int)) (pa_cons (pv 3) pa_nil))))
          (pss_cons (ps_set (i := 8) sc_law.nd rfl (Or.inl rfl) (pe_op op_add pe_int (pe_callB call_absI (by rfl) T.m_abs (by decide +kernel) (pa_cons (pe_call (ok_law_number T) (hr.mono (by decide)) (by rfl) T.g_law_number T.F_law_number.kp T.b_law_number .nil pass0 (pa_cons (pe_op op_fdiv (pv 2) pe_int) pa_nil)) pa_nil))))
          (pss_cons (ps_if (pt_not (pt_valS (pe_call (ok_law_shared T) (hr.mono (by decide)) (by rfl) T.g_law_shared T.F_law_shared.kp T.b_law_shared .nil pass0 (pa_cons (pv 7) (pa_cons (pv 8) pa_nil))))) (pss_one (ps_ret pe_bl)) pss_nil)
          (pss_cons (ps_expr (pe_bm0 PySem.F.plainAttrs_list PySem.F.slot_list_clear PySem.F.type_list_clear mt_clear (pe_call (ok_shares T) (hr.mono (by decide)) (by rfl) T.g_shares T.F_shares.kp T.b_shares .nil pass0 (pa_cons (pv 7) (pa_cons (pv 8) pa_nil)))))
          (pss_one (ps_if (pt_not (pt_valS (pe_call (ok_law_shared T) (hr.mono (by decide)) (by rfl) T.g_law_shared T.F_law_shared.kp T.b_law_shared .nil pass0 (pa_cons (pv 7) (pa_cons (pv 8) pa_nil))))) (pss_one (ps_ret pe_bl)) pss_nil))))))))))))))
          (pss_one (ps_ret pe_bl))), ?_⟩
    refine ⟨_, rfl, _, _, _, rfl, (fr.same.seq h_script), (List.length_map _), _, _, rfl, _, _, rfl, rfl, _, _, _, (Int.toNat ((((min 12 ((script.length : Int))) + 1) + 1) / 2)), rfl, (rgc2 ?_ ?_), ?_⟩
    · walk_at "side"
    · walk_at "side"
    refine for_it (walk_rangeC (lo := 0) (c := 2) (n := (Int.toNat ((((min 12 ((script.length : Int))) + 1) + 1) / 2)))) (fun (i : Nat) σ H1 => ∃ (y_1 : Option V) (y_2 : Option V) (y_3 : Option V) (y_4 : Option V) (y_5 : Option V) (y_6 : Option V) (y_7 : Option V) (y_8 : Option V), σ = [some (V.ref a_script), y_1, y_2, y_3, y_4, y_5, y_6, y_7, y_8] ∧ Fr H H1 []) ?_ ?_ ?_ ?_
    · refine ⟨_, _, _, _, _, _, _, _, rfl, fr⟩
    · rintro i σ H1 hi ⟨y_1, y_2, y_3, y_4, y_5, y_6, y_7, y_8, rfl, fr⟩
      exact trivial
    · rintro i_9 x_11 s_14 H_12 H_13 hi_10 ⟨y_1, y_2, y_3, y_4, y_5, y_6, y_7, y_8, rfl, fr⟩ ⟨rfl, rfl⟩
      refine ⟨_, rfl, _, rfl, a_script, script, ((0 + (i_9 : Int) * 2)), rfl, (fr.same.seq h_script), ?_, fun H_15 big_16 hp_18 sm_17 => ?_⟩
      · omega
      have fr : Fr H _ [] := fr.call sm_17
      refine ⟨_, rfl, _, rfl, _, _, rfl, rfl, a_script, script, (((0 + (i_9 : Int) * 2) + 1)), rfl, (fr.same.seq h_script), ?_, fun H_19 big_20 hp_22 sm_21 => ?_⟩
      · omega
      have fr : Fr H _ [] := fr.call sm_21
      refine ⟨_, rfl, big_16, rfl, fun H_23 number_24 hp_26 sm_25 => ?_⟩
      have fr : Fr H _ [] := fr.call sm_25
      have htb := hp_26
      refine ⟨_, rfl, big_20, rfl, fun H_27 number_28 hp_30 sm_29 => ?_⟩
      have fr : Fr H _ [] := fr.call sm_29
      have hob := hp_30
      refine ⟨fun σ H1 => ∃ (bottom_31 : Int), σ = [some (V.ref a_script), some (V.int ((0 + (i_9 : Int) * 2))), some (V.int big_16), some (V.int big_20), some (V.int number_24), some (V.int bottom_31), y_6, y_7, y_8] ∧ Fr H H1 [] ∧ (bottom_31 ≠ 0 ∧ Bd 300 bottom_31), ?_, ?_⟩
      · refine ⟨_, rfl, _, _, rfl, rfl, ?_, ?_⟩
        · intro h32
          refine ⟨_, rfl, ?_⟩
          refine iteT ?_
          refine ⟨1, rfl, fr, ?_⟩
          · first | exact ⟨by decide, ⟨by decide⟩⟩ | exact ⟨by assumption, by assumption⟩
        · intro h32
          refine ⟨_, rfl, ?_⟩
          refine iteF ?_
          refine ⟨number_28, rfl, fr, ?_⟩
          · first | exact ⟨by decide, ⟨by decide⟩⟩ | exact ⟨by assumption, by assumption⟩
      rintro s_34 H_33 ⟨bottom_31, rfl, fr, hb⟩
      refine ⟨fun σ H1 => ∃ (top_35 : Int) (bottom_36 : Int) (y_37 : Option V), σ = [some (V.ref a_script), some (V.int ((0 + (i_9 : Int) * 2))), some (V.int big_16), some (V.int big_20), some (V.int top_35), some (V.int bottom_36), y_37, y_7, y_8] ∧ Fr H H1 [] ∧ (bottom_36 ≠ 0 ∧ Bd 900 top_35 ∧ Bd 900 bottom_36), ?_, ?_⟩
      · refine ⟨_, rfl, _, _, rfl, rfl, (show (0 : Int) < _ by decide), _, _, rfl, rfl, ?_, ?_⟩
        · intro h38
          refine ⟨_, rfl, ?_⟩
          refine iteT ?_
          refine ⟨_, rfl, _, _, rfl, rfl, ⟨by decide, by decide⟩, _, _, 100000000000000000000, rfl, rfl, ⟨by decide, by decide, by decide⟩, (by decide), _, _, rfl, rfl, (show (0 : Int) < _ by decide), _, _, rfl, rfl, ?_⟩
          have hmb : Bd 300 ((1 + ((big_20 / 7) % 100000000000000000000))) := ⟨by omega⟩
          refine ⟨_, rfl, _, rfl, _, _, rfl, rfl, ?_, ?_⟩
          · exact cmw htb hmb (by decide)
          refine ⟨_, rfl, _, rfl, _, _, rfl, rfl, ?_, ?_⟩
          · exact cmw hb.2 hmb (by decide)
          refine ⟨(number_24 * (1 + ((big_20 / 7) % 100000000000000000000))), (bottom_31 * (1 + ((big_20 / 7) % 100000000000000000000))), _, rfl, fr, ?_⟩
          · first | exact ⟨Int.mul_ne_zero hb.1 (by omega), (htb.mul hmb).mono (by decide), (hb.2.mul hmb).mono (by decide)⟩ | exact ⟨hb.1, htb.mono (by decide), hb.2.mono (by decide)⟩
        · intro h38
          refine ⟨_, rfl, ?_⟩
          refine iteF ?_
          refine ⟨number_24, bottom_31, _, rfl, fr, ?_⟩
          · first | exact ⟨Int.mul_ne_zero hb.1 (by omega), (htb.mul hmb).mono (by decide), (hb.2.mul hmb).mono (by decide)⟩ | exact ⟨hb.1, htb.mono (by decide), hb.2.mono (by decide)⟩
      rintro s_40 H_39 ⟨top_35, bottom_36, y_37, rfl, fr, hb2⟩
      refine ⟨_, rfl, _, rfl, top_35, bottom_36, rfl, ?_, ?_, fun H_41 p_46 fraction_49 fraction_50 hp_44 hp_45 sm_43 np_47 ep_48 => ?_⟩
      · exact hb2.1
      · exact hb2.2
      have fr : Fr H _ [(p_46, (.tup [(V.int fraction_49), (V.int fraction_50)] : HO))] := fr.cnew sm_43 np_47 ep_48
      subst hp_44
      subst hp_45
      refine ⟨_, rfl, _, rfl, p_46, (((top_35.fdiv (partN top_35 bottom_36)))), (((bottom_36.fdiv (partN top_35 bottom_36)))), top_35, bottom_36, rfl, fr.at0, ?_, ?_, ?_, fun H_51 is_52 hp_54 sm_53 => ?_⟩
      · exact frn_of hb2.1
      · exact ⟨bd_fdiv hb2.1 hb2.2.1 (Int.gcd_dvd_left ..), bd_fdiv2 hb2.1 hb2.2.2⟩
      · exact hb2.2
      have fr : Fr H _ [(p_46, (.tup [(V.int (((top_35.fdiv (partN top_35 bottom_36))))), (V.int (((bottom_36.fdiv (partN top_35 bottom_36)))))] : HO))] := fr.call sm_53
      subst hp_54
      refine ⟨_, rfl, fun _ => ?_, (fun h => nomatch h)⟩
      refine iteF ?_
      have fr : Fr H _ [] := Fr.dk fr 0
      refine ⟨_, rfl, _, _, rfl, rfl, ⟨by decide, by decide⟩, _, _, rfl, rfl, (show (0 : Int) < _ by decide), _, _, rfl, rfl, _, rfl, ((1 + ((big_16 / 5) % 3))), big_20, rfl, ?_, fun H_55 p_60 rw_61 table_56 hp_58 hp_59 tn_62 sm_57 => ?_⟩
      · omega
      have fr : Fr H _ ([(p_60, (.lst (List.map rref rw_61) : HO))] ++ List.flatten [rosOwn gI rw_61]) := Fr.ctab (pre := []) (ts := []) fr sm_57 tn_62
      have htt := hp_58
      have htl := hp_59
      have htt9 : BdT 900 table_56 := fun r hr x hx => (htt r hr x hx).mono (by decide)
      refine ⟨_, rfl, _, _, rfl, rfl, ⟨by decide, by decide⟩, ((big_16 / 2)), rfl, fun H_63 number_64 hp_66 sm_65 => ?_⟩
      have fr : Fr H _ ([(p_60, (.lst (List.map rref rw_61) : HO))] ++ List.flatten [rosOwn gI rw_61]) := fr.call sm_65
      have hwb := hp_66
      refine ⟨_, rfl, _, _, rfl, rfl, ?_⟩
      have hwh : ((1 + (number_64.natAbs : Int))) ≠ 0 ∧ Bd 900 ((1 + (number_64.natAbs : Int))) := ⟨by omega, ⟨by have := hwb.lt; omega⟩⟩
      refine ⟨_, rfl, _, rfl, p_60, table_56, ((1 + (number_64.natAbs : Int))), rfl, (tab_lit (rows := rw_61) (fun z hz => Fr.rmem (pre := [(p_60, (.lst (List.map rref rw_61) : HO))]) (ts := [rosOwn gI rw_61]) fr 0 rfl hz) fr.at0 tn_62.c), ?_, ?_, ?_, fun H_67 shared_68 hp_70 sm_69 => ?_⟩
      · exact hwh
      · exact htt9
      · exact htl
      have fr : Fr H _ ([(p_60, (.lst (List.map rref rw_61) : HO))] ++ List.flatten [rosOwn gI rw_61]) := fr.call sm_69
      subst hp_70
      refine ⟨_, rfl, fun _ => ?_, (fun h => nomatch h)⟩
      refine iteF ?_
      refine ⟨_, rfl, _, rfl, p_60, table_56, ((1 + (number_64.natAbs : Int))), rfl, (tab_lit (rows := rw_61) (fun z hz => Fr.rmem (pre := [(p_60, (.lst (List.map rref rw_61) : HO))]) (ts := [rosOwn gI rw_61]) fr 0 rfl hz) fr.at0 tn_62.c), ?_, ?_, ?_, fun H_71 p_75 rw_76 shares_72 hp_74 tn_77 sm_73 => ?_⟩
      · exact hwh
      · exact htt9
      · exact htl
      have fr : Fr H _ ([(p_75, (.lst (List.map rref rw_76) : HO)), (p_60, (.lst (List.map rref rw_61) : HO))] ++ List.flatten [rosOwn gR rw_76, rosOwn gII ((flatR rw_76)), rosOwn gI rw_61]) := Fr.ctri (pre := [(p_60, (.lst (List.map rref rw_61) : HO))]) (ts := [rosOwn gI rw_61]) fr sm_73 tn_77
      subst hp_74
      replace tn_77 : TriN _ _ p_75 rw_76 (((shrT ((1 + (number_64.natAbs : Int))) table_56))) := tn_77
      refine ⟨(.inl ⟨rfl, _, (SqL.of fr.at0)⟩), _, _, rfl, rfl, fr.at0, ?_⟩
      have fr : Fr H _ ([(p_75, (.lst [] : HO)), (p_60, (.lst (List.map rref rw_61) : HO))] ++ List.flatten [rosOwn gR rw_76, rosOwn gII ((flatR rw_76)), rosOwn gI rw_61]) := Fr.wrk fr 0 rfl rfl
      have fr : Fr H _ ([(p_75, (.lst [] : HO)), (p_60, (.lst (List.map rref rw_61) : HO))] ++ List.flatten [rosOwn gII ((flatR rw_76)), rosOwn gI rw_61]) := Fr.tdrop (pre := [(p_75, (.lst [] : HO)), (p_60, (.lst (List.map rref rw_61) : HO))]) (ts := [rosOwn gR rw_76, rosOwn gII ((flatR rw_76)), rosOwn gI rw_61]) fr 0 rfl
      have fr : Fr H _ ([(p_75, (.lst [] : HO)), (p_60, (.lst (List.map rref rw_61) : HO))] ++ List.flatten [rosOwn gI rw_61]) := Fr.tdrop (pre := [(p_75, (.lst [] : HO)), (p_60, (.lst (List.map rref rw_61) : HO))]) (ts := [rosOwn gII ((flatR rw_76)), rosOwn gI rw_61]) fr 0 rfl
      have fr : Fr H _ ([(p_60, (.lst (List.map rref rw_61) : HO))] ++ List.flatten [rosOwn gI rw_61]) := Fr.dk fr 0
      refine ⟨_, rfl, _, rfl, p_60, table_56, ((1 + (number_64.natAbs : Int))), rfl, (tab_lit (rows := rw_61) (fun z hz => Fr.rmem (pre := [(p_60, (.lst (List.map rref rw_61) : HO))]) (ts := [rosOwn gI rw_61]) fr 0 rfl hz) fr.at0 tn_62.c), ?_, ?_, ?_, fun H_78 shared_79 hp_81 sm_80 => ?_⟩
      · exact hwh
      · exact htt9
      · exact htl
      have fr : Fr H _ ([(p_60, (.lst (List.map rref rw_61) : HO))] ++ List.flatten [rosOwn gI rw_61]) := fr.call sm_80
      subst hp_81
      refine ⟨_, rfl, fun _ => ?_, (fun h => nomatch h)⟩
      refine iteF ?_
      have fr : Fr H _ [(p_60, (.lst (List.map rref rw_61) : HO))] := Fr.tdrop (pre := [(p_60, (.lst (List.map rref rw_61) : HO))]) (ts := [rosOwn gI rw_61]) fr 0 rfl
      have fr : Fr H _ [] := Fr.dk fr 0
      refine ⟨_, _, _, _, _, _, _, _, rfl, fr⟩
    rintro s_83 H_82 ⟨y_1, y_2, y_3, y_4, y_5, y_6, y_7, y_8, rfl, fr⟩
    exact q _ true (by rfl) fr.same
end
theorem all_mk {l : PySem.W.OpenLaw} {w : World} {K : PySem.W.Frag} {h : Heap} {mg : Str → Option Value} {fa : Addr} {flaw_big : Addr} {odlaw_big anlaw_big : Option Addr} {sllaw_big : Array (Option Value)} {oclaw_big kVlaw_big dclaw_big pmlaw_big cdlaw_big ctlaw_big : Value} {flaw_number : Addr} {odlaw_number anlaw_number : Option Addr} {sllaw_number : Array (Option Value)} {oclaw_number kVlaw_number dclaw_number pmlaw_number cdlaw_number ctlaw_number : Value} {flaw_table : Addr} {odlaw_table anlaw_table : Option Addr} {sllaw_table : Array (Option Value)} {oclaw_table kVlaw_table dclaw_table pmlaw_table cdlaw_table ctlaw_table : Value} {flaw_whole : Addr} {odlaw_whole anlaw_whole : Option Addr} {sllaw_whole : Array (Option Value)} {oclaw_whole kVlaw_whole dclaw_whole pmlaw_whole cdlaw_whole ctlaw_whole : Value} {flaw_common : Addr} {odlaw_common anlaw_common : Option Addr} {sllaw_common : Array (Option Value)} {oclaw_common kVlaw_common dclaw_common pmlaw_common cdlaw_common ctlaw_common : Value} {flaw_is : Addr} {odlaw_is anlaw_is : Option Addr} {sllaw_is : Array (Option Value)} {oclaw_is kVlaw_is dclaw_is pmlaw_is cdlaw_is ctlaw_is : Value} {fgreatest : Addr} {odgreatest angreatest : Option Addr} {slgreatest : Array (Option Value)} {ocgreatest kVgreatest dcgreatest pmgreatest cdgreatest ctgreatest : Value} {ffraction : Addr} {odfraction anfraction : Option Addr} {slfraction : Array (Option Value)} {ocfraction kVfraction dcfraction pmfraction cdfraction ctfraction : Value} {fshares : Addr} {odshares anshares : Option Addr} {slshares : Array (Option Value)} {ocshares kVshares dcshares pmshares cdshares ctshares : Value} {flaw_shared : Addr} {odlaw_shared anlaw_shared : Option Addr} {sllaw_shared : Array (Option Value)} {oclaw_shared kVlaw_shared dclaw_shared pmlaw_shared cdlaw_shared ctlaw_shared : Value} {flaw : Addr} {odlaw anlaw : Option Addr} {sllaw : Array (Option Value)} {oclaw kVlaw dclaw pmlaw cdlaw ctlaw : Value} (X : K.In h) (G : h.Ns mainGlobals mg) (hfa : mg "law" = some (.ref fa))
    (alaw_big : PySem.W.nsIn K mainGlobals "_law_big" = some (some (.ref flaw_big))) (llaw_big : K.lookup flaw_big = some ⟨oclaw_big, odlaw_big, .func (PySem.W.fnOf "_law_big" "_law_big" (defArgs s_law_big) (defBody s_law_big) (defScope s_law_big) .none kVlaw_big dclaw_big pmlaw_big anlaw_big cdlaw_big ctlaw_big), sllaw_big⟩) (claw_big : PySem.W.codeIn K cdlaw_big "_law_big" = true) (klaw_big : PySem.W.keepIn K (.ref flaw_big) = true)
    (alaw_number : PySem.W.nsIn K mainGlobals "_law_number" = some (some (.ref flaw_number))) (llaw_number : K.lookup flaw_number = some ⟨oclaw_number, odlaw_number, .func (PySem.W.fnOf "_law_number" "_law_number" (defArgs s_law_number) (defBody s_law_number) (defScope s_law_number) .none kVlaw_number dclaw_number pmlaw_number anlaw_number cdlaw_number ctlaw_number), sllaw_number⟩) (claw_number : PySem.W.codeIn K cdlaw_number "_law_number" = true) (klaw_number : PySem.W.keepIn K (.ref flaw_number) = true)
    (alaw_table : PySem.W.nsIn K mainGlobals "_law_table" = some (some (.ref flaw_table))) (llaw_table : K.lookup flaw_table = some ⟨oclaw_table, odlaw_table, .func (PySem.W.fnOf "_law_table" "_law_table" (defArgs s_law_table) (defBody s_law_table) (defScope s_law_table) .none kVlaw_table dclaw_table pmlaw_table anlaw_table cdlaw_table ctlaw_table), sllaw_table⟩) (claw_table : PySem.W.codeIn K cdlaw_table "_law_table" = true) (klaw_table : PySem.W.keepIn K (.ref flaw_table) = true)
    (alaw_whole : PySem.W.nsIn K mainGlobals "_law_whole" = some (some (.ref flaw_whole))) (llaw_whole : K.lookup flaw_whole = some ⟨oclaw_whole, odlaw_whole, .func (PySem.W.fnOf "_law_whole" "_law_whole" (defArgs s_law_whole) (defBody s_law_whole) (defScope s_law_whole) .none kVlaw_whole dclaw_whole pmlaw_whole anlaw_whole cdlaw_whole ctlaw_whole), sllaw_whole⟩) (claw_whole : PySem.W.codeIn K cdlaw_whole "_law_whole" = true) (klaw_whole : PySem.W.keepIn K (.ref flaw_whole) = true)
    (alaw_common : PySem.W.nsIn K mainGlobals "_law_common" = some (some (.ref flaw_common))) (llaw_common : K.lookup flaw_common = some ⟨oclaw_common, odlaw_common, .func (PySem.W.fnOf "_law_common" "_law_common" (defArgs s_law_common) (defBody s_law_common) (defScope s_law_common) .none kVlaw_common dclaw_common pmlaw_common anlaw_common cdlaw_common ctlaw_common), sllaw_common⟩) (claw_common : PySem.W.codeIn K cdlaw_common "_law_common" = true) (klaw_common : PySem.W.keepIn K (.ref flaw_common) = true)
    (alaw_is : PySem.W.nsIn K mainGlobals "_law_is" = some (some (.ref flaw_is))) (llaw_is : K.lookup flaw_is = some ⟨oclaw_is, odlaw_is, .func (PySem.W.fnOf "_law_is" "_law_is" (defArgs s_law_is) (defBody s_law_is) (defScope s_law_is) .none kVlaw_is dclaw_is pmlaw_is anlaw_is cdlaw_is ctlaw_is), sllaw_is⟩) (claw_is : PySem.W.codeIn K cdlaw_is "_law_is" = true) (klaw_is : PySem.W.keepIn K (.ref flaw_is) = true)
    (agreatest : PySem.W.nsIn K mainGlobals "greatest" = some (some (.ref fgreatest))) (lgreatest : K.lookup fgreatest = some ⟨ocgreatest, odgreatest, .func (PySem.W.fnOf "greatest" "greatest" (defArgs s_greatest) (defBody s_greatest) (defScope s_greatest) .none kVgreatest dcgreatest pmgreatest angreatest cdgreatest ctgreatest), slgreatest⟩) (cgreatest : PySem.W.codeIn K cdgreatest "greatest" = true) (kgreatest : PySem.W.keepIn K (.ref fgreatest) = true)
    (afraction : PySem.W.nsIn K mainGlobals "fraction" = some (some (.ref ffraction))) (lfraction : K.lookup ffraction = some ⟨ocfraction, odfraction, .func (PySem.W.fnOf "fraction" "fraction" (defArgs s_fraction) (defBody s_fraction) (defScope s_fraction) .none kVfraction dcfraction pmfraction anfraction cdfraction ctfraction), slfraction⟩) (cfraction : PySem.W.codeIn K cdfraction "fraction" = true) (kfraction : PySem.W.keepIn K (.ref ffraction) = true)
    (ashares : PySem.W.nsIn K mainGlobals "shares" = some (some (.ref fshares))) (lshares : K.lookup fshares = some ⟨ocshares, odshares, .func (PySem.W.fnOf "shares" "shares" (defArgs s_shares) (defBody s_shares) (defScope s_shares) .none kVshares dcshares pmshares anshares cdshares ctshares), slshares⟩) (cshares : PySem.W.codeIn K cdshares "shares" = true) (kshares : PySem.W.keepIn K (.ref fshares) = true)
    (alaw_shared : PySem.W.nsIn K mainGlobals "_law_shared" = some (some (.ref flaw_shared))) (llaw_shared : K.lookup flaw_shared = some ⟨oclaw_shared, odlaw_shared, .func (PySem.W.fnOf "_law_shared" "_law_shared" (defArgs s_law_shared) (defBody s_law_shared) (defScope s_law_shared) .none kVlaw_shared dclaw_shared pmlaw_shared anlaw_shared cdlaw_shared ctlaw_shared), sllaw_shared⟩) (claw_shared : PySem.W.codeIn K cdlaw_shared "_law_shared" = true) (klaw_shared : PySem.W.keepIn K (.ref flaw_shared) = true)
    (alaw : PySem.W.nsIn K mainGlobals "law" = some (some (.ref flaw))) (llaw : K.lookup flaw = some ⟨oclaw, odlaw, .func (PySem.W.fnOf "law" "law" (defArgs s_law) (defBody s_law) (defScope s_law) .none kVlaw dclaw pmlaw anlaw cdlaw ctlaw), sllaw⟩) (claw : PySem.W.codeIn K cdlaw "law" = true) (klaw : PySem.W.keepIn K (.ref flaw) = true)
    (z_abs : PySem.W.nsIn K mainGlobals "abs" = some none)
    (z_bool : PySem.W.nsIn K mainGlobals "bool" = some none)
    (z_int : PySem.W.nsIn K mainGlobals "int" = some none)
    (z_isinstance : PySem.W.nsIn K mainGlobals "isinstance" = some none)
    (z_len : PySem.W.nsIn K mainGlobals "len" = some none)
    (z_list : PySem.W.nsIn K mainGlobals "list" = some none)
    (z_min : PySem.W.nsIn K mainGlobals "min" = some none)
    (z_range : PySem.W.nsIn K mainGlobals "range" = some none)
    (z_tuple : PySem.W.nsIn K mainGlobals "tuple" = some none)
    (z_zip : PySem.W.nsIn K mainGlobals "zip" = some none) :
    ∃ fd : FuncData, (∀ (s : Shared) (v : Value), BindsTo s fd ⟨[v], []⟩ [("_law_script", v)]) ∧ ∀ base : Heap, K.In base → base.Ns mainGlobals mg → FnOk l.prog w K mg base CX0 5 fa fd ["_law_script"] (sp_law K) := by
  have e := hfa.symm.trans (PySem.W.mg_of X G alaw)
  cases e
  exact ⟨PySem.W.fnOf "law" "law" (defArgs s_law) (defBody s_law) (defScope s_law) .none kVlaw dclaw pmlaw anlaw cdlaw ctlaw, fun s v => .of_eq rfl, fun base _ _ => ok_law (P := l.prog) (w := w) (base := base) (K := K) (mg := mg) { f_law_big := flaw_big, fd_law_big := _, F_law_big := fun_mk (st := s_law_big) llaw_big claw_big klaw_big, g_law_big := PySem.W.mg_of X G alaw_big, b_law_big := ((fun_mk (st := s_law_big) llaw_big claw_big klaw_big).binds (ps := ["_law_script", "_law_k"]) (fun _ _ _ _ _ _ us hl => match us, hl with | [_, _], _ => rfl)), f_law_number := flaw_number, fd_law_number := _, F_law_number := fun_mk (st := s_law_number) llaw_number claw_number klaw_number, g_law_number := PySem.W.mg_of X G alaw_number, b_law_number := ((fun_mk (st := s_law_number) llaw_number claw_number klaw_number).binds (ps := ["_law_cell"]) (fun _ _ _ _ _ _ us hl => match us, hl with | [_], _ => rfl)), f_law_table := flaw_table, fd_law_table := _, F_law_table := fun_mk (st := s_law_table) llaw_table claw_table klaw_table, g_law_table := PySem.W.mg_of X G alaw_table, b_law_table := ((fun_mk (st := s_law_table) llaw_table claw_table klaw_table).binds (ps := ["_law_size", "_law_cell"]) (fun _ _ _ _ _ _ us hl => match us, hl with | [_, _], _ => rfl)), f_law_whole := flaw_whole, fd_law_whole := _, F_law_whole := fun_mk (st := s_law_whole) llaw_whole claw_whole klaw_whole, g_law_whole := PySem.W.mg_of X G alaw_whole, b_law_whole := ((fun_mk (st := s_law_whole) llaw_whole claw_whole klaw_whole).binds (ps := ["_law_found"]) (fun _ _ _ _ _ _ us hl => match us, hl with | [_], _ => rfl)), f_law_common := flaw_common, fd_law_common := _, F_law_common := fun_mk (st := s_law_common) llaw_common claw_common klaw_common, g_law_common := PySem.W.mg_of X G alaw_common, b_law_common := ((fun_mk (st := s_law_common) llaw_common claw_common klaw_common).binds (ps := ["_law_one", "_law_other"]) (fun _ _ _ _ _ _ us hl => match us, hl with | [_, _], _ => rfl)), f_law_is := flaw_is, fd_law_is := _, F_law_is := fun_mk (st := s_law_is) llaw_is claw_is klaw_is, g_law_is := PySem.W.mg_of X G alaw_is, b_law_is := ((fun_mk (st := s_law_is) llaw_is claw_is klaw_is).binds (ps := ["_law_found", "_law_top", "_law_bottom"]) (fun _ _ _ _ _ _ us hl => match us, hl with | [_, _, _], _ => rfl)), f_greatest := fgreatest, fd_greatest := _, F_greatest := fun_mk (st := s_greatest) lgreatest cgreatest kgreatest, g_greatest := PySem.W.mg_of X G agreatest, b_greatest := ((fun_mk (st := s_greatest) lgreatest cgreatest kgreatest).binds (ps := ["one", "other"]) (fun _ _ _ _ _ _ us hl => match us, hl with | [_, _], _ => rfl)), f_fraction := ffraction, fd_fraction := _, F_fraction := fun_mk (st := s_fraction) lfraction cfraction kfraction, g_fraction := PySem.W.mg_of X G afraction, b_fraction := ((fun_mk (st := s_fraction) lfraction cfraction kfraction).binds (ps := ["top", "bottom"]) (fun _ _ _ _ _ _ us hl => match us, hl with | [_, _], _ => rfl)), f_shares := fshares, fd_shares := _, F_shares := fun_mk (st := s_shares) lshares cshares kshares, g_shares := PySem.W.mg_of X G ashares, b_shares := ((fun_mk (st := s_shares) lshares cshares kshares).binds (ps := ["table", "whole"]) (fun _ _ _ _ _ _ us hl => match us, hl with | [_, _], _ => rfl)), f_law_shared := flaw_shared, fd_law_shared := _, F_law_shared := fun_mk (st := s_law_shared) llaw_shared claw_shared klaw_shared, g_law_shared := PySem.W.mg_of X G alaw_shared, b_law_shared := ((fun_mk (st := s_law_shared) llaw_shared claw_shared klaw_shared).binds (ps := ["_law_table_here", "_law_whole_here"]) (fun _ _ _ _ _ _ us hl => match us, hl with | [_, _], _ => rfl)), f_law := fa, fd_law := _, F_law := fun_mk (st := s_law) llaw claw klaw, g_law := PySem.W.mg_of X G alaw, b_law := ((fun_mk (st := s_law) llaw claw klaw).binds (ps := ["_law_script"]) (fun _ _ _ _ _ _ us hl => match us, hl with | [_], _ => rfl)), m_abs := PySem.W.mg_none_of X G z_abs, m_bool := PySem.W.mg_none_of X G z_bool, m_int := PySem.W.mg_none_of X G z_int, m_isinstance := PySem.W.mg_none_of X G z_isinstance, m_len := PySem.W.mg_none_of X G z_len, m_list := PySem.W.mg_none_of X G z_list, m_min := PySem.W.mg_none_of X G z_min, m_range := PySem.W.mg_none_of X G z_range, m_tuple := PySem.W.mg_none_of X G z_tuple, m_zip := PySem.W.mg_none_of X G z_zip }⟩
end Rc
open PySem PySem.W PyProof.Rows
set_option maxHeartbeats 0 in
theorem PySem.Challenge.cw_riftcarry_k65_fractions_and_shares_holds : PySem.Challenge.rw_riftcarry_k65_fractions_and_shares.Holds := by
  w_on; o_law; k_head; (case hw => w_witness2)
  k_fill
  refine L2.walk_of (l := PySem.Challenge.rw_riftcarry_k65_fractions_and_shares) (n := 63) (k := 5) (x := "_law_script") (CX := fun _ => L2.CX0) (sp := fun w => Rc.sp_law _) rfl (by decide) rfl ⟨rfl, by decide, by decide⟩ (fun w h Y => PySem.W.kIn_of Y) ?F (fun _ _ a ns hl _ hS => ⟨a, ns, rfl, hS, hl, fun _ _ e _ => by rw [e]⟩) (fun _ _ _ _ _ h => h)
  case F =>
    intro w mg fa h KX G hmg
    refine' Rc.all_mk KX G hmg ?alaw_big ?llaw_big ?claw_big ?klaw_big ?alaw_number ?llaw_number ?claw_number ?klaw_number ?alaw_table ?llaw_table ?claw_table ?klaw_table ?alaw_whole ?llaw_whole ?claw_whole ?klaw_whole ?alaw_common ?llaw_common ?claw_common ?klaw_common ?alaw_is ?llaw_is ?claw_is ?klaw_is ?agreatest ?lgreatest ?cgreatest ?kgreatest ?afraction ?lfraction ?cfraction ?kfraction ?ashares ?lshares ?cshares ?kshares ?alaw_shared ?llaw_shared ?claw_shared ?klaw_shared ?alaw ?llaw ?claw ?klaw ?z_abs ?z_bool ?z_int ?z_isinstance ?z_len ?z_list ?z_min ?z_range ?z_tuple ?z_zip
    (case alaw_big => k_is); (case llaw_big => k_is); (case claw_big => k_is); (case klaw_big => k_is); (case alaw_number => k_is); (case llaw_number => k_is); (case claw_number => k_is); (case klaw_number => k_is); (case alaw_table => k_is); (case llaw_table => k_is); (case claw_table => k_is); (case klaw_table => k_is); (case alaw_whole => k_is); (case llaw_whole => k_is); (case claw_whole => k_is); (case klaw_whole => k_is); (case alaw_common => k_is); (case llaw_common => k_is); (case claw_common => k_is); (case klaw_common => k_is); (case alaw_is => k_is); (case llaw_is => k_is); (case claw_is => k_is); (case klaw_is => k_is); (case agreatest => k_is); (case lgreatest => k_is); (case cgreatest => k_is); (case kgreatest => k_is); (case afraction => k_is); (case lfraction => k_is); (case cfraction => k_is); (case kfraction => k_is); (case ashares => k_is); (case lshares => k_is); (case cshares => k_is); (case kshares => k_is); (case alaw_shared => k_is); (case llaw_shared => k_is); (case claw_shared => k_is); (case klaw_shared => k_is); (case alaw => k_is); (case llaw => k_is); (case claw => k_is); (case klaw => k_is); (case z_abs => k_is); (case z_bool => k_is); (case z_int => k_is); (case z_isinstance => k_is); (case z_len => k_is); (case z_list => k_is); (case z_min => k_is); (case z_range => k_is); (case z_tuple => k_is); (case z_zip => k_is)
