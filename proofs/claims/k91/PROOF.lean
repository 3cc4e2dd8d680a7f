import PyProof.Rows.All
import Wide.All
import OpenK.AllK
import Wide.FinOn
import HandS.ForMost
import HandS.IsInst
import HandS.Conv
import HandS.Wide
import HandS.WideBits
import HandS.Evl
import HandS.Walk
import HandS.SortInts
import HandS.SetFor
import HandS.Style
import HandS.Rev
import HandS.RevTup
import HandS.ForExc
import HandS.ExcIs
import HandS.HotCalls
import PyProof.Rows.CountFlat
import HandS.Codes
import HandS.Replace
import PyProof.Rows.StrCountLaw
import PySem.Challenge.RW_riftcarry_k91_numbers_and_marks_read
set_option Elab.async false
set_option linter.all false
set_option maxRecDepth 100000
set_option maxHeartbeats 4000000
namespace Rc
open PySem PySem.Spec PyProof.Rows L2

/-! frames: H grew out of H0; own lists the objects that are new since then -/
structure Fr (H0 H : Hp) (own : List (Addr × HO)) : Prop where
  same : Same H0 H
  frs : ∀ p ∈ own, H0 p.1 = none ∧ H p.1 = some p.2
  nd : (own.map (·.1)).Nodup

section
variable {H0 H H' : Hp} {own : List (Addr × HO)} {p q r t : Addr} {o o' u v x : HO}
theorem same_new (h : H p = none) : Same H (upd H p o) := fun b x e => by
  rw [upd_ne (ne_of_none e h)]; exact e
theorem Fr.nil (H : Hp) : Fr H H [] := ⟨Same.refl H, (fun _ h => nomatch h), List.nodup_nil⟩
theorem Fr.fresh (f : Fr H0 H own) (h : H p = none) : H0 p = none := f.same.free h
theorem Fr.notin (f : Fr H0 H own) (h : H p = none) : p ∉ own.map (·.1) := fun hm => by
  obtain ⟨z, hz, rfl⟩ := List.mem_map.mp hm
  rw [(f.frs z hz).2] at h; cases h
theorem Fr.call (f : Fr H0 H own) (s : Same H H') : Fr H0 H' own :=
  ⟨f.same.trans s, fun z hz => ⟨(f.frs z hz).1, s _ _ (f.frs z hz).2⟩, f.nd⟩
theorem Fr.cnew (f : Fr H0 H own) (s : Same H H') (h : H p = none) (e : H' p = some o) : Fr H0 H' ((p, o) :: own) :=
  ⟨f.same.trans s, fun z hz => by
    rcases List.mem_cons.mp hz with rfl | hz
    · exact ⟨f.fresh h, e⟩
    · exact ⟨(f.frs z hz).1, s _ _ (f.frs z hz).2⟩, List.nodup_cons.mpr ⟨f.notin h, f.nd⟩⟩
theorem Fr.new (f : Fr H0 H own) (h : H p = none) : Fr H0 (upd H p o) ((p, o) :: own) := f.cnew (same_new h) h upd_same
theorem Fr.tmp (f : Fr H0 H own) (h : H p = none) : Fr H0 (upd H p o) own := f.call (same_new h)
theorem Fr.sub {own' : List (Addr × HO)} (f : Fr H0 H own) (h : own'.Sublist own) : Fr H0 H own' :=
  ⟨f.same, fun z hz => f.frs z (h.subset hz), f.nd.sublist (h.map _)⟩
theorem Fr.perm {own' : List (Addr × HO)} (f : Fr H0 H own) (h : own.Perm own') : Fr H0 H own' :=
  ⟨f.same, fun z hz => f.frs z (h.mem_iff.mpr hz), (h.map _).nodup_iff.mp f.nd⟩
theorem Fr.mem (f : Fr H0 H own) (h : (p, o) ∈ own) : H p = some o := (f.frs _ h).2
theorem Fr.wr (f : Fr H0 H ((p, o) :: own)) : Fr H0 (upd H p o') ((p, o') :: own) := by
  have hn := List.nodup_cons.mp f.nd
  refine ⟨fun b z e => ?_, fun z hz => ?_, f.nd⟩
  · have : b ≠ p := fun h => by subst h; rw [(f.frs (b, o) List.mem_cons_self).1] at e; cases e
    rw [upd_ne this]; exact f.same _ _ e
  · rcases List.mem_cons.mp hz with rfl | hz
    · exact ⟨(f.frs (p, o) List.mem_cons_self).1, upd_same⟩
    · have : z.1 ≠ p := fun h => hn.1 (List.mem_map.mpr ⟨z, hz, h⟩)
      rw [upd_ne this]
      exact f.frs z (List.mem_cons_of_mem _ hz)
theorem Fr.cast (f : Fr H0 H ((p, o) :: own)) (e : o = o') : Fr H0 H ((p, o') :: own) := e ▸ f
/-- bring the k-th to the front, and back -/
theorem Fr.up1 {a b : Addr × HO} (f : Fr H0 H (a :: b :: own)) : Fr H0 H (b :: a :: own) := f.perm (List.Perm.swap _ _ _)
theorem Fr.up2 {a b c : Addr × HO} (f : Fr H0 H (a :: b :: c :: own)) : Fr H0 H (c :: a :: b :: own) :=
  f.perm ((List.Perm.swap c b own).cons a |>.trans (List.Perm.swap c a (b :: own)))
theorem Fr.up3 {a b c d : Addr × HO} (f : Fr H0 H (a :: b :: c :: d :: own)) : Fr H0 H (d :: a :: b :: c :: own) :=
  f.perm (((List.Perm.swap d c own).cons b |>.trans (List.Perm.swap d b (c :: own))).cons a |>.trans (List.Perm.swap d a (b :: c :: own)))
theorem Fr.dn1 {a b : Addr × HO} (f : Fr H0 H (b :: a :: own)) : Fr H0 H (a :: b :: own) := f.up1
theorem Fr.dn2 {a b c : Addr × HO} (f : Fr H0 H (c :: a :: b :: own)) : Fr H0 H (a :: b :: c :: own) := f.up1.perm ((List.Perm.swap _ _ _).cons _)
theorem Fr.dn3 {a b c d : Addr × HO} (f : Fr H0 H (d :: a :: b :: c :: own)) : Fr H0 H (a :: b :: c :: d :: own) :=
  f.up1.perm (((List.Perm.swap _ _ _).trans ((List.Perm.swap _ _ _).cons _)).cons _)
theorem Fr.at0 (f : Fr H0 H ((p, o) :: own)) : H p = some o := f.mem List.mem_cons_self
theorem Fr.at1 {a : Addr × HO} (f : Fr H0 H (a :: (p, o) :: own)) : H p = some o := f.up1.at0
theorem Fr.at2 {a b : Addr × HO} (f : Fr H0 H (a :: b :: (p, o) :: own)) : H p = some o := f.up2.at0
theorem Fr.at3 {a b c : Addr × HO} (f : Fr H0 H (a :: b :: c :: (p, o) :: own)) : H p = some o := f.up3.at0
theorem Fr.at4 {a b c d : Addr × HO} (f : Fr H0 H (a :: b :: c :: d :: (p, o) :: own)) : H p = some o := (f.sub (List.sublist_cons_self _ _)).at3
theorem Fr.at5 {a b c d e : Addr × HO} (f : Fr H0 H (a :: b :: c :: d :: e :: (p, o) :: own)) : H p = some o := (f.sub (List.sublist_cons_self _ _)).at4
theorem Fr.d0 {a : Addr × HO} (f : Fr H0 H (a :: own)) : Fr H0 H own := f.sub (List.sublist_cons_self _ _)
theorem Fr.d1 {a b : Addr × HO} (f : Fr H0 H (a :: b :: own)) : Fr H0 H (a :: own) := f.up1.d0
theorem Fr.d2 {a b c : Addr × HO} (f : Fr H0 H (a :: b :: c :: own)) : Fr H0 H (a :: b :: own) := f.up2.d0
theorem Fr.d3 {a b c d : Addr × HO} (f : Fr H0 H (a :: b :: c :: d :: own)) : Fr H0 H (a :: b :: c :: own) := f.up3.d0
theorem Fr.wr1 {a : Addr × HO} (f : Fr H0 H (a :: (p, o) :: own)) : Fr H0 (upd H p o') (a :: (p, o') :: own) := f.up1.wr.dn1
theorem Fr.wr2 {a b : Addr × HO} (f : Fr H0 H (a :: b :: (p, o) :: own)) : Fr H0 (upd H p o') (a :: b :: (p, o') :: own) := f.up2.wr.dn2
theorem Fr.wr3 {a b c : Addr × HO} (f : Fr H0 H (a :: b :: c :: (p, o) :: own)) : Fr H0 (upd H p o') (a :: b :: c :: (p, o') :: own) := f.up3.wr.dn3
theorem Fr.cs1 {a : Addr × HO} (f : Fr H0 H (a :: (p, o) :: own)) (e : o = o') : Fr H0 H (a :: (p, o') :: own) := e ▸ f
theorem Fr.cs2 {a b : Addr × HO} (f : Fr H0 H (a :: b :: (p, o) :: own)) (e : o = o') : Fr H0 H (a :: b :: (p, o') :: own) := e ▸ f
theorem Fr.cs3 {a b c : Addr × HO} (f : Fr H0 H (a :: b :: c :: (p, o) :: own)) (e : o = o') : Fr H0 H (a :: b :: c :: (p, o') :: own) := e ▸ f
end

/-! contents -/
theorem app_map {α β : Type} (f : α → β) (xs : List α) (y : α) : xs.map f ++ [f y] = (xs ++ [y]).map f := by simp
theorem set_map' {α β : Type} (f : α → β) (xs : List α) (j : Nat) (y : α) : (xs.map f).set j (f y) = (xs.set j y).map f := by rw [List.map_set]
theorem lst_app {α : Type} (f : α → V) (xs : List α) (y : α) : HO.lst (xs.map f ++ [f y]) = .lst ((xs ++ [y]).map f) := by rw [app_map]
theorem lst_set {α : Type} (f : α → V) (xs : List α) (j : Nat) (y : α) : HO.lst ((xs.map f).set j (f y)) = .lst ((xs.set j y).map f) := by rw [set_map']
theorem lst_rev {α : Type} (f : α → V) (xs : List α) : HO.lst ((xs.map f).reverse) = .lst (xs.reverse.map f) := by rw [List.map_reverse]
theorem lst_cat {α : Type} (f : α → V) (xs ys : List α) : HO.lst (xs.map f ++ ys.map f) = .lst ((xs ++ ys).map f) := by rw [List.map_append]
theorem lst_rep {α : Type} (f : α → V) (xs : List α) (k : Nat) : HO.lst (List.replicate k (xs.map f)).flatten = .lst ((List.replicate k xs).flatten.map f) := by
  rw [List.map_flatten, List.map_replicate]
theorem erase_map' {α β : Type} (f : α → β) : ∀ (xs : List α) (k : Nat), (xs.map f).eraseIdx k = (xs.eraseIdx k).map f
  | [], _ => rfl
  | _ :: _, 0 => rfl
  | x :: xs, k + 1 => by
    show f x :: (xs.map f).eraseIdx k = f x :: (xs.eraseIdx k).map f
    rw [erase_map' f xs k]
theorem lst_erase {α : Type} (f : α → V) (xs : List α) (k : Nat) : HO.lst ((xs.map f).eraseIdx k) = .lst ((xs.eraseIdx k).map f) := by rw [erase_map']
theorem lst_dl {α : Type} (f : α → V) (xs : List α) : HO.lst ((xs.map f).dropLast) = .lst (xs.dropLast.map f) := by rw [List.map_dropLast]
theorem lst_rep1 {α : Type} (f : α → V) (x : α) (k : Nat) : HO.lst (List.replicate k [f x]).flatten = .lst ((List.replicate k x).map f) := by
  rw [List.map_replicate]; congr 1
  induction k with
  | zero => rfl
  | succ k ih => rw [List.replicate_succ, List.flatten_cons, ih]; rfl
/-- a slice with step one -/
def cutL {α : Type} (xs : List α) (lo hi : Option Int) : List α :=
  (xs.drop (HT.sIx xs.length 0 lo)).take (HT.sIx xs.length xs.length hi - HT.sIx xs.length 0 lo)
theorem lst_cut {α : Type} (f : α → V) (xs : List α) (lo hi : Option Int) : HO.lst (cutV (xs.map f) lo hi) = .lst ((cutL xs lo hi).map f) := by
  unfold cutV cutL; rw [List.length_map, List.map_take, List.map_drop]
theorem cutL_length {α : Type} (xs : List α) (lo hi : Option Int) : (cutL xs lo hi).length = min (HT.sIx xs.length xs.length hi - HT.sIx xs.length 0 lo) (xs.length - HT.sIx xs.length 0 lo) := by
  unfold cutL; rw [List.length_take, List.length_drop]
theorem rgV_eq (a b : Int) : rgV a b = ((List.range (b - a).toNat).map fun i : Nat => a + (i : Int)).map V.int := by
  unfold rgV; rw [List.map_map]; rfl
def rangeI (n : Int) : List Int := (List.range n.toNat).map fun i : Nat => (i : Int)
theorem lst_rng (n : Int) : HO.lst (rgV 0 n) = .lst ((rangeI n).map V.int) := by
  rw [rgV_eq]; unfold rangeI; congr 2; simp
theorem atD {α : Type} {f : α → V} {xs : List α} {i : Int} (d : α) (h0 : 0 ≤ i) (h1 : i < (xs.length : Int)) : atI (xs.map f) i = some (f (xs.getD i.toNat d)) := by
  obtain ⟨n, rfl⟩ := Int.eq_ofNat_of_zero_le h0
  have hn : n < xs.length := by omega
  refine atI_nat ?_
  rw [List.getElem?_map, List.getElem?_eq_getElem hn]
  simp [List.getD, hn]
theorem ixD {n : Nat} {i : Int} (h0 : 0 ≤ i) (h1 : i < (n : Int)) : ixN n i = some i.toNat := by
  unfold ixN; rw [if_pos h0, if_pos h1]
theorem atLast {α : Type} {f : α → V} {xs : List α} (d : α) (h : 0 < xs.length) : atI (xs.map f) (-1) = some (f (xs.getLastD d)) := by
  have hne : xs ≠ [] := fun z => by subst z; cases h
  have e : xs.map f = xs.dropLast.map f ++ [f (xs.getLast hne)] := by
    rw [← List.map_singleton, ← List.map_append, List.dropLast_concat_getLast]
  rw [e, atI_last, List.getLastD_eq_getLast?, List.getLast?_eq_some_getLast hne]; rfl
theorem getD_mem {α : Type} {xs : List α} {i : Nat} {d : α} (h : i < xs.length) : xs.getD i d ∈ xs := by
  simp [List.getD, h]

/-! tests -/
theorem iteD {c : Prop} [Decidable c] {A B : Prop} (h1 : c → A) (h2 : ¬ c → B) : if decide c = true then A else B := by
  by_cases h : c
  · rw [if_pos (decide_eq_true h)]; exact h1 h
  · rw [if_neg (by rw [decide_eq_false h]; exact Bool.false_ne_true)]; exact h2 h
theorem iteN {c : Prop} [Decidable c] {A B : Prop} (h1 : ¬ c → A) (h2 : c → B) : if (!decide c) = true then A else B := by
  by_cases h : c
  · rw [if_neg (by rw [decide_eq_true h]; exact Bool.false_ne_true)]; exact h2 h
  · rw [if_pos (by rw [decide_eq_false h]; rfl)]; exact h1 h
theorem iteB {b : Bool} {A B : Prop} (h1 : b = true → A) (h2 : b = false → B) : if b = true then A else B := by
  cases b with
  | true => exact iteT (h1 rfl)
  | false => exact iteF (h2 rfl)
theorem iteBT {b : Bool} {A B : Prop} (h : b = true) (h1 : A) : if b = true then A else B := by subst h; exact iteT h1
theorem iteBF {b : Bool} {A B : Prop} (h : b = false) (h1 : B) : if b = true then A else B := by subst h; exact iteF h1

/-! operators by values, in handy forms -/
section
variable {X : Cx}
theorem op_eqB : OpR X (compareOp .Eq) (fun x y H Q => ∃ a b : Bool, x = .bl a ∧ y = .bl b ∧ Q (.bl (a == b)) H) := by
  intro pins s σ H x y v u Q I rx ry h
  obtain ⟨a, b, rfl, rfl, q⟩ := h
  refine op_eq pins s σ H _ _ v u Q I rx ry ⟨rfl, ?_⟩
  have : decide (V.bl a = V.bl b) = (a == b) := by cases a <;> cases b <;> rfl
  rw [this]; exact q
theorem op_neB : OpR X (compareOp .NotEq) (fun x y H Q => ∃ a b : Bool, x = .bl a ∧ y = .bl b ∧ Q (.bl (a != b)) H) := by
  intro pins s σ H x y v u Q I rx ry h
  obtain ⟨a, b, rfl, rfl, q⟩ := h
  refine op_ne pins s σ H _ _ v u Q I rx ry ⟨rfl, ?_⟩
  have : (!decide (V.bl a = V.bl b)) = (a != b) := by cases a <;> cases b <;> rfl
  rw [this]; exact q
def rLenL (K : PySem.W.Frag) : List V → Hp → VK → Prop := fun xs H Q => ∃ p n ys, xs = [.ref p] ∧ SqL K H p ys ∧ ys.length = n ∧ Q (.int (n : Nat)) H
theorem call_lenL : CallR X (.builtin "len") (rLenL X.K) := by
  intro pins s σ H xs us Q I r h
  obtain ⟨p, n, ys, rfl, hp, rfl, q⟩ := h
  exact call_len_seq pins s σ H _ us Q I r ⟨p, ys, rfl, .inl hp, q⟩
def rLenT (K : PySem.W.Frag) : List V → Hp → VK → Prop := fun xs H Q => ∃ p n ys, xs = [.ref p] ∧ SqT K H p ys ∧ ys.length = n ∧ Q (.int (n : Nat)) H
theorem call_lenT : CallR X (.builtin "len") (rLenT X.K) := by
  intro pins s σ H xs us Q I r h
  obtain ⟨p, n, ys, rfl, hp, rfl, q⟩ := h
  exact call_len_seq pins s σ H _ us Q I r ⟨p, ys, rfl, .inr hp, q⟩
def rListL (K : PySem.W.Frag) : List V → Hp → VK → Prop := fun xs H Q => ∃ p ys, xs = [.ref p] ∧ (SqL K H p ys ∨ SqT K H p ys) ∧ ∀ l, H l = none → Q (.ref l) (upd H l (.lst ys))
theorem call_listL : CallR X (.type "list") (rListL X.K) := call_list_of
theorem call_minI (hc : X.calm = true) : CallR X (.builtin "min") (fun xs H Q => ∃ i j : Int, xs = [.int i, .int j] ∧ Q (.int (min i j)) H) := by
  intro pins s σ H xs us Q I r h
  obtain ⟨i, j, rfl, q⟩ := h
  refine call_min2 hc pins s σ H _ us Q I r ⟨i, j, rfl, ?_⟩
  have : (if j < i then j else i) = min i j := by
    by_cases h : j < i
    · rw [if_pos h]; omega
    · rw [if_neg h]; omega
  rw [this]; exact q
theorem call_maxI (hc : X.calm = true) : CallR X (.builtin "max") (fun xs H Q => ∃ i j : Int, xs = [.int i, .int j] ∧ Q (.int (max i j)) H) := by
  intro pins s σ H xs us Q I r h
  obtain ⟨i, j, rfl, q⟩ := h
  refine call_max2 hc pins s σ H _ us Q I r ⟨i, j, rfl, ?_⟩
  have : (if j > i then j else i) = max i j := by
    by_cases h : j > i
    · rw [if_pos h]; omega
    · rw [if_neg h]; omega
  rw [this]; exact q
theorem call_absI : CallR X (.builtin "abs") (fun xs H Q => ∃ i : Int, xs = [.int i] ∧ Q (.int (i.natAbs : Nat)) H) := by
  intro pins s σ H xs us Q I r h
  obtain ⟨i, rfl, q⟩ := h
  refine call_abs pins s σ H _ us Q I r ⟨i, rfl, ?_⟩
  have : (if i < 0 then -i else i) = (i.natAbs : Int) := by
    by_cases h : i < 0
    · rw [if_pos h]; omega
    · rw [if_neg h]; omega
  rw [this]; exact q
theorem pe_bmK {K : PySem.W.Frag} {e : Expr} {T : String} {r : V → List V → Hp → VK → Prop} {to : TE} {t : TA} (h : PE X e (tBM X.K T r to t)) (hk : X.K = K := by rfl) : PE X e (tBM K T r to t) := by subst hk; exact h
/-- comparisons, told in two ways -/
theorem op_ltS : OpR X (compareOp .Lt) (fun x y H Q => ∃ i j : Int, x = .int i ∧ y = .int j ∧ (i < j → Q (.bl true) H) ∧ (¬ i < j → Q (.bl false) H)) := by
  intro pins s σ H x y v u Q I rx ry h
  obtain ⟨i, j, rfl, rfl, q1, q2⟩ := h
  refine op_lt pins s σ H _ _ v u Q I rx ry ⟨i, j, rfl, rfl, ?_⟩
  show Q (V.bl (decide (i < j))) H
  by_cases h : i < j
  · rw [decide_eq_true h]; exact q1 h
  · rw [decide_eq_false h]; exact q2 h
theorem op_leS : OpR X (compareOp .LtE) (fun x y H Q => ∃ i j : Int, x = .int i ∧ y = .int j ∧ (i ≤ j → Q (.bl true) H) ∧ (¬ i ≤ j → Q (.bl false) H)) := by
  intro pins s σ H x y v u Q I rx ry h
  obtain ⟨i, j, rfl, rfl, q1, q2⟩ := h
  refine op_le pins s σ H _ _ v u Q I rx ry ⟨i, j, rfl, rfl, ?_⟩
  show Q (V.bl (decide (i ≤ j))) H
  by_cases h : i ≤ j
  · rw [decide_eq_true h]; exact q1 h
  · rw [decide_eq_false h]; exact q2 h
theorem op_gtS : OpR X (compareOp .Gt) (fun x y H Q => ∃ i j : Int, x = .int i ∧ y = .int j ∧ (j < i → Q (.bl true) H) ∧ (¬ j < i → Q (.bl false) H)) := by
  intro pins s σ H x y v u Q I rx ry h
  obtain ⟨i, j, rfl, rfl, q1, q2⟩ := h
  refine op_gt pins s σ H _ _ v u Q I rx ry ⟨i, j, rfl, rfl, ?_⟩
  show Q (V.bl (decide (j < i))) H
  by_cases h : j < i
  · rw [decide_eq_true h]; exact q1 h
  · rw [decide_eq_false h]; exact q2 h
theorem op_geS : OpR X (compareOp .GtE) (fun x y H Q => ∃ i j : Int, x = .int i ∧ y = .int j ∧ (j ≤ i → Q (.bl true) H) ∧ (¬ j ≤ i → Q (.bl false) H)) := by
  intro pins s σ H x y v u Q I rx ry h
  obtain ⟨i, j, rfl, rfl, q1, q2⟩ := h
  refine op_ge pins s σ H _ _ v u Q I rx ry ⟨i, j, rfl, rfl, ?_⟩
  show Q (V.bl (decide (j ≤ i))) H
  by_cases h : j ≤ i
  · rw [decide_eq_true h]; exact q1 h
  · rw [decide_eq_false h]; exact q2 h
theorem int_dec {i j : Int} : decide (V.int i = V.int j) = decide (i = j) := by
  by_cases h : i = j
  · subst h; rw [decide_eq_true rfl, decide_eq_true rfl]
  · rw [decide_eq_false h, decide_eq_false fun z => h (V.int.inj z)]
theorem op_eqS : OpR X (compareOp .Eq) (fun x y H Q => ∃ i j : Int, x = .int i ∧ y = .int j ∧ (i = j → Q (.bl true) H) ∧ (¬ i = j → Q (.bl false) H)) := by
  intro pins s σ H x y v u Q I rx ry h
  obtain ⟨i, j, rfl, rfl, q1, q2⟩ := h
  refine op_eq pins s σ H _ _ v u Q I rx ry ⟨rfl, ?_⟩
  rw [int_dec]
  by_cases h : i = j
  · rw [decide_eq_true h]; exact q1 h
  · rw [decide_eq_false h]; exact q2 h
theorem op_neS : OpR X (compareOp .NotEq) (fun x y H Q => ∃ i j : Int, x = .int i ∧ y = .int j ∧ (¬ i = j → Q (.bl true) H) ∧ (i = j → Q (.bl false) H)) := by
  intro pins s σ H x y v u Q I rx ry h
  obtain ⟨i, j, rfl, rfl, q1, q2⟩ := h
  refine op_ne pins s σ H _ _ v u Q I rx ry ⟨rfl, ?_⟩
  rw [int_dec]
  by_cases h : i = j
  · rw [decide_eq_true h]; exact q2 h
  · rw [decide_eq_false h]; exact q1 h
/-- a truth, told in two ways: as a test, as a value -/
def tBS (t : TE) : TT := fun σ H Q => t σ H fun x H1 => ∃ b, x = .bl b ∧ (b = true → Q true H1) ∧ (b = false → Q false H1)
theorem pt_valS {e : Expr} {t : TE} (h : PE X e t) (he : ∀ whole, isTrue e X.env whole = (do let v ← whole; standAt e.pos; holding [v] (truthy v)) := by intro _; rfl) : PT X e (tBS t) := by
  refine ⟨fun pins s σ H Q I hw => ?_⟩
  refine isTrue_plain (thn (h.run pins s σ H _ I hw) fun v s1 ⟨x, H1, I1, r1, q1⟩ => ?_) (he _)
  obtain ⟨d, rfl, q1, q2⟩ := q1
  cases r1
  refine wpAny_truthy_bool ⟨H1, I1, ?_⟩
  cases d with
  | true => exact q1 rfl
  | false => exact q2 rfl
/-- an operator whose answer is a truth, told in two ways -/
theorem opS {f : Value → Value → Sem Value} {r : R2} (h : OpR X f r) : OpR X f (fun x y H Q => r x y H fun z H1 => ∃ b, z = .bl b ∧ (b = true → Q (.bl true) H1) ∧ (b = false → Q (.bl false) H1)) := by
  intro pins s σ H x y v u Q I rx ry q
  refine thn (h pins s σ H x y v u _ I rx ry q) fun w s1 ⟨z, H1, I1, r1, q1⟩ => ?_
  obtain ⟨d, rfl, q1, q2⟩ := q1
  refine ⟨.bl d, H1, I1, r1, ?_⟩
  cases d with
  | true => exact q1 rfl
  | false => exact q2 rfl
/-- and, or, not as values, of truths told in two ways -/
def tSplE (t : TE) : TE := fun σ H Q => t σ H fun x H1 => ∃ b, x = .bl b ∧ (b = true → Q (.bl true) H1) ∧ (b = false → Q (.bl false) H1)
theorem pe_splS {e : Expr} {t : TE} (h : PE X e t) : PE X e (tSplE t) := by
  refine ⟨fun pins s σ H Q I hw => thn (h.run pins s σ H _ I hw) fun v s1 ⟨x, H1, I1, r1, q1⟩ => ?_⟩
  obtain ⟨d, rfl, q1, q2⟩ := q1
  refine ⟨.bl d, H1, I1, r1, ?_⟩
  cases d with
  | true => exact q1 rfl
  | false => exact q2 rfl
/-- a power of written numbers, told as a number -/
theorem op_powL : OpR X (binaryOp .Pow) (fun x y H Q => ∃ i j k : Int, x = .int i ∧ y = .int j ∧ CPow i j ∧ i ^ j.toNat = k ∧ Q (.int k) H) := by
  intro pins s σ H x y v u Q I rx ry h
  obtain ⟨i, j, k, rfl, rfl, hc, rfl, q⟩ := h
  exact op_pow pins s σ H _ _ v u Q I rx ry ⟨i, j, rfl, rfl, hc, q⟩
/-- xs[i], read for an augmented store -/
theorem get_list : PGet X (rIxL X.K) := by
  intro pins s σ H o i ov iv Q I ro ri h
  obtain ⟨p, xs, k, z, rfl, rfl, hq, he, q⟩ := h
  cases ro
  obtain ⟨tk, rfl⟩ := ri
  obtain ⟨its, vr, pl, hz⟩ := I.list hq
  obtain ⟨j, h1, h2, h3, h4, h5⟩ := atI_get he
  obtain ⟨w, ew, rw'⟩ := vr.get h2
  have hl := vr.length
  have hn := line63
  have fin : EP X pins σ Q w s := ⟨z, H, I, rw', q⟩
  by_cases h0 : 0 ≤ k
  · have hj : k.toNat = j := by
      rw [seqIndex_of h0 h5] at h1; exact Option.some.inj h1
    exact wpAny_mono (wpAny_getItem_list (Q := fun r s' => r = w ∧ EP X pins σ Q r s') pl.isList h0 (by omega) (by rw [hj]; simpa using ew) ⟨rfl, fin⟩) (fun _ _ z => z.2) fun _ _ z => z
  · have hj : (k + (its.toArray.size : Int)).toNat = j := by
      rw [seqIndex_neg (by omega) h4] at h1
      rw [List.size_toArray, ← hl]; exact Option.some.inj h1
    exact wpAny_mono (wpAny_getItem_list_neg (Q := fun r s' => r = w ∧ EP X pins σ Q r s') pl.isList (by omega) (by rw [List.size_toArray] <;> omega) (by omega) (by rw [hj]; simpa using ew) ⟨rfl, fin⟩) (fun _ _ z => z.2) fun _ _ z => z
end
end Rc
namespace Rc
open PySem PySem.Spec PyProof.Rows L2

section
variable {H0 H H' : Hp} {own : List (Addr × HO)} {p : Addr} {o : HO}
theorem Fr.n0 (f : Fr H0 H ((p, o) :: own)) : H0 p = none := (f.frs _ List.mem_cons_self).1
theorem Fr.n1 {a : Addr × HO} (f : Fr H0 H (a :: (p, o) :: own)) : H0 p = none := f.up1.n0
theorem Fr.n2 {a b : Addr × HO} (f : Fr H0 H (a :: b :: (p, o) :: own)) : H0 p = none := f.up2.n0
end
/-- the k-th of what is own -/
theorem getElem?_perm {α : Type} : ∀ {l : List α} {k : Nat} {x : α}, l[k]? = some x → l.Perm (x :: l.eraseIdx k)
  | [], _, _, h => by simp at h
  | y :: l, 0, x, h => by cases (Option.some.inj h); exact List.Perm.refl _
  | y :: l, k + 1, x, h => ((getElem?_perm (l := l) (k := k) h).cons y).trans (List.Perm.swap _ _ _)
section
variable {H0 H H' : Hp} {own : List (Addr × HO)} {p : Addr} {o o' : HO}
theorem Fr.atk (f : Fr H0 H own) (k : Nat) (h : own[k]? = some (p, o)) : H p = some o := f.mem (List.mem_of_getElem? h)
theorem Fr.upk {x : Addr × HO} (f : Fr H0 H own) (k : Nat) (h : own[k]? = some x) : Fr H0 H (x :: own.eraseIdx k) := f.perm (getElem?_perm h)
theorem Fr.dk (f : Fr H0 H own) (k : Nat) : Fr H0 H (own.eraseIdx k) := f.sub (List.eraseIdx_sublist _ _)
theorem set_perm {α : Type} : ∀ {l : List α} {k : Nat} {x y : α}, l[k]? = some x → (y :: l.eraseIdx k).Perm (l.set k y)
  | [], _, _, _, h => by simp at h
  | z :: l, 0, x, y, h => List.Perm.refl _
  | z :: l, k + 1, x, y, h => (List.Perm.swap _ _ _).trans ((set_perm (l := l) (k := k) (y := y) h).cons z)
theorem Fr.wrk {o'' : HO} (f : Fr H0 H own) (k : Nat) (h : own[k]? = some (p, o)) (e : o' = o'') : Fr H0 (upd H p o') (own.set k (p, o'')) := by
  subst e
  exact ((f.upk k h).wr (o' := o')).perm (set_perm h)
end
theorem ndT {c : Prop} [Decidable c] (h : ¬ c) : (!decide c) = true := by rw [decide_eq_false h]; rfl
theorem ndF {c : Prop} [Decidable c] (h : c) : (!decide c) = false := by rw [decide_eq_true h]; rfl
theorem of_nd {c : Prop} [Decidable c] (h : (!decide c) = false) : c := by
  by_cases z : c
  · exact z
  · rw [decide_eq_false z] at h; cases h
theorem not_of_nd {c : Prop} [Decidable c] (h : (!decide c) = true) : ¬ c := fun z => by rw [decide_eq_true z] at h; cases h
theorem bnotT {b : Bool} (h : (!b) = true) : b = false := by cases b with | true => cases h | false => rfl
theorem bnotF {b : Bool} (h : (!b) = false) : b = true := by cases b with | true => rfl | false => cases h
theorem iteBN {b : Bool} {A B : Prop} (h1 : b = false → A) (h2 : b = true → B) : if (!b) = true then A else B := by
  cases b with
  | false => exact iteT (h1 rfl)
  | true => exact iteF (h2 rfl)
theorem hu64 {A : Around} {k : Nat} (hr : Room k A) : A.units + 64 < cLine := by have := hr.un; omega

/-! what is walked, with typed contents -/
section
variable {α β : Type} {K : PySem.W.Frag} {a b : Addr}
theorem walkR {n : Nat} : Walk (Itr 0 n) n (fun _ => True) (fun i H x H' => H' = H ∧ x = .int (i : Nat)) :=
  walk_range.mono (fun _ h => h) fun i H x H' _ _ y => ⟨y.1, by rw [y.2]; exact congrArg V.int (Int.zero_add _)⟩
theorem walkL (f : α → V) (ns : List α) : Walk (Itl K a) ns.length (fun H => H a = some (.lst (ns.map f))) (fun i H x H' => H' = H ∧ ∃ y, ns[i]? = some y ∧ x = f y) := by
  have w := walk_list (K := K) (a := a) (xs := ns.map f)
  rw [List.length_map] at w
  refine w.mono (fun H h => SqL.of h) fun i H x H' _ _ y => ⟨y.1, ?_⟩
  have e := y.2
  rw [List.getElem?_map] at e
  cases h : ns[i]? with
  | none => rw [h] at e; cases e
  | some z => rw [h] at e; exact ⟨z, rfl, (Option.some.inj e).symm⟩
theorem walkV (ns : List V) : Walk (Itl K a) ns.length (fun H => H a = some (.lst ns)) (fun i H x H' => H' = H ∧ ns[i]? = some x) :=
  walk_list.mono (fun H h => SqL.of h) fun i H x H' _ _ y => y
theorem walkRv (f : α → V) (ns : List α) : Walk (Itv K a (ns.map f).length) ns.length (fun H => H a = some (.lst (ns.map f))) (fun i H x H' => H' = H ∧ ∃ y, ns[ns.length - 1 - i]? = some y ∧ x = f y) := by
  have w := walk_rev (K := K) (a := a) (xs := ns.map f)
  rw [List.length_map] at w ⊢
  refine w.mono (fun H h => SqL.of h) fun i H x H' _ _ y => ⟨y.1, ?_⟩
  have e := y.2
  rw [List.getElem?_map] at e
  cases h : ns[ns.length - 1 - i]? with
  | none => rw [h] at e; cases e
  | some z => rw [h] at e; exact ⟨z, rfl, (Option.some.inj e).symm⟩
theorem walkE (f : α → V) (ns : List α) : Walk (Ite K a) ns.length (fun H => H a = some (.lst (ns.map f)))
    (fun i H x H' => ∃ T y, x = .ref T ∧ H T = none ∧ H' = upd H T (.tup [.int (i : Nat), f y]) ∧ ns[i]? = some y) := by
  have w := walk_enum (K := K) (a := a) (xs := ns.map f)
  rw [List.length_map] at w
  refine w.mono (fun H h => SqL.of h) fun i H x H' _ _ y => ?_
  obtain ⟨T, u, v, h1, h2, h3, h4, h5⟩ := y
  cases h4
  replace h5 : (ns.map f)[i]? = some v := h5
  rw [List.getElem?_map] at h5
  cases h : ns[i]? with
  | none => rw [h] at h5; cases h5
  | some z => rw [h] at h5; cases (Option.some.inj h5); exact ⟨T, z, h1, h2, h3, rfl⟩
theorem walkZ (f : α → V) (g : β → V) (ns : List α) (ms : List β) : Walk (Itz K a b) (min ns.length ms.length) (fun H => H a = some (.lst (ns.map f)) ∧ H b = some (.lst (ms.map g)))
    (fun i H x H' => ∃ T y z, x = .ref T ∧ H T = none ∧ H' = upd H T (.tup [f y, g z]) ∧ ns[i]? = some y ∧ ms[i]? = some z) := by
  have w := walk_zip (K := K) (a := a) (b := b) (xs := ns.map f) (ys := ms.map g) (n := min ns.length ms.length) (by rw [List.length_map, List.length_map])
  refine w.mono (fun H h => ⟨SqL.of h.1, SqL.of h.2⟩) fun i H x H' _ _ y => ?_
  obtain ⟨T, u, v, h1, h2, h3, h4, h5⟩ := y
  replace h4 : (ns.map f)[i]? = some u := h4
  replace h5 : (ms.map g)[i]? = some v := h5
  rw [List.getElem?_map] at h4 h5
  cases h : ns[i]? with
  | none => rw [h] at h4; cases h4
  | some z =>
    cases h' : ms[i]? with
    | none => rw [h'] at h5; cases h5
    | some z' =>
      rw [h] at h4; rw [h'] at h5
      cases (Option.some.inj h4); cases (Option.some.inj h5)
      exact ⟨T, z, z', h1, h2, h3, rfl, rfl⟩
end

theorem map_c {α : Type} (xs : List α) (c : Int) : xs.map (fun _ => c) = List.replicate xs.length c := by
  induction xs with
  | nil => rfl
  | cons x xs ih => rw [List.map_cons, ih]; rfl
/-! comprehensions: one turn -/
section
variable {α β : Type} {enc : β → V} {f : α → β} {ns : List α} {i : Nat} {y : α}
theorem take_next (h : ns[i]? = some y) : ns.take (i + 1) = ns.take i ++ [y] := by rw [List.take_add_one, h]; rfl
theorem lc_l (h : ns[i]? = some y) : HO.lst ((((ns.take i).map f).map enc) ++ [enc (f y)]) = .lst (((ns.take (i + 1)).map f).map enc) := by
  rw [take_next h, List.map_append, List.map_append]; rfl
theorem lc_l_t {p : α → Bool} (h : ns[i]? = some y) (hp : p y = true) : HO.lst (((((ns.take i).filter p).map f).map enc) ++ [enc (f y)]) = .lst ((((ns.take (i + 1)).filter p).map f).map enc) := by
  rw [take_next h, List.filter_append, List.map_append, List.map_append, List.filter_cons_of_pos hp]; rfl
theorem lc_l_f {p : α → Bool} (h : ns[i]? = some y) (hp : p y = false) : HO.lst ((((ns.take i).filter p).map f).map enc) = .lst ((((ns.take (i + 1)).filter p).map f).map enc) := by
  rw [take_next h, List.filter_append, List.filter_cons_of_neg (by rw [hp]; exact Bool.false_ne_true)]; simp
theorem lc_r (f : Nat → β) (i : Nat) : HO.lst ((((List.range i).map f).map enc) ++ [enc (f i)]) = .lst (((List.range (i + 1)).map f).map enc) := by
  rw [List.range_succ, List.map_append, List.map_append]; rfl
theorem lc_r_t {f : Nat → β} {p : Nat → Bool} (hp : p i = true) : HO.lst (((((List.range i).filter p).map f).map enc) ++ [enc (f i)]) = .lst ((((List.range (i + 1)).filter p).map f).map enc) := by
  rw [List.range_succ, List.filter_append, List.map_append, List.map_append, List.filter_cons_of_pos hp]; rfl
theorem lc_r_f {f : Nat → β} {p : Nat → Bool} (hp : p i = false) : HO.lst ((((List.range i).filter p).map f).map enc) = .lst ((((List.range (i + 1)).filter p).map f).map enc) := by
  rw [List.range_succ, List.filter_append, List.filter_cons_of_neg (by rw [hp]; exact Bool.false_ne_true)]; simp
end

/-! whiles by a measure -/
theorem while_m {c : TT} {tb : TS} {D : Ends} {σ : L2.St} {H : Hp} (W : Nat → L2.St → Hp → Prop) (h0 : ∃ m, W m σ H)
    (hs : ∀ m σ H, W m σ H → c σ H fun b H1 => if b = true then ∃ N : L2.St → Hp → Prop, (∀ σ' H', N σ' H' → ∃ m', m' < m ∧ W m' σ' H') ∧ tb { D with nx := N, ct := N, bk := D.nx } σ H1 else D.nx σ H1) : tWhile c tb D σ H := ⟨W, h0, hs⟩

/-! pop(i) -/
theorem popix {n : Nat} {i : Int} (h0 : 0 ≤ i) (h1 : i < (n : Int)) {α β : Type} {f : α → β} {xs : List α} (hn : n = xs.length := by rfl) : seqIndex? i (xs.map f).length = some i.toNat := by
  subst hn; rw [List.length_map]; exact seqIndex_of h0 h1
theorem popat {α : Type} {f : α → V} {xs : List α} {k : Nat} (d : α) (h : k < xs.length) : (xs.map f)[k]? = some (f (xs.getD k d)) := by
  rw [List.getElem?_map, List.getElem?_eq_getElem h]; simp [List.getD, h]
theorem ixDm {α β : Type} {f : α → β} {xs : List α} {i : Int} (h0 : 0 ≤ i) (h1 : i < (xs.length : Int)) : ixN (xs.map f).length i = some i.toNat := by
  rw [List.length_map]; exact ixD h0 h1
theorem atV {xs : List V} {i : Int} (d : V) (h0 : 0 ≤ i) (h1 : i < (xs.length : Int)) : atI xs i = some (xs.getD i.toNat d) := by
  have := atD (f := fun v : V => v) d h0 h1
  rwa [List.map_id'] at this

/-! deep data -/
def dI (xs : List Int) : PyData := .list (xs.map PyData.int)
def dB (xs : List Bool) : PyData := .list (xs.map PyData.bool)
section
variable {K : PySem.W.Frag} {H : Hp} {a : Addr}
theorem dpAll {α : Type} {f : α → V} {g : α → PyData} (h : ∀ x, Dp K H (f x) (g x)) : ∀ xs : List α, DpAll K H (xs.map f) (xs.map g)
  | [] => .nil
  | x :: xs => .cons (h x) (dpAll h xs)
/-- a list, its depth by its items -/
theorem dp_ints {xs : List Int} (h : H a = some (.lst (xs.map V.int))) : Dp K H (.ref a) (dI xs) := .lst (SqL.of h) (dpAll (fun _ => .int _) xs)
theorem dp_bls {xs : List Bool} (h : H a = some (.lst (xs.map V.bl))) : Dp K H (.ref a) (dB xs) := .lst (SqL.of h) (dpAll (fun _ => .bl _) xs)
end
theorem canAll {α : Type} {g : α → PyData} (h : ∀ x, (g x).canLay0 = true) : ∀ xs : List α, PyData.canLayAll0 (xs.map g) = true
  | [] => rfl
  | x :: xs => by
    show ((g x).canLay0 && PyData.canLayAll0 (xs.map g)) = true
    rw [h x, canAll h xs]; rfl
theorem depthAll {α : Type} {g : α → PyData} {n : Nat} (h : ∀ x, (g x).depth ≤ n) : ∀ xs : List α, PyData.depthAll (xs.map g) ≤ n
  | [] => Nat.zero_le _
  | x :: xs => by
    show max (g x).depth (PyData.depthAll (xs.map g)) ≤ n
    have h1 := h x
    have h2 := depthAll h xs
    omega
/-- data of a depth of at most n, without texts -/
structure Okd (n : Nat) (d : PyData) : Prop where
  can : d.canLay0 = true
  dep : d.depth ≤ n
theorem Okd.sh {d : PyData} (h : Okd 9 d) : SeqAt.shaped d = true := by
  unfold SeqAt.shaped; rw [h.can, decide_eq_true (by have := h.dep; omega)]; rfl
theorem Okd.cn {d : PyData} (h : Okd 9 d) : d.canLay0 = true := h.can
section
variable {n : Nat}
theorem okd_ints (xs : List Int) : Okd (n + 1) (dI xs) := ⟨canAll (fun _ => rfl) xs, Nat.succ_le_succ (Nat.le_trans (depthAll (n := 0) (fun _ => Nat.le_refl _) xs) (Nat.zero_le _))⟩
theorem okd_bls (xs : List Bool) : Okd (n + 1) (dB xs) := ⟨canAll (fun _ => rfl) xs, Nat.succ_le_succ (Nat.le_trans (depthAll (n := 0) (fun _ => Nat.le_refl _) xs) (Nat.zero_le _))⟩
theorem okd_int {i : Int} : Okd n (.int i) := ⟨rfl, Nat.zero_le _⟩
theorem okd_bl {b : Bool} : Okd n (.bool b) := ⟨rfl, Nat.zero_le _⟩
theorem okd_non : Okd n .none := ⟨rfl, Nat.zero_le _⟩
theorem okl_nil : Okd (n + 1) (.list []) := ⟨rfl, Nat.succ_le_succ (Nat.zero_le _)⟩
theorem okl_cons {d : PyData} {ds : List PyData} (h : Okd n d) (h' : Okd (n + 1) (.list ds)) : Okd (n + 1) (.list (d :: ds)) := by
  obtain ⟨c, p⟩ := h; obtain ⟨c', p'⟩ := h'
  have e1 : PyData.canLayAll0 ds = true := c'
  have e2 : PyData.depthAll ds + 1 ≤ n + 1 := p'
  refine ⟨?_, ?_⟩
  · show (d.canLay0 && PyData.canLayAll0 ds) = true
    rw [c, e1]; rfl
  · show max d.depth (PyData.depthAll ds) + 1 ≤ n + 1
    omega
theorem okt_nil : Okd (n + 1) (.tuple []) := ⟨rfl, Nat.succ_le_succ (Nat.zero_le _)⟩
theorem okt_cons {d : PyData} {ds : List PyData} (h : Okd n d) (h' : Okd (n + 1) (.tuple ds)) : Okd (n + 1) (.tuple (d :: ds)) := by
  have q := okl_cons h (show Okd (n + 1) (.list ds) from ⟨h'.can, h'.dep⟩)
  exact ⟨q.can, q.dep⟩
end
section
variable {X : Cx}
/-- == of deep data, the answer told -/
def rEqX (K : PySem.W.Frag) : R2 := fun x y H Q => ∃ (d e : PyData) (b : Bool), Dp K H x d ∧ Dp K H y e ∧ SeqAt.shaped d = true ∧ SeqAt.shaped e = true ∧ PyData.eqv d e = b ∧ Q (.bl b) H
def rNeX (K : PySem.W.Frag) : R2 := fun x y H Q => ∃ (d e : PyData) (b : Bool), Dp K H x d ∧ Dp K H y e ∧ SeqAt.shaped d = true ∧ SeqAt.shaped e = true ∧ PyData.eqv d e = b ∧ Q (.bl (!b)) H
theorem op_eqX (hu : X.A.units + 64 < cLine) : OpR X (compareOp .Eq) (rEqX X.K) := by
  intro pins s σ H x y v u Q I rx ry h
  obtain ⟨d, e, b, h1, h2, h3, h4, rfl, q⟩ := h
  exact op_eqD hu pins s σ H x y v u Q I rx ry ⟨d, e, h1, h2, h3, h4, q⟩
theorem op_neX (hu : X.A.units + 64 < cLine) : OpR X (compareOp .NotEq) (rNeX X.K) := by
  intro pins s σ H x y v u Q I rx ry h
  obtain ⟨d, e, b, h1, h2, h3, h4, rfl, q⟩ := h
  exact op_neD hu pins s σ H x y v u Q I rx ry ⟨d, e, h1, h2, h3, h4, q⟩
end
/-- range(0, m, c), c from 1 on -/
theorem rgc_up {m c : Int} {n : Nat} (h0 : -(2 ^ 40) ≤ m) (h1 : m < 2 ^ 40) (hc : 0 < c) (hc' : c < 100000000) (hn : (n : Int) = if 0 < m then (m - 1) / c + 1 else 0) : RgC 0 m c n := by
  have hs : Builtin.Range.rangeSize 0 m c = n := by
    unfold Builtin.Range.rangeSize
    rw [if_pos (by omega), hn, Int.sub_zero]
  refine ⟨by omega, by omega, ?_, hs⟩
  have e2 : 0 < m → 0 ≤ (m - 1) / c := fun h => Int.ediv_nonneg (by omega) (by omega)
  have e3 : 0 < m → (m - 1) / c ≤ m - 1 := fun h => Int.ediv_le_self _ (by omega)
  unfold Builtin.Range.small
  rw [hs, hn]
  generalize (m - 1) / c = q at *
  simp only [Builtin.Range.rangeFitsLong, Bool.and_eq_true, Bool.or_eq_true, decide_eq_true_eq, beq_iff_eq]
  split
  · rename_i hm
    have := e2 hm
    have := e3 hm
    refine ⟨by omega, .inr ?_⟩
    rw [Bool.and_eq_true, decide_eq_true_eq, decide_eq_true_eq]
    omega
  · refine ⟨by omega, .inl rfl⟩
/-- .. with a step of two -/
theorem rgc2 {m : Int} (h0 : 0 ≤ m) (h1 : m < 2 ^ 40) : RgC 0 m 2 (Int.toNat ((m + 1) / 2)) := by
  refine rgc_up (by omega) h1 (by decide) (by decide) ?_
  split <;> omega
theorem rgc3 {m : Int} (h0 : 0 ≤ m) (h1 : m < 2 ^ 40) : RgC 0 m 3 (Int.toNat ((m + 2) / 3)) := by
  refine rgc_up (by omega) h1 (by decide) (by decide) ?_
  split <;> omega
theorem rgc4 {m : Int} (h0 : 0 ≤ m) (h1 : m < 2 ^ 40) : RgC 0 m 4 (Int.toNat ((m + 3) / 4)) := by
  refine rgc_up (by omega) h1 (by decide) (by decide) ?_
  split <;> omega
theorem rgc5 {m : Int} (h0 : 0 ≤ m) (h1 : m < 2 ^ 40) : RgC 0 m 5 (Int.toNat ((m + 4) / 5)) := by
  refine rgc_up (by omega) h1 (by decide) (by decide) ?_
  split <;> omega
theorem eqvAll_map {α : Type} [DecidableEq α] {g : α → PyData} (h : ∀ x y, PyData.eqv (g x) (g y) = decide (x = y)) : ∀ xs ys : List α, PyData.eqvAll (xs.map g) (ys.map g) = decide (xs = ys)
  | [], [] => rfl
  | [], _ :: _ => rfl
  | _ :: _, [] => rfl
  | x :: xs, y :: ys => by
    show (PyData.eqv (g x) (g y) && PyData.eqvAll (xs.map g) (ys.map g)) = _
    rw [h, eqvAll_map h xs ys]
    by_cases e : x = y
    · subst e
      by_cases e' : xs = ys
      · subst e'; simp
      · simp [e']
    · simp [e]
theorem eqv_ints (xs ys : List Int) : PyData.eqv (dI xs) (dI ys) = decide (xs = ys) :=
  eqvAll_map (fun x y => by show (x == y) = _; exact Bool.beq_eq_decide_eq x y) xs ys
theorem eqv_bls (xs ys : List Bool) : PyData.eqv (dB xs) (dB ys) = decide (xs = ys) :=
  eqvAll_map (fun x y => by show (x == y) = _; cases x <;> cases y <;> rfl) xs ys

/-! list.index of an int that is there -/
theorem flat_ints : ∀ xs : List Int, (xs.map V.int).all flatV = true
  | [] => rfl
  | _ :: xs => flat_ints xs
theorem ix_get {xs : List Int} {y : Int} (h : y ∈ xs) : (xs.map V.int)[xs.idxOf y]? = some (V.int y) := by
  rw [List.getElem?_map, List.getElem?_eq_getElem (List.idxOf_lt_length_of_mem h), List.getElem_idxOf]; rfl
theorem ix_eqv {y : Int} : eqV (V.int y) (V.int y) = true := by show (y == y) = true; exact beq_self_eq_true y
theorem ix_first (xs : List Int) (y : Int) : ∀ (m : Nat) (z : V), m < xs.idxOf y → (xs.map V.int)[m]? = some z → eqV z (V.int y) = false := fun m z hm e => by
  rw [List.getElem?_map] at e
  cases h : xs[m]? with
  | none => rw [h] at e; cases e
  | some w =>
    rw [h] at e; cases (Option.some.inj e)
    show (w == y) = false
    have hl := (List.getElem?_eq_some_iff.mp h)
    obtain ⟨hl, rfl⟩ := hl
    have := List.not_of_lt_findIdx (p := (· == y)) (xs := xs) (i := m) hm
    simpa using this

/-! isinstance of any scalar -/
def is_int : V → Bool
  | .int _ => true
  | .bl _ => true
  | _ => false
def is_bool : V → Bool
  | .bl _ => true
  | _ => false
/-- the scalars -/
def sca : V → Bool
  | .non => true
  | .bl _ => true
  | .int _ => true
  | .str z => PyData.strOk z
  | _ => false
def tyName : V → String
  | .non => "NoneType"
  | .bl _ => "bool"
  | .int _ => "int"
  | _ => "str"
theorem tyx_val {K : PySem.W.Frag} {H : Hp} {x : V} (h : sca x = true) : TyX K H x (.type (tyName x)) := by
  cases x with
  | non => exact .base .non
  | bl b => exact .base (.bl b)
  | int i => exact .base (.int i)
  | str z => exact .base (.str z)
  | byt _ => cases h
  | flt _ => cases h
  | ref _ => cases h
  | ty _ => cases h
theorem kit_int {K : PySem.W.Frag} {x : V} (h : sca x = true) : PySem.W.kitOne K (.type (tyName x)) (.type "int") = some (is_int x) := by
  cases x with
  | non => exact kit_ty (show kitB "NoneType" "int" = some false by decide +kernel)
  | bl b => exact kit_ty (show kitB "bool" "int" = some true by decide +kernel)
  | int i => exact kit_ty (show kitB "int" "int" = some true by decide +kernel)
  | str z => exact kit_ty (show kitB "str" "int" = some false by decide +kernel)
  | byt _ => cases h
  | flt _ => cases h
  | ref _ => cases h
  | ty _ => cases h
theorem kit_bool {K : PySem.W.Frag} {x : V} (h : sca x = true) : PySem.W.kitOne K (.type (tyName x)) (.type "bool") = some (is_bool x) := by
  cases x with
  | non => exact kit_ty (show kitB "NoneType" "bool" = some false by decide +kernel)
  | bl b => exact kit_ty (show kitB "bool" "bool" = some true by decide +kernel)
  | int i => exact kit_ty (show kitB "int" "bool" = some false by decide +kernel)
  | str z => exact kit_ty (show kitB "str" "bool" = some false by decide +kernel)
  | byt _ => cases h
  | flt _ => cases h
  | ref _ => cases h
  | ty _ => cases h
/-! lists of scalars -/
def toD : V → PyData
  | .bl b => .bool b
  | .int i => .int i
  | .str z => .str z
  | _ => .none
def dV (xs : List V) : PyData := .list (xs.map toD)
def Sca (xs : List V) : Prop := ∀ v ∈ xs, sca v = true
theorem Sca.nil : Sca [] := fun _ h => nomatch h
theorem Sca.cons {x : V} {xs : List V} (h : sca x = true) (hs : Sca xs) : Sca (x :: xs) := fun v hv => by
  rcases List.mem_cons.mp hv with rfl | hv
  · exact h
  · exact hs v hv
theorem Sca.app {xs ys : List V} (h : Sca xs) (h' : Sca ys) : Sca (xs ++ ys) := fun v hv => by
  rcases List.mem_append.mp hv with hv | hv
  · exact h v hv
  · exact h' v hv
theorem Sca.ints (xs : List Int) : Sca (xs.map V.int) := fun v hv => by
  obtain ⟨x, _, rfl⟩ := List.mem_map.mp hv; rfl
theorem Sca.bls (xs : List Bool) : Sca (xs.map V.bl) := fun v hv => by
  obtain ⟨x, _, rfl⟩ := List.mem_map.mp hv; rfl
theorem Sca.getD {xs : List V} (h : Sca xs) {i : Nat} {d : V} (hi : i < xs.length) : sca (xs.getD i d) = true := h _ (getD_mem hi)
theorem dp_val {K : PySem.W.Frag} {H : Hp} {v : V} (h : sca v = true) : Dp K H v (toD v) := by
  cases v with
  | non => exact .non
  | bl b => exact .bl b
  | int i => exact .int i
  | str z => exact .str z
  | byt _ => cases h
  | flt _ => cases h
  | ref _ => cases h
  | ty _ => cases h
theorem dp_valAll {K : PySem.W.Frag} {H : Hp} : ∀ {xs : List V}, Sca xs → DpAll K H xs (xs.map toD)
  | [], _ => .nil
  | x :: xs, h => .cons (dp_val (h x List.mem_cons_self)) (dp_valAll fun v hv => h v (List.mem_cons_of_mem _ hv))
theorem dp_vals {K : PySem.W.Frag} {H : Hp} {a : Addr} {xs : List V} (h : H a = some (.lst xs)) (hs : Sca xs) : Dp K H (.ref a) (dV xs) := .lst (SqL.of h) (dp_valAll hs)
theorem can_val {v : V} (h : sca v = true) : (toD v).canLay0 = true := by
  cases v with
  | str z => exact h
  | _ => rfl
theorem okd_val {n : Nat} {v : V} (h : sca v = true) : Okd n (toD v) := ⟨can_val h, by cases v <;> exact Nat.zero_le _⟩
theorem okd_vals {n : Nat} {xs : List V} (hs : Sca xs) : Okd (n + 1) (dV xs) := by
  refine ⟨?_, ?_⟩
  · show PyData.canLayAll0 (xs.map toD) = true
    induction xs with
    | nil => rfl
    | cons x xs ih =>
      show ((toD x).canLay0 && PyData.canLayAll0 (xs.map toD)) = true
      rw [can_val (hs x List.mem_cons_self), ih fun v hv => hs v (List.mem_cons_of_mem _ hv)]; rfl
  · exact Nat.succ_le_succ (Nat.le_trans (depthAll (n := 0) (fun v => by cases v <;> exact Nat.zero_le _) xs) (Nat.zero_le _))
end Rc
namespace Rc
open PySem PySem.Spec PyProof.Rows L2 RT
section
variable {prog : Program} {w : World} {A : Around} {E : Value → Shared → Prop} {s : Shared}
abbrev nilO (c : Nat) : Obj := { cls := .type "list", data := .seq #[] c }
/-- list.extend with a list's reversed iterator, into a new list at S -/
theorem rev_extend {it l S : Addr} {items : Array Value} {R : Result → Shared → Prop} {res : Value} {c0 : Nat} (hh : A.handled = none) (hit : s.heap.IsRevIter it l ((items.size : Int) - 1)) (hl : s.heap.IsList l items) (hne : l ≠ it)
    (hSi : S ≠ it) (hSl : S ≠ l) (hS : s.heap.get? S = some (nilO c0)) (hn : items.size ≤ sizeLine)
    (hR : ∀ h' tk acc c', (∀ b o, b ≠ S → b ≠ it → s.heap.get? b = some o → h'.get? b = some o) → h'.get? S = some { cls := .type "list", dict := none, data := .seq acc c', slots := #[] } →
      ItemsOf (fun i v => items[items.size - 1 - i]? = some v) acc items.size → R (.ok (.ret res)) { s with heap := h', toks := tk }) :
    wpAny (model prog w) A.in1 (Builtin.List.listExtendWith (.ref S) (.ref it) res)
      (fun fin z => match fin with | .done f => R (.ok f) z | .again c => c.quiet = true ∧ codeAny (model prog w) A c R z) (fun e z => R (.error e) z) s := by
  have W := (Walks.listRev (prog := prog) (w := w) (A := A.in1) hh it l hne items).toS
  have hf : S ∉ [it, l] := fun z => by
    rcases List.mem_cons.mp z with z | z
    · exact hSi z
    · exact hSl (List.mem_singleton.mp z)
  have ty : s.TypeIs (.ref it) "list_reverseiterator" := hit.typeIs
  have h1 : Builtin.List.listSameRef (.ref S) (.ref it) = false := by simp [Builtin.List.listSameRef, hSi]
  have h2 : (Value.type "list_reverseiterator" == Value.type "list") = false := by decide
  have h3 : (Value.type "list_reverseiterator" == Value.type "tuple") = false := by decide
  unfold Builtin.List.listExtendWith
  refine wpAny_bind (wpAny_typeOf ty ?_)
  simp only [h1, h2, h3, Bool.or_false, Bool.false_eq_true, if_false]
  refine wpAny_bind (wpAny_pyIter_revIter hit ?_)
  refine wpAny_bind (wpAny_holding ?_); unfold Builtin.List.listLengthHint
  refine wpAny_bind (wpAny_specialOf ty nolen_lri ?_)
  show wpAny _ A.in1 (specialOf (Value.ref it) (Str.ofString "__length_hint__") >>= _) _ _ _
  refine wpAny_bind (wpAny_specialOf ty hint_lri ?_)
  generalize hid : ("list_reverseiterator.__length_hint__" : String) = id0
  wp_delta
  rw [show splitId id0 = some ("list_reverseiterator", "__length_hint__") from by subst hid; decide +kernel]
  subst hid
  refine wpAny_bind (wpAny_isInstance (b := true) ty (by rw [isSubtype_type]; kernel_rfl) ?_)
  refine wpAny_pure ?_; rw [if_neg (by decide)]
  have e0 : ((items.size : Nat) : Int) - 1 - ((0 : Nat) : Int) = (items.size : Int) - 1 := by omega
  refine wpAny_pure ⟨plainId_quiet F.plain_extend_loop _, codeAny_extend_loopS W hn _ hf _ items.size 0 _ _ _ rfl (Nat.zero_le _) ⟨Nat.zero_le _, by rw [e0]; exact hit, hl⟩ hS (ItemsOf.nil _) fun z acc c' hm hz hacc => ?_⟩
  rw [Moved.eq_with hm]
  refine hR z.heap z.toks acc c' (fun b o h1 h2 e => hm.heap b o (fun hmem => ?_) e) hz hacc
  rcases List.mem_cons.mp hmem with q | q
  · exact h1 q
  · exact h2 (List.mem_singleton.mp q)
theorem call_list_rev {it l : Addr} {items : Array Value} {Q : Value → Shared → Prop} (hh : A.handled = none) (hit : s.heap.IsRevIter it l ((items.size : Int) - 1)) (hl : s.heap.IsList l items) (hne : l ≠ it) (hn : items.size ≤ sizeLine)
    (hQ : ∀ h' tk acc c', (∀ b o, b ≠ it → s.heap.get? b = some o → h'.get? b = some o) → h'.get? s.heap.objs.size = some { cls := .type "list", dict := none, data := .seq acc c', slots := #[] } →
      ItemsOf (fun i v => items[items.size - 1 - i]? = some v) acc items.size → Q (.ref s.heap.objs.size) { s with heap := h', toks := tk }) :
    wpAny (model prog w) A (call (.type "list") [.ref it]) Q E s := by
  refine callType_codes (Q₁ := fun obj z => obj = .ref s.heap.objs.size ∧ z = { s with heap := s.heap.push (nilO 0) }) F.called_list (F.typeCall_list_1 _) F.entry_list_init
    (code_list_new _ ⟨rfl, rfl⟩) fun obj z hz => ?_
  obtain ⟨rfl, rfl⟩ := hz
  obtain ⟨oi, hoi, _⟩ := id hit
  obtain ⟨ol, hol, _⟩ := id hl
  have hS : (s.heap.push (nilO 0)).get? s.heap.objs.size = some (nilO 0) := Heap.get?_push_size _ rfl
  have ni : s.heap.objs.size ≠ it := Nat.ne_of_gt (Heap.lt_size hoi)
  have nl : s.heap.objs.size ≠ l := Nat.ne_of_gt (Heap.lt_size hol)
  refine ⟨⟨_, hS, rfl⟩, F.args_list_init_2 _ _, ?_⟩
  show wpAny _ A.in1.in1 (do let old ← Builtin.List.listItems (.ref s.heap.objs.size); Builtin.List.listUpdate (.ref s.heap.objs.size) (fun _ => #[]); letGo old.toList.reverse; Builtin.List.listExtendWith (.ref s.heap.objs.size) (.ref it) .none) _ _ _
  refine wpAny_bind ?_; unfold Builtin.List.listItems
  refine wpAny_bind (wpAny_seqItems hS rfl (wpAny_pure ?_))
  show wpAny _ _ (updateSeq s.heap.objs.size (fun _ => #[]) >>= fun _ => letGo (#[] : Array Value).toList.reverse >>= fun _ => Builtin.List.listExtendWith (.ref s.heap.objs.size) (.ref it) .none) _ _ _
  refine wpAny_bind (wpAny_updateSeq hS rfl ?_)
  have hS2 := Heap.get?_update_self (Obj.mapSeq (fun _ => (#[] : Array Value))) hS rfl
  have oth : ∀ b o, b ≠ s.heap.objs.size → s.heap.get? b = some o → ((s.heap.push (nilO 0)).update s.heap.objs.size (Obj.mapSeq (fun _ => (#[] : Array Value)))).get? b = some o :=
    fun b o hb e => (Heap.get?_update_other _ _ (Ne.symm hb)).trans (Heap.get?_push_of_some _ e)
  refine wpAny_bind (wpAny_letGo ?_)
  refine rev_extend (A := A.in1) (s := { s with heap := _ }) hh (hit.at fun o e => oth _ _ ni.symm e) (hl.at fun o e => oth _ _ nl.symm e) hne ni nl hS2 hn fun h' tk acc c' hk hz hacc => ⟨rfl, ?_⟩
  exact hQ h' tk acc c' (fun b o hb e => hk b o (Nat.ne_of_lt (Heap.lt_size e)) hb (oth b o (Nat.ne_of_lt (Heap.lt_size e)) e)) hz hacc
end
section
variable {X : Cx}
/-- list(reversed(x)), x a list: a new list -/
def tListRev (K : PySem.W.Frag) (te : TE) : TE := fun σ H Q => te σ H fun v H1 => ∃ (a : Addr) (xs : List V), v = .ref a ∧ SqL K H1 a xs ∧ ∀ q, H1 q = none → Q (.ref q) (upd H1 q (.lst xs.reverse))
theorem pe_listRev {e : Expr} {te : TE} {p p2 pos pos2 : Pos} (hc : X.calm = true) (hg : Gl X "list") (hm : X.mg "list" = none) (hg2 : Gl X "reversed") (hm2 : X.mg "reversed" = none) (he : PE X e te)
    (hs : starEach [e] X.env = (false, eval e X.env) :: starEach [] X.env := by rfl)
    (hs2 : starEach [.Call (.Name "reversed" p2) [e] [] pos2] X.env = (false, eval (.Call (.Name "reversed" p2) [e] [] pos2) X.env) :: starEach [] X.env := by rfl) :
    PE X (.Call (.Name "list" p) [.Call (.Name "reversed" p2) [e] [] pos2] [] pos) (tListRev X.K te) := by
  refine ⟨fun pins s σ H Q I h => Call_ (ld_blt I hg hm (show bootBuiltins ("list" : Str) = some (.type "list") by decide +kernel) (PyProof.Rows.callWith_type1 (args_cons (Call_ (ld_blt I hg2 hm2 PyProof.Rows.boot_reversed (PyProof.Rows.callWith_type1 (args_cons (thn (he.run pins s σ H _ I h) fun u s1 ⟨v, H1, I1, r1, q1⟩ => args_nil ?_) hs) hs rfl))) hs2) hs2 rfl))⟩
  obtain ⟨a, xs, ev, hq, q⟩ := q1
  subst ev; obtain rfl : u = Value.ref a := r1
  obtain ⟨its, rv, pl, hz⟩ := I1.list hq
  refine call_reversed_list pl.isList (args_nil ?_)
  have k0 : ∀ b o, s1.heap.get? b = some o → (s1.heap.push (revObj a ((its.toArray.size : Int) - 1))).get? b = some o := fun b o z => Heap.get?_push_of_some _ z
  have I2 : Inv X pins σ H1 { s1 with heap := s1.heap.push (revObj a ((its.toArray.size : Int) - 1)) } := I1.kept (t' := s1.toks) k0
  have hl := pl.isList
  obtain ⟨ol, hol, _⟩ := id hl
  have hne : a ≠ s1.heap.objs.size := Nat.ne_of_lt (Heap.lt_size hol)
  have hn : its.toArray.size ≤ sizeLine := by rw [List.size_toArray, ← rv.length]; exact hz
  have hf := I1.hok.fresh (Nat.le_refl s1.heap.objs.size)
  refine call_list_rev (s := { s1 with heap := s1.heap.push (revObj a ((its.toArray.size : Int) - 1)) }) (I1.ok.hd hc) ⟨_, Heap.get?_push_size _ rfl, rfl, rfl⟩ (hl.push _) hne hn fun h' tk acc c' hk hS hi => ?_
  have hsz : s1.heap.objs.size ≤ (s1.heap.push (revObj a ((its.toArray.size : Int) - 1))).objs.size := by rw [Heap.size_push]; omega
  have kk : ∀ b o, s1.heap.get? b = some o → h'.get? b = some o := fun b o z => hk b o (Nat.ne_of_lt (Heap.lt_size z)) (k0 b o z)
  refine ⟨.ref (s1.heap.push (revObj a ((its.toArray.size : Int) - 1))).objs.size, upd H1 (s1.heap.push (revObj a ((its.toArray.size : Int) - 1))).objs.size (.lst xs.reverse),
    I1.laid kk hsz (show ObjOk X.prog X.w _ _ _ (.lst xs.reverse) from ⟨by rw [List.length_reverse]; exact hz, acc.toList, c', vals_rev rv hi, ?_⟩), rfl, q _ (I1.hok.fresh hsz)⟩
  rw [Array.toArray_toList]
  exact hS
end
end Rc
namespace Rc
open PySem PySem.Spec PyProof.Rows L2

/-! rows: the lists of a list of lists, at the end of what is own -/
abbrev RI := Addr × List Int
def rowHO (r : RI) : Addr × HO := (r.1, .lst (r.2.map V.int))
def rowsOwn (rows : List RI) : List (Addr × HO) := rows.map rowHO
def rowRef (r : RI) : V := V.ref r.1
section
variable {H0 H H' : Hp} {own pre : List (Addr × HO)} {p : Addr} {o : HO} {rows : List RI}
theorem Fr.rowmem (f : Fr H0 H (pre ++ rowsOwn rows)) {r : RI} (h : r ∈ rows) : H r.1 = some (.lst (r.2.map V.int)) :=
  f.mem (List.mem_append_right _ (List.mem_map.mpr ⟨r, h, rfl⟩))
theorem Fr.rowat (f : Fr H0 H (pre ++ rowsOwn rows)) {i : Nat} (d : RI) (h : i < rows.length) : H (rows.getD i d).1 = some (.lst ((rows.getD i d).2.map V.int)) :=
  f.rowmem (getD_mem h)
/-- the front list becomes a row -/
theorem Fr.rowin {x : List Int} (f : Fr H0 H ((p, .lst (x.map V.int)) :: (pre ++ rowsOwn rows))) : Fr H0 H (pre ++ rowsOwn (rows ++ [(p, x)])) := by
  refine f.perm ?_
  have e : pre ++ rowsOwn (rows ++ [(p, x)]) = (pre ++ rowsOwn rows) ++ [(p, HO.lst (x.map V.int))] := by
    unfold rowsOwn; rw [List.map_append, List.append_assoc]; rfl
  rw [e]
  exact (List.perm_append_singleton _ _).symm
theorem set_sub {α : Type} : ∀ {l : List α} {i : Nat} {z : α}, i < l.length → ∃ l', (l.set i z).Perm (z :: l') ∧ l'.Sublist l
  | [], _, _, h => by simp at h
  | x :: l, 0, z, _ => ⟨l, List.Perm.refl _, List.sublist_cons_self _ _⟩
  | x :: l, i + 1, z, h => by
    obtain ⟨l', h1, h2⟩ := set_sub (l := l) (i := i) (z := z) (by simpa using h)
    exact ⟨x :: l', (h1.cons x).trans (List.Perm.swap _ _ _), h2.cons_cons x⟩
/-- the front list becomes the i-th row -/
theorem Fr.rowset {x : List Int} {i : Nat} (f : Fr H0 H ((p, .lst (x.map V.int)) :: (pre ++ rowsOwn rows))) (h : i < rows.length) : Fr H0 H (pre ++ rowsOwn (rows.set i (p, x))) := by
  obtain ⟨l', h1, h2⟩ := set_sub (z := ((p, x) : RI)) h
  have e1 : (rowsOwn (rows.set i (p, x))).Perm (rowHO (p, x) :: rowsOwn l') := h1.map rowHO
  have g : Fr H0 H ((p, .lst (x.map V.int)) :: (pre ++ rowsOwn l')) := f.sub (List.Sublist.cons_cons _ (List.Sublist.append (List.Sublist.refl _) (h2.map _)))
  refine g.perm ?_
  have e2 : ((p, HO.lst (x.map V.int)) :: (pre ++ rowsOwn l')).Perm (pre ++ ((p, HO.lst (x.map V.int)) :: rowsOwn l')) := List.perm_middle.symm
  exact e2.trans (List.Perm.append_left _ e1.symm)
theorem nodup_split {α β : Type} {f : α → β} {l : List α} {i : Nat} (hn : (l.map f).Nodup) (h : i < l.length) {j : Nat} (hj : j < l.length) (hne : j ≠ i) : f l[j] ≠ f l[i] := by
  intro e
  have h1 : (l.map f)[j]'(by simpa using hj) = (l.map f)[i]'(by simpa using h) := by simpa using e
  exact hne ((List.getElem_inj (h₀ := by simpa using hj) (h₁ := by simpa using h) hn).mp h1)
/-- a row is written -/
theorem Fr.rowwr {i : Nat} {y : List Int} (f : Fr H0 H (pre ++ rowsOwn rows)) (h : i < rows.length) : Fr H0 (upd H rows[i].1 (.lst (y.map V.int))) (pre ++ rowsOwn (rows.set i (rows[i].1, y))) := by
  obtain ⟨l', h1, h2⟩ := set_sub (z := ((rows[i].1, y) : RI)) h
  obtain ⟨l2, h3, h4⟩ := set_sub (z := rows[i]) h
  rw [List.set_getElem_self] at h3
  have hlen : l'.Perm l2 := by
    have a1 : (rows.set i (rows[i].1, y)).Perm ((rows[i].1, y) :: rows.eraseIdx i) := set_er h
    have a2 : rows.Perm (rows[i] :: rows.eraseIdx i) := by
      have := set_er (l := rows) (z := rows[i]) h
      rwa [List.set_getElem_self] at this
    exact ((List.perm_cons _).mp (h1.symm.trans a1)).trans ((List.perm_cons _).mp (h3.symm.trans a2)).symm
  have e0 : (pre ++ rowsOwn rows).Perm (rowHO rows[i] :: (pre ++ rowsOwn l')) :=
    (List.Perm.append_left _ ((h3.trans (hlen.symm.cons _)).map rowHO)).trans List.perm_middle
  have g := (f.perm e0 : Fr H0 H ((rows[i].1, .lst (rows[i].2.map V.int)) :: (pre ++ rowsOwn l')))
  refine (Fr.wr (o' := .lst (y.map V.int)) g).perm ?_
  have e1 : (rowsOwn (rows.set i (rows[i].1, y))).Perm (rowHO (rows[i].1, y) :: rowsOwn l') := h1.map rowHO
  exact List.perm_middle.symm.trans (List.Perm.append_left _ e1.symm)
where
  set_er {α : Type} : ∀ {l : List α} {i : Nat} {z : α}, i < l.length → (l.set i z).Perm (z :: l.eraseIdx i)
  | [], _, _, h => by simp at h
  | x :: l, 0, z, _ => List.Perm.refl _
  | x :: l, i + 1, z, h => by
    have := set_er (l := l) (i := i) (z := z) (by simpa using h)
    exact (this.cons x).trans (List.Perm.swap _ _ _)
theorem Fr.rowsrev (f : Fr H0 H (pre ++ rowsOwn rows)) : Fr H0 H (pre ++ rowsOwn rows.reverse) := by
  refine f.perm (List.Perm.append_left _ ?_)
  unfold rowsOwn; rw [List.map_reverse]
  exact (List.reverse_perm _).symm
theorem atLastD {α : Type} {f : α → V} {xs : List α} (d : α) (h : 0 < xs.length) : atI (xs.map f) (-1) = some (f (xs.getD (xs.length - 1) d)) := by
  have e : xs.getLastD d = xs.getD (xs.length - 1) d := by
    rw [List.getLastD_eq_getLast?, List.getLast?_eq_getElem?, List.getD_eq_getElem?_getD]
  rw [← e]; exact atLast d h
theorem Fr.rowwrD {i : Nat} {y : List Int} {o' : HO} (d : RI) (f : Fr H0 H (pre ++ rowsOwn rows)) (h : i < rows.length) (eo : o' = .lst (y.map V.int)) : Fr H0 (upd H (rows.getD i d).1 o') (pre ++ rowsOwn (rows.set i ((rows.getD i d).1, y))) := by
  subst eo
  have e : rows.getD i d = rows[i] := by rw [List.getD_eq_getElem?_getD, List.getElem?_eq_getElem h]; rfl
  rw [e]; exact f.rowwr h
theorem rowRef_set (rows : List RI) (i : Nat) (d : RI) (y : List Int) : List.map rowRef rows = List.map rowRef (rows.set i ((rows.getD i d).1, y)) := by
  apply List.ext_getElem?
  intro j
  by_cases hj : i = j
  · subst hj
    by_cases hl : i < rows.length
    · simp [hl, rowRef, List.getD_eq_getElem?_getD]
    · simp [hl]
  · simp [hj]
/-- a new list of new lists, from a call -/
theorem Fr.crows (f : Fr H0 H own) (s : Same H H') (h : H p = none) (e : H' p = some o) (hr : ∀ z ∈ rows, H z.1 = none ∧ H' z.1 = some (.lst (z.2.map V.int))) (hn : (p :: rows.map (·.1)).Nodup) :
    Fr H0 H' ((p, o) :: (own ++ rowsOwn rows)) := by
  have g := f.cnew s h e
  refine ⟨g.same, fun z hz => ?_, ?_⟩
  · rcases List.mem_cons.mp hz with rfl | hz
    · exact g.frs _ List.mem_cons_self
    · rcases List.mem_append.mp hz with hz | hz
      · exact g.frs z (List.mem_cons_of_mem _ hz)
      · obtain ⟨r, hr', rfl⟩ := List.mem_map.mp hz
        exact ⟨f.fresh (hr r hr').1, (hr r hr').2⟩
  · rw [List.map_cons, List.map_append]
    have e1 : (rowsOwn rows).map (·.1) = rows.map (·.1) := by unfold rowsOwn; rw [List.map_map]; rfl
    rw [e1]
    have hn' := List.nodup_cons.mp hn
    have gn := List.nodup_cons.mp g.nd
    refine List.nodup_cons.mpr ⟨fun hm => ?_, List.nodup_append.mpr ⟨gn.2, hn'.2, fun a ha b hb hab => ?_⟩⟩
    · rcases List.mem_append.mp hm with hm | hm
      · exact gn.1 hm
      · exact hn'.1 hm
    · subst hab
      obtain ⟨z, hz, rfl⟩ := List.mem_map.mp ha
      obtain ⟨r, hr', e2⟩ := List.mem_map.mp hb
      have := (hr r hr').1
      rw [e2, (f.frs z hz).2] at this
      cases this
/-- what is handed back: outer list and rows -/
theorem Fr.rowsback (f : Fr H0 H ((p, o) :: rowsOwn rows)) : (∀ z ∈ rows, H0 z.1 = none ∧ H z.1 = some (.lst (z.2.map V.int))) ∧ (p :: rows.map (·.1)).Nodup := by
  refine ⟨fun z hz => f.frs (rowHO z) (List.mem_cons_of_mem _ (List.mem_map.mpr ⟨z, hz, rfl⟩)), ?_⟩
  have := f.nd
  rw [List.map_cons] at this
  have e1 : (rowsOwn rows).map (·.1) = rows.map (·.1) := by unfold rowsOwn; rw [List.map_map]; rfl
  rwa [e1] at this
end
/-- rows from outside -/
def Rows (H : Hp) (rows : List RI) : Prop := ∀ r ∈ rows, H r.1 = some (.lst (r.2.map V.int))
theorem Rows.same {H H' : Hp} {rows : List RI} (h : Rows H rows) (s : Same H H') : Rows H' rows := fun r hr => s _ _ (h r hr)
theorem Rows.at {H : Hp} {rows : List RI} (h : Rows H rows) {i : Nat} (d : RI) (hi : i < rows.length) : H (rows.getD i d).1 = some (.lst ((rows.getD i d).2.map V.int)) := h _ (getD_mem hi)
theorem rows_nil {H : Hp} : Rows H [] := fun _ h => nomatch h
theorem rows_cons {H : Hp} {a : Addr} {x : List Int} {rows : List RI} (h : H a = some (.lst (x.map V.int))) (hr : Rows H rows) : Rows H ((a, x) :: rows) := fun r h' => by
  rcases List.mem_cons.mp h' with rfl | h'
  · exact h
  · exact hr r h'

/-! whole numbers among scalars -/
def wholeV (v : V) : Bool := is_int v && !is_bool v
theorem wholeV_int {v : V} (h : wholeV v = true) : ∃ z, v = V.int z := by
  cases v with
  | int z => exact ⟨z, rfl⟩
  | bl b => cases h
  | _ => cases h
theorem wholeV_of (z : Int) : wholeV (V.int z) = true := rfl
/-- a part of a word for m heaps -/
def wordPart (m : Nat) : V → Bool
  | .int x => decide (0 ≤ x) && decide (x < (m : Int))
  | _ => false
theorem wordPart_no {m : Nat} {v : V} (h : wholeV v = false) : wordPart m v = false := by
  cases v with
  | int z => cases h
  | _ => rfl
theorem wp_no {m : Nat} {v : V} (h : wholeV v = false) : V.bl false = V.bl (wordPart m v) := by rw [wordPart_no h]
theorem wp_f1 {m : Nat} {z : Int} (h : ¬ 0 ≤ z) : V.bl false = V.bl (wordPart m (V.int z)) := by show V.bl false = V.bl (decide (0 ≤ z) && decide (z < (m : Int))); rw [decide_eq_false h]; rfl
theorem wp_f2 {m : Nat} {z : Int} (h : ¬ z < (m : Int)) : V.bl false = V.bl (wordPart m (V.int z)) := by show V.bl false = V.bl (decide (0 ≤ z) && decide (z < (m : Int))); rw [decide_eq_false h, Bool.and_false]
theorem wp_t {m : Nat} {z : Int} (h : 0 ≤ z) (h' : z < (m : Int)) : V.bl true = V.bl (wordPart m (V.int z)) := by show V.bl true = V.bl (decide (0 ≤ z) && decide (z < (m : Int))); rw [decide_eq_true h, decide_eq_true h']; rfl
def isWordV (m : Nat) (word : List V) (n : Int) : Bool := decide ((word.length : Int) = n) && word.all (wordPart m)
theorem isWordV_ints {m : Nat} {w : List Int} {n : Int} (h : ∀ x ∈ w, 0 ≤ x ∧ x < m) (hn : (w.length : Int) = n) : isWordV m (w.map V.int) n = true := by
  unfold isWordV
  rw [List.length_map, decide_eq_true hn, Bool.true_and, List.all_eq_true]
  intro v hv
  obtain ⟨x, hx, rfl⟩ := List.mem_map.mp hv
  show (decide (0 ≤ x) && decide (x < (m : Int))) = true
  rw [decide_eq_true (h x hx).1, decide_eq_true (h x hx).2]; rfl
/-- the two parts of a list beside a place -/
theorem cut_lo {α : Type} {xs : List α} {i : Int} (h0 : 0 ≤ i) (h1 : i ≤ xs.length) : cutL xs none (some i) = xs.take i.toNat := by
  obtain ⟨k, rfl⟩ := Int.eq_ofNat_of_zero_le h0
  unfold cutL
  rw [HT.sIx_none, HT.sIx_nat, Int.toNat_natCast, List.drop_zero, Nat.sub_zero, Nat.min_eq_left (by omega)]
theorem cut_hi {α : Type} {xs : List α} {i : Int} (h0 : 0 ≤ i) (h1 : i ≤ xs.length) : cutL xs (some i) none = xs.drop i.toNat := by
  obtain ⟨k, rfl⟩ := Int.eq_ofNat_of_zero_le h0
  unfold cutL
  rw [HT.sIx_none, HT.sIx_nat, Int.toNat_natCast, Nat.min_eq_left (by omega)]
  exact List.take_of_length_le (by rw [List.length_drop]; omega)
theorem cut_mid {α : Type} {xs : List α} {i j : Int} (h0 : 0 ≤ i) (hij : i ≤ j) (h1 : j ≤ xs.length) : cutL xs (some i) (some j) = (xs.drop i.toNat).take (j - i).toNat := by
  obtain ⟨k, rfl⟩ := Int.eq_ofNat_of_zero_le h0
  obtain ⟨l, rfl⟩ := Int.eq_ofNat_of_zero_le (show 0 ≤ j by omega)
  unfold cutL
  rw [HT.sIx_nat, HT.sIx_nat, Int.toNat_natCast, Nat.min_eq_left (by omega), Nat.min_eq_left (by omega)]
  congr 1; omega
theorem cut_erase {α : Type} {xs : List α} {i : Int} (h0 : 0 ≤ i) (h1 : i < xs.length) : cutL xs none (some i) ++ cutL xs (some (i + 1)) none = xs.eraseIdx i.toNat := by
  rw [cut_lo h0 (by omega), cut_hi (by omega) (by omega), show (i + 1).toNat = i.toNat + 1 by omega]
  exact (List.eraseIdx_eq_take_drop_succ _ _).symm
theorem lc_lx {α β : Type} {enc : β → V} {f : α → β} {ns : List α} {i : Nat} {y : α} {v : V} (h : ns[i]? = some y) (e : v = enc (f y)) : HO.lst ((((ns.take i).map f).map enc) ++ [v]) = .lst (((ns.take (i + 1)).map f).map enc) := by
  rw [e]; exact lc_l h
theorem lc_rx {β : Type} {enc : β → V} (f : Nat → β) (i : Nat) {v : V} (e : v = enc (f i)) : HO.lst ((((List.range i).map f).map enc) ++ [v]) = .lst (((List.range (i + 1)).map f).map enc) := by
  rw [e]; exact lc_r f i
theorem cut_one {α : Type} {xs : List α} (h : 0 < xs.length) : cutL xs (some 1) none = xs.drop 1 := cut_hi (by decide) (by omega)
theorem lc_app {β : Type} {enc : β → V} {xs ys : List β} {x : β} (e : xs ++ [x] = ys) : HO.lst (xs.map enc ++ [enc x]) = .lst (ys.map enc) := by
  rw [← e, List.map_append]; rfl
theorem count_filter (w : List Int) (a : Int) : (List.map (fun y : Int => y) (List.filter (fun y : Int => decide (y = a)) w)).length = w.count a := by
  rw [List.length_map, List.count_eq_length_filter]
  congr 1
end Rc
namespace Rc
open PySem PySem.Spec PyProof.Rows L2

/-! list.count of a truth -/
section
variable {X : Cx}
theorem bools_of_vals : ∀ {bs : List Bool} {us : List Value}, Vals (bs.map V.bl) us → us = bs.map Value.bool
  | [], _, h => by cases h; rfl
  | b :: bs, _, h => by
    cases h with
    | cons r rr =>
      cases r
      rw [bools_of_vals rr]; rfl
theorem countP_bools (k : Bool) : ∀ bs : List Bool, (bs.map Value.bool).countP (isBoolOf k) = bs.count k
  | [] => rfl
  | b :: bs => by
    rw [List.map_cons, List.countP_cons, List.count_cons, countP_bools k bs] <;> rfl
def rCntB (K : PySem.W.Frag) : V → List V → Hp → VK → Prop := fun x xs H Q => ∃ (p : Addr) (bs : List Bool) (k : Bool), x = .ref p ∧ xs = [.bl k] ∧ SqL K H p (bs.map V.bl) ∧ Q (.int (bs.count k : Nat)) H
theorem mt_lcountB : MtR X "list.count" (rCntB X.K) := by
  intro pins s σ H x xs v us Q I rx rxs h
  obtain ⟨p, bs, k, rfl, rfl, hs, q⟩ := h
  cases rx
  obtain ⟨u, rfl, ru⟩ := rxs.one
  cases ru
  obtain ⟨its, rv, ⟨⟨cls, dd, data, sl⟩, n, ho, hc, hdn, hd⟩, hlen⟩ := I.list hs
  simp only at hc hd
  subst hc hd
  have ei := bools_of_vals rv
  subst ei
  refine call_meets PySem.F.slot_list_count ⟨_, ho, rfl⟩ PySem.F.entry_list_count (PySem.F.args_list_count_2 _ _)
    (SeqAt.list_countAt p (bs.map Value.bool).toArray n dd sl (.bool k) (isBoolOf k)) ⟨ho, fun y hy => ?_, ?_⟩
  · have hy' : y ∈ bs.map Value.bool := by simpa using hy
    obtain ⟨b, _, rfl⟩ := List.mem_map.mp hy'
    exact SeqAt.EqAt.bool_bool b k
  · refine ⟨.int (bs.count k : Nat), H, I.tok _, ⟨s.toks, ?_⟩, q⟩
    show Value.int (((bs.map Value.bool).toArray.toList.countP (isBoolOf k) : Nat) : Int) s.toks = Value.int ((bs.count k : Nat) : Int) s.toks
    rw [show (bs.map Value.bool).toArray.toList = bs.map Value.bool from rfl, countP_bools]
end

/-! the exception that a suite holds -/
section
variable {X : Cx} {a : Addr} {oe : Obj} {cls : Value} {d : Option Addr}
/-- isinstance(e, c), e the exception that the suite holds: of the class D -/
def rIsP (K : PySem.W.Frag) (a : Addr) (cls : Value) (d : Option Addr) : List V → Hp → VK → Prop := fun xs H Q =>
  ∃ (D : Addr) (c : V) (cv : Value) (b : Bool), cls = .ref D ∧ d = none ∧ ExcC K D ∧ xs = [.ref a, c] ∧ (∀ u, RelV c u → u = cv) ∧ PySem.W.kitOne K (.ref D) cv = some b ∧ Q (.bl b) H
theorem call_isP (hz : Zc cls d oe) (hf : ∃ vs, oe.data = .fields vs) (hp : (a, oe) ∈ X.pn) : CallR X (.builtin "isinstance") (rIsP X.K a cls d) := by
  intro pins s σ H xs us Q I r h
  obtain ⟨D, c, cv, b, rfl, rfl, C, rfl, hcv, e, q⟩ := h
  cases r with
  | cons rx rr =>
    cases rr with
    | cons rt rr =>
      cases rr
      cases rx
      have ec := hcv _ rt
      subst ec
      obtain ⟨hget, _⟩ := I.pin (a, oe) (List.mem_append.mpr (.inl hp))
      obtain ⟨vs, hv⟩ := hf
      have J : PySem.W.InstAt s.heap a oe D none := by
        obtain ⟨oc, od, oda, osl⟩ := oe
        obtain ⟨h1, h2⟩ := hz
        dsimp only at h1 h2 hv
        subst h1 h2 hv
        exact ⟨hget, rfl, rfl, trivial⟩
      exact PySem.W.kia_one (PySem.W.handS_kitx_exc C.hg C.hk C.hs C.hd C.ha C.hn C.ht C.hm) I.kIn J e (fun z => nomatch z) fun tk => ⟨.bl b, H, I.kept (t' := tk) fun _ _ z => z, rfl, q⟩
theorem rel_ref {C : Addr} : ∀ u, RelV (.ref C) u → u = .ref C := fun u h => h
theorem rel_ty {t : String} : ∀ u, RelV (.ty t) u → u = .type t := fun u h => h
end

/-! defs that are called within a suite, with the exception -/
open L2H (RoomH PinOk cxH inv_startH)
/-- p's object is the exception that is handled, of the class D -/
structure HotZ (A : Around) (D : Addr) (p : Addr × Obj) : Prop where
  hd : A.handled = some (.ref p.1)
  cl : Zc (.ref D) none p.2
  dt : ∃ vs, p.2.data = .fields vs
structure FnE (P : Program) (w : World) (K : PySem.W.Frag) (mg : Str → Option Value) (base : Heap) (k : Nat) (f : Addr) (fd : FuncData) (ps : List Str) (sp : Addr → Addr → Sp) : Prop where
  len : ∀ a D vs H Q E, sp a D vs H Q E → vs.length = ps.length
  run : ∀ (A : Around) (outer : List Env) (s : Shared) (H : Hp) (args : Args) (us : List Value) (vs : List V) (Q : VK) (E : XK) (p : Addr × Obj) (D : Addr), RoomH k A → HotZ A D p → PinOk outer H s p → Env0 P w K mg base A outer s H → BindsTo s fd args (ps.zip us) → Vals vs us → sp p.1 D vs H Q E →
    codeAny (model P w) A (.call (.ref f) args) (CR CX0 outer P w H s Q E) s
theorem fn_ofE {P : Program} {w : World} {K : PySem.W.Frag} {mg : Str → Option Value} {base : Heap} {k : Nat} {f : Addr} {name qual : Str} {params : Arguments} {body : List Stmt} {scope : Scope} {dV kV doc pm cdv ct oc : Value} {an od : Option Addr}
    {osl : Array (Option Value)} {N ps : List Str} {sp : Addr → Addr → Sp} (lk : K.lookup f = some ⟨oc, od, .func (PySem.W.fnOf name qual params body scope dV kV doc pm an cdv ct), osl⟩) (hcd : PySem.W.codeIn K cdv qual = true) (S : FnScope N ps scope)
    (len : ∀ a D vs H Q E, sp a D vs H Q E → vs.length = ps.length)
    (hbody : ∀ (A : Around) (outer : List Env) (s : Shared) (H : Hp) (vs : List V) (Q : VK) (E : XK) (p : Addr × Obj) (D : Addr), HotZ A D p → RoomH k (A.deeper (envOfC qual scope s.heap.objs.size f cdv)) → sp p.1 D vs H Q E →
      ∃ t, PSs (cxH CX0 P w K mg base N qual scope f cdv A outer s H E p) body t ∧ t { nx := fun _ H' => Q .non H', rt := Q } (L2.start N vs) H) :
    FnE P w K mg base (k + 1) f (PySem.W.fnOf name qual params body scope dV kV doc pm an cdv ct) ps sp := by
  refine ⟨len, fun A outer s H args us vs Q E p D hr hot hpin e0 hb r hsp => ?_⟩
  have hl := len _ _ _ _ _ _ hsp
  have KX : K.In s.heap := e0.mod.kin.keeps fun b o e => (e0.bs b o e).1
  have lim : s.heap.NoLimit := e0.mod.nolimit.keeps fun b o e => (e0.bs b o e).1
  have hkind : ∀ y ∈ ps.zip us, scope.names.lookup y.1 = some .local ∨ (scope.names.lookup y.1 = some .cell ∧ ((cellsFrom (s.heap.objs.size + 1) scope.names []).lookup y.1).isSome = true) := fun ⟨n, v⟩ hy => by
    rcases S.par n (List.of_mem_zip hy).1 with q | q
    · exact .inl q
    · exact .inr ⟨q, PySem.W.cellsFrom_some _ _ _ (.inl q)⟩
  refine codeAny_call_function hr.depth (KX _ _ lk) rfl S.co S.gen rfl (PySem.W.codeRec_of KX hcd) (hb _ _ _ _ ?_)
  refine wpAny_newFunctionEnv_cells S.kind hkind fun env he s1 x => ?_
  subst he
  refine ⟨lim.keeps x.toInCall.keep, codeAny_func ?_⟩
  obtain ⟨t, ht, hq⟩ := hbody A outer s H vs Q E p D hot (hr.deeper _) hsp
  have I : Inv (cxH CX0 P w K mg base N qual scope f cdv A outer s H E p) [] (L2.start N vs) H s1 := inv_startH S hpin e0 hl r x
  refine wpAny_mono (ht.run [] s1 (L2.start N vs) H _ I hq) (fun fl s' hs => ?_) fun e s' hs => hs
  have fin : ∀ {σ' : L2.St} {H' : Hp} {v : V} {u : Value}, Inv (cxH CX0 P w K mg base N qual scope f cdv A outer s H E p) [] σ' H' s' → RelV v u → Q v H' → CE outer P w H s Q u s' :=
    fun {σ' H' v u} J rv q => ⟨v, H', J.os, J.bare, J.base, J.hok, rv, q⟩
  cases fl with
  | ret u =>
    obtain ⟨v, σ', H', J, rv, q⟩ := hs
    exact fin J rv q
  | next =>
    obtain ⟨σ', H', J, q⟩ := hs
    exact fin (v := V.non) (u := Value.none) J rfl q
  | brk =>
    obtain ⟨_, _, _, q⟩ := hs
    exact False.elim q
  | cont =>
    obtain ⟨_, _, _, q⟩ := hs
    exact False.elim q
section
variable {P : Program} {w : World} {K : PySem.W.Frag} {mg : Str → Option Value} {base : Heap}
/-- as Fun.ok, for a def that a suite calls -/
theorem Fun.okE {x qual : Str} {st : Stmt} {f : Addr} {fd : FuncData} {N ps : List Str} {k : Nat} {sp : Addr → Addr → Sp} (F : Fun K x qual st f fd) (S : FnScope N ps (defScope st)) (len : ∀ a D vs H Q E, sp a D vs H Q E → vs.length = ps.length)
    (hbody : ∀ (cdv : Value) (A : Around) (outer : List Env) (s : Shared) (H : Hp) (vs : List V) (Q : VK) (E : XK) (p : Addr × Obj) (D : Addr), HotZ A D p → RoomH k (A.deeper (envOfC qual (defScope st) s.heap.objs.size f cdv)) → sp p.1 D vs H Q E →
      ∃ t, PSs (cxH CX0 P w K mg base N qual (defScope st) f cdv A outer s H E p) (defBody st) t ∧ t { nx := fun _ H' => Q .non H', rt := Q } (start N vs) H) : FnE P w K mg base (k + 1) f fd ps sp := by
  obtain ⟨oc, od, kV, doc, pm, an, cdv, ct, osl, rfl, lk, hcd⟩ := F.ex
  exact fn_ofE lk hcd S len fun A outer s H vs Q E p D hz hr hsp => hbody cdv A outer s H vs Q E p D hz hr hsp
end
theorem roomS {X : Cx} {k : Nat} {a : Addr} {pn : List (Addr × Obj)} (hr : Room k X.A) : RoomH k (X.suite a pn).A := ⟨hr.dp, hr.un⟩
section
variable {X : Cx} {k : Nat} {f : Addr} {fd : FuncData} {ps : List Str} {sp : Addr → Addr → Sp} {x : Str} {q pos : Pos} {e : Expr} {es : List Expr} {t : TA} {a : Addr} {oe : Obj} {cls : Value} {d : Option Addr} {pn : List (Addr × Obj)}
/-- f(e, ..) within a suite, f asks about the exception -/
def tCallE (a : Addr) (cls : Value) (d : Option Addr) (sp : Addr → Addr → Sp) (t : TA) : TE := fun σ H Q => ∃ D, cls = .ref D ∧ d = none ∧ t σ H fun vs H1 => sp a D vs H1 Q E0
theorem pe_callE (hz : Zc cls d oe) (hf : ∃ vs, oe.data = .fields vs) (F : FnE X.prog X.w X.K X.mg X.base k f fd ps sp) (hr : RoomH k (X.suite a ((a, oe) :: pn)).A) (hg : Gl X x) (hm : X.mg x = some (.ref f)) (hk : PySem.W.keepIn X.K (.ref f) = true) (hb : Binds X.K fd ps [])
    (ha : PA (X.suite a ((a, oe) :: pn)) (e :: es) t) (hdb : (x == ("__debug__" : Str)) = false := by decide) (he : starEach (e :: es) X.env = (false, eval e X.env) :: starEach es X.env := by rfl) (hpl : (backTo pos (starEach es X.env)).any (·.1) = false := by rfl) :
    PE (X.suite a ((a, oe) :: pn)) (.Call (.Name x q) (e :: es) [] pos) (tCallE a cls d sp t) := by
  refine ⟨fun pins s σ H Q I h => ?_⟩
  obtain ⟨D, rfl, rfl, h⟩ := h
  have hg' : Gl (X.suite a ((a, oe) :: pn)) x := hg
  refine wpAny_Call_Name_kw (ld_glob I hg' hm ?_ hdb)
  refine PySem.W.callWith_K (h₀ := X.base) I.ok.mod.kin hk (thn (ha.run pos pins s σ H _ I h) fun us s1 ⟨vs, H1, I1, r, q⟩ => ⟨I1.kIn, ?_⟩) he hpl
  have hl : us.length = ps.length := by rw [← r.length]; exact F.len _ _ _ _ _ _ q
  have b := hb s1 us I1.kIn (by rw [List.append_nil]; exact hl)
  rw [List.append_nil] at b
  have P1 := I1.pin (a, oe) (List.mem_append_left _ List.mem_cons_self)
  have hpin : PinOk X.stack H1 s1 (a, oe) := ⟨P1.1, P1.2.1, fun hm => (List.mem_cons.mp (I1.stkSub a hm)).elim P1.2.2.1 P1.2.2.2.1, P1.2.2.2.2⟩
  refine wpAny_call (codeAny_mono (F.run (X.suite a ((a, oe) :: pn)).A X.stack s1 H1 ⟨us, []⟩ us vs Q E0 (a, oe) D hr ⟨rfl, hz, hf⟩ hpin I1.env0 b r q) fun r s' hq => ?_)
  cases r with
  | error e => exact False.elim hq
  | ok fl =>
    cases fl with
    | ret u => exact I1.after hq
    | next => exact False.elim hq
    | brk => exact False.elim hq
    | cont => exact False.elim hq
end

/-! facts of the top's exception classes -/
/-- an exception class of the program, over ValueError -/
structure ExcT (K : PySem.W.Frag) (mg : Str → Option Value) (n : Str) (C : Addr) : Prop where
  g : mg n = some (.ref C)
  kp : PySem.W.keepIn K (.ref C) = true
  ex : PySem.W.excIn K C [.type "ValueError", .type "Exception", .type "BaseException", .type "object"] "ValueError.__new__" = true
  c : ExcC K C
  ty : PySem.W.typeIn K (.ref C) = some (.type "type")
  ve : PySem.W.subIn K (.ref C) (.type "ValueError") = some true
theorem any_isSome {α : Type} {o : Option α} {p : α → Bool} (h : o.any p = true) : o.isSome = true := by
  cases o with
  | none => cases h
  | some _ => rfl
section
variable {K : PySem.W.Frag} {mg : Str → Option Value} {n : Str} {C D : Addr} {b : Bool}
theorem ExcT.kit (T : ExcT K mg n C) (h : PySem.W.subIn K (.ref D) (.ref C) = some b) (hne : b = false → D ≠ C) : PySem.W.kitOne K (.ref D) (.ref C) = some b := by
  unfold PySem.W.kitOne
  by_cases e : D = C
  · subst e
    rw [if_pos (by simp)]
    cases b with
    | true => rfl
    | false => exact absurd rfl (hne rfl)
  · have e1 : ((Value.ref D) == (Value.ref C)) = false := by
      rw [beq_eq_false_iff_ne]; exact fun z => e (Value.ref.inj z)
    rw [e1, if_neg Bool.false_ne_true]
    unfold PySem.W.kitCls
    have e2 : (PySem.W.clsIn K C).isSome = true := any_isSome T.c.hd
    dsimp only
    rw [e2, T.ty]
    exact h
theorem ExcT.exm (T : ExcT K mg n C) (h : PySem.W.subIn K (.ref D) (.ref C) = some b) : PySem.W.exmOne K (.ref D) (.ref C) = some b := PySem.W.exm_ref T.c.hs T.c.hd T.ty h
theorem ExcT.kve (T : ExcT K mg n C) : PySem.W.kitOne K (.ref C) (.type "ValueError") = some true := by
  unfold PySem.W.kitOne
  rw [show ((Value.ref C) == (Value.type "ValueError")) = false from rfl, if_neg Bool.false_ne_true]
  exact T.ve
end
end Rc
namespace Rc
open PySem PySem.Spec PyProof.Rows L2

/-! tables: lists of objects; an object's content is told by g -/
abbrev RO (β : Type) := Addr × β
def rref {β : Type} (r : RO β) : V := V.ref r.1
def rosOwn {β : Type} (g : β → HO) (rows : List (RO β)) : List (Addr × HO) := rows.map fun r => (r.1, g r.2)
abbrev gI : List Int → HO := fun xs => .lst (xs.map V.int)
abbrev gB : List Bool → HO := fun xs => .lst (xs.map V.bl)
abbrev gV : List V → HO := fun xs => .lst xs
abbrev gVB : V × Bool → HO := fun p => .tup [p.1, V.bl p.2]
abbrev gII : Int × Int → HO := fun p => .tup [V.int p.1, V.int p.2]
section
variable {β : Type} {g : β → HO} {H0 H H' : Hp} {own pre : List (Addr × HO)} {ts : List (List (Addr × HO))} {T : List (Addr × HO)} {p : Addr} {o : HO} {rows : List (RO β)} {C : List β}
theorem flat_pull {α : Type} : ∀ {ts : List (List α)} {k : Nat} {T : List α}, ts[k]? = some T → ts.flatten.Perm (T ++ (ts.eraseIdx k).flatten)
  | [], _, _, h => by simp at h
  | t :: ts, 0, T, h => by cases (Option.some.inj h); exact List.Perm.refl _
  | t :: ts, k + 1, T, h => by
    have ih := flat_pull (ts := ts) (k := k) (T := T) h
    show (t ++ ts.flatten).Perm (T ++ (t ++ (ts.eraseIdx k).flatten))
    refine (List.Perm.append_left t ih).trans ?_
    rw [← List.append_assoc, ← List.append_assoc]
    exact List.Perm.append_right _ List.perm_append_comm
/-- a tail to the front of the tails -/
theorem Fr.tup (f : Fr H0 H (pre ++ ts.flatten)) (k : Nat) (h : ts[k]? = some T) : Fr H0 H (pre ++ (T :: ts.eraseIdx k).flatten) :=
  f.perm (List.Perm.append_left _ (flat_pull h))
/-- a tail is no longer told of -/
theorem Fr.tdrop (f : Fr H0 H (pre ++ ts.flatten)) (k : Nat) (h : ts[k]? = some T) : Fr H0 H (pre ++ (ts.eraseIdx k).flatten) :=
  (f.tup k h).sub (List.Sublist.append (List.Sublist.refl _) (List.sublist_append_right _ _))
theorem Fr.rmem (f : Fr H0 H (pre ++ ts.flatten)) (k : Nat) (h : ts[k]? = some (rosOwn g rows)) {r : RO β} (hr : r ∈ rows) : H r.1 = some (g r.2) := by
  refine f.mem (List.mem_append_right _ (List.mem_flatten.mpr ⟨_, List.mem_of_getElem? h, ?_⟩))
  exact List.mem_map.mpr ⟨r, hr, rfl⟩
/-- an own object becomes a row of a new tail -/
theorem Fr.rnew {x : β} (f : Fr H0 H ((p, g x) :: (pre ++ ts.flatten))) : Fr H0 H (pre ++ (rosOwn g [(p, x)] :: ts).flatten) :=
  f.perm List.perm_middle.symm
/-- an own object becomes the last row of the first tail -/
theorem Fr.radd {x : β} (f : Fr H0 H ((p, g x) :: (pre ++ (rosOwn g rows :: ts).flatten))) : Fr H0 H (pre ++ (rosOwn g (rows ++ [(p, x)]) :: ts).flatten) := by
  refine f.perm ?_
  have e : rosOwn g (rows ++ [(p, x)]) = rosOwn g rows ++ [(p, g x)] := by unfold rosOwn; rw [List.map_append]; rfl
  show ((p, g x) :: (pre ++ (rosOwn g rows ++ ts.flatten))).Perm (pre ++ (rosOwn g (rows ++ [(p, x)]) ++ ts.flatten))
  rw [e]
  refine List.perm_middle.symm.trans (List.Perm.append_left _ ?_)
  rw [List.append_assoc]
  exact List.perm_middle.symm
theorem Fr.rset {x : β} {i : Nat} (f : Fr H0 H ((p, g x) :: (pre ++ (rosOwn g rows :: ts).flatten))) (h : i < rows.length) : Fr H0 H (pre ++ (rosOwn g (rows.set i (p, x)) :: ts).flatten) := by
  obtain ⟨l', h1, h2⟩ := set_sub (z := ((p, x) : RO β)) h
  have e1 : (rosOwn g (rows.set i (p, x))).Perm ((p, g x) :: rosOwn g l') := h1.map _
  have s : List.Sublist ((p, g x) :: (pre ++ (rosOwn g l' ++ ts.flatten))) ((p, g x) :: (pre ++ (rosOwn g rows ++ ts.flatten))) :=
    List.Sublist.cons_cons _ (List.Sublist.append (List.Sublist.refl _) (List.Sublist.append (h2.map _) (List.Sublist.refl _)))
  refine (f.sub s).perm ?_
  refine List.perm_middle.symm.trans (List.Perm.append_left _ ?_)
  exact List.Perm.append_right _ e1.symm
/-- a row is written: own o at p becomes o' -/
theorem Fr.rwr {i : Nat} {y : β} {q : Addr} (f : Fr H0 H (pre ++ (rosOwn g rows :: ts).flatten)) (h : i < rows.length) (hq : q = (rows[i]).1) : Fr H0 (upd H q (g y)) (pre ++ (rosOwn g (rows.set i (q, y)) :: ts).flatten) := by
  subst hq
  obtain ⟨l', h1, h2⟩ := set_sub (z := (((rows[i]).1, y) : RO β)) h
  have p1 : rows.Perm (rows[i] :: rows.eraseIdx i) := by
    have := set_er' (l := rows) (z := rows[i]) h
    rwa [List.set_getElem_self] at this
  have p2 : (rows.set i ((rows[i]).1, y)).Perm (((rows[i]).1, y) :: rows.eraseIdx i) := set_er' h
  have e0 : (pre ++ (rosOwn g rows ++ ts.flatten)).Perm (((rows[i]).1, g (rows[i]).2) :: (pre ++ (rosOwn g (rows.eraseIdx i) ++ ts.flatten))) :=
    (List.Perm.append_left _ (List.Perm.append_right _ (p1.map _))).trans List.perm_middle
  have gg := f.perm e0
  refine (Fr.wr (o' := g y) gg).perm ?_
  have p3 : (rosOwn g (rows.set i ((rows[i]).1, y))).Perm (((rows[i]).1, g y) :: rosOwn g (rows.eraseIdx i)) := p2.map (fun r : RO β => (r.1, g r.2))
  refine List.perm_middle.symm.trans (List.Perm.append_left _ ?_)
  show ((((rows[i]).1, g y) :: rosOwn g (rows.eraseIdx i)) ++ ts.flatten).Perm (rosOwn g (rows.set i ((rows[i]).1, y)) ++ ts.flatten)
  exact List.Perm.append_right _ p3.symm
where
  set_er' {α : Type} : ∀ {l : List α} {i : Nat} {z : α}, i < l.length → (l.set i z).Perm (z :: l.eraseIdx i)
  | [], _, _, h => by simp at h
  | x :: l, 0, z, _ => List.Perm.refl _
  | x :: l, i + 1, z, h => by
    have := set_er' (l := l) (i := i) (z := z) (by simpa using h)
    exact (this.cons x).trans (List.Perm.swap _ _ _)
theorem Fr.rcat {rows' : List (RO β)} (f : Fr H0 H (pre ++ (rosOwn g rows :: rosOwn g rows' :: ts).flatten)) : Fr H0 H (pre ++ (rosOwn g (rows ++ rows') :: ts).flatten) := by
  have e : (rosOwn g rows :: rosOwn g rows' :: ts).flatten = (rosOwn g (rows ++ rows') :: ts).flatten := by
    show rosOwn g rows ++ (rosOwn g rows' ++ ts.flatten) = rosOwn g (rows ++ rows') ++ ts.flatten
    unfold rosOwn; rw [List.map_append, List.append_assoc]
  rw [← e]; exact f
theorem Fr.rrev (f : Fr H0 H (pre ++ (rosOwn g rows :: ts).flatten)) : Fr H0 H (pre ++ (rosOwn g rows.reverse :: ts).flatten) := by
  refine f.perm (List.Perm.append_left _ (List.Perm.append_right _ ?_))
  unfold rosOwn; rw [List.map_reverse]
  exact (List.reverse_perm _).symm

/-! addresses of rows and their contents -/
theorem snd_len (h : rows.map (·.2) = C) : rows.length = C.length := by rw [← h, List.length_map]
theorem snd_at (h : rows.map (·.2) = C) (d : β) (a : Addr) (i : Nat) (hi : i < C.length) : (rows.getD i (a, d)).2 = C.getD i d := by
  subst h
  rw [List.length_map] at hi
  simp [List.getD, hi]
theorem snd_get {i : Nat} {r : RO β} (h : rows.map (·.2) = C) (hr : rows[i]? = some r) : C[i]? = some r.2 := by subst h; rw [List.getElem?_map, hr]; rfl
theorem snd_app {x : β} (h : rows.map (·.2) = C) : (rows ++ [(p, x)]).map (·.2) = C ++ [x] := by rw [List.map_append, h]; rfl
theorem snd_set {x : β} {i : Nat} (h : rows.map (·.2) = C) : (rows.set i (p, x)).map (·.2) = C.set i x := by rw [List.map_set, h]
theorem snd_rev (h : rows.map (·.2) = C) : rows.reverse.map (·.2) = C.reverse := by rw [List.map_reverse, h]
theorem snd_cat {rows' : List (RO β)} {C' : List β} (h : rows.map (·.2) = C) (h' : rows'.map (·.2) = C') : (rows ++ rows').map (·.2) = C ++ C' := by rw [List.map_append, h, h']
theorem rref_set (i : Nat) (d : RO β) (y : β) (hi : i < rows.length) : rows.map rref = (rows.set i ((rows.getD i d).1, y)).map rref := by
  rw [List.map_set]
  show rows.map rref = (rows.map rref).set i (rref (rows.getD i d))
  rw [List.getD_eq_getElem?_getD, List.getElem?_eq_getElem hi]
  apply List.ext_getElem?
  intro j
  by_cases hj : i = j
  · subst hj; simp [hi]
  · simp [hj]
theorem lst_rref_app {x : β} : HO.lst (rows.map rref ++ [V.ref p]) = .lst ((rows ++ [(p, x)]).map rref) := by rw [List.map_append]; rfl
theorem lst_rref_cat {rows' : List (RO β)} : HO.lst (rows.map rref ++ rows'.map rref) = .lst ((rows ++ rows').map rref) := by rw [List.map_append]
theorem lst_rref_set {x : β} {i : Nat} : HO.lst ((rows.map rref).set i (V.ref p)) = .lst ((rows.set i (p, x)).map rref) := by rw [List.map_set]; rfl

/-! a table that stands -/
structure Tab (H : Hp) (g : β → HO) (a : Addr) (C : List β) : Prop where
  ex : ∃ r : List (RO β), r.map (·.2) = C ∧ H a = some (.lst (r.map rref)) ∧ ∀ z ∈ r, H z.1 = some (g z.2)
theorem Tab.same {a : Addr} (t : Tab H g a C) (s : Same H H') : Tab H' g a C := by
  obtain ⟨r, h1, h2, h3⟩ := t.ex
  exact ⟨r, h1, s _ _ h2, fun z hz => s _ _ (h3 z hz)⟩
/-- a new table, from a call -/
structure TabN (H H' : Hp) (g : β → HO) (a : Addr) (r : List (RO β)) (C : List β) : Prop where
  n : H a = none
  e : H' a = some (.lst (r.map rref))
  c : r.map (·.2) = C
  rw : ∀ z ∈ r, H z.1 = none ∧ H' z.1 = some (g z.2)
  nd : (a :: r.map (·.1)).Nodup
theorem Fr.ctab {r : List (RO β)} (f : Fr H0 H (pre ++ ts.flatten)) (s : Same H H') (t : TabN H H' g p r C) : Fr H0 H' (((p, .lst (r.map rref)) :: pre) ++ (rosOwn g r :: ts).flatten) := by
  have gg := f.cnew s t.n t.e
  have h1 : Fr H0 H' ((((p, HO.lst (r.map rref)) :: pre) ++ ts.flatten) ++ rosOwn g r) := by
    refine ⟨gg.same, fun z hz => ?_, ?_⟩
    · rcases List.mem_append.mp hz with hz | hz
      · exact gg.frs z hz
      · obtain ⟨r', hr', rfl⟩ := List.mem_map.mp hz
        exact ⟨f.fresh (t.rw r' hr').1, (t.rw r' hr').2⟩
    · rw [List.map_append]
      have e1 : (rosOwn g r).map (·.1) = r.map (·.1) := by unfold rosOwn; rw [List.map_map]; rfl
      rw [e1]
      have hn' := List.nodup_cons.mp t.nd
      refine List.nodup_append.mpr ⟨gg.nd, hn'.2, fun a ha b hb hab => ?_⟩
      subst hab
      rcases List.mem_cons.mp ha with rfl | ha
      · exact hn'.1 hb
      · obtain ⟨z, hz, rfl⟩ := List.mem_map.mp ha
        obtain ⟨r', hr', e2⟩ := List.mem_map.mp hb
        have := (t.rw r' hr').1
        rw [e2, (f.frs z hz).2] at this
        cases this
  refine h1.perm ?_
  show ((((p, HO.lst (r.map rref)) :: pre) ++ ts.flatten) ++ rosOwn g r).Perm (((p, HO.lst (r.map rref)) :: pre) ++ (rosOwn g r ++ ts.flatten))
  rw [List.append_assoc]
  exact List.Perm.append_left _ List.perm_append_comm
/-- new objects, from a call -/
theorem Fr.comp {new : List (Addr × HO)} (f : Fr H0 H own) (n : Fr H H' new) : Fr H0 H' (new ++ own) := by
  refine ⟨f.same.trans n.same, fun z hz => ?_, ?_⟩
  · rcases List.mem_append.mp hz with hz | hz
    · exact ⟨f.fresh (n.frs z hz).1, (n.frs z hz).2⟩
    · exact ⟨(f.frs z hz).1, n.same _ _ (f.frs z hz).2⟩
  · rw [List.map_append]
    refine List.nodup_append.mpr ⟨n.nd, f.nd, fun a ha b hb hab => ?_⟩
    subst hab
    obtain ⟨z, hz, rfl⟩ := List.mem_map.mp ha
    obtain ⟨y, hy, e⟩ := List.mem_map.mp hb
    have h1 := (n.frs z hz).1
    rw [← e, (f.frs y hy).2] at h1
    cases h1
/-- what is handed back -/
theorem Fr.tabback (f : Fr H0 H ((p, .lst (rows.map rref)) :: (pre ++ (rosOwn g rows :: ts).flatten))) (h : rows.map (·.2) = C) : TabN H0 H g p rows C := by
  have f1 : Fr H0 H ((p, .lst (rows.map rref)) :: rosOwn g rows) :=
    f.sub (List.Sublist.cons_cons _ ((List.sublist_append_left _ _).trans (List.sublist_append_right _ _)))
  refine ⟨f1.n0, f1.at0, h, fun z hz => f1.frs (z.1, g z.2) (List.mem_cons_of_mem _ (List.mem_map.mpr ⟨z, hz, rfl⟩)), ?_⟩
  have := f1.nd
  rw [List.map_cons] at this
  have e1 : (rosOwn g rows).map (·.1) = rows.map (·.1) := by unfold rosOwn; rw [List.map_map]; rfl
  rwa [e1] at this
theorem Fr.tabback0 (f : Fr H0 H ((p, .lst (([] : List (RO β)).map rref)) :: own)) : TabN H0 H g p [] ([] : List β) :=
  ⟨f.n0, f.at0, rfl, (fun _ h => nomatch h), List.nodup_cons.mpr ⟨(fun h => nomatch h), List.nodup_nil⟩⟩
/-- a table by own facts -/
theorem Fr.tab (f : Fr H0 H (pre ++ ts.flatten)) (k j : Nat) (ho : (pre ++ ts.flatten)[k]? = some (p, .lst (rows.map rref))) (h : ts[j]? = some (rosOwn g rows)) (hc : rows.map (·.2) = C) : Tab H g p C :=
  ⟨⟨rows, hc, f.mem (List.mem_of_getElem? ho), fun z hz => f.rmem j h hz⟩⟩
/-- a table by its parts -/
theorem tab_lit {a : Addr} (hr : ∀ z ∈ rows, H z.1 = some (g z.2)) (ha : H a = some (.lst (rows.map rref))) (hc : rows.map (·.2) = C) : Tab H g a C := ⟨⟨rows, hc, ha, hr⟩⟩
theorem ros_nil : ∀ z ∈ ([] : List (RO β)), H z.1 = some (g z.2) := fun _ h => nomatch h
theorem ros_cons {a : Addr} {x : β} (h : H a = some (g x)) (hr : ∀ z ∈ rows, H z.1 = some (g z.2)) : ∀ z ∈ (a, x) :: rows, H z.1 = some (g z.2) := fun z hz => by
  rcases List.mem_cons.mp hz with rfl | hz
  · exact h
  · exact hr z hz
end
/-! rows at a place, casts, unrolled loops -/
section
variable {β : Type} {g : β → HO} {H0 H H' : Hp} {own pre : List (Addr × HO)} {ts : List (List (Addr × HO))} {p : Addr} {o o' : HO} {rows : List (RO β)} {C : List β}
theorem Fr.castk (f : Fr H0 H own) (k : Nat) (h : own[k]? = some (p, o)) (e : o = o') : Fr H0 H (own.set k (p, o')) := by
  subst e
  refine f.perm ?_
  have : own.set k (p, o) = own := by
    apply List.ext_getElem?
    intro j
    by_cases hj : k = j
    · subst hj
      obtain ⟨hl, he⟩ := List.getElem?_eq_some_iff.mp h
      rw [h]; simp [hl]
    · simp [hj]
  rw [this]
theorem ros_at (hr : ∀ z ∈ rows, H z.1 = some (g z.2)) (hc : rows.map (·.2) = C) (d : β) (i : Nat) (hi : i < C.length) : H (rows.getD i (0, d)).1 = some (g (C.getD i d)) := by
  have hl : i < rows.length := by rw [snd_len hc]; exact hi
  have := hr _ (getD_mem (d := ((0, d) : RO β)) hl)
  rwa [snd_at hc d 0 i hi] at this
theorem Fr.rat (f : Fr H0 H (pre ++ ts.flatten)) (k : Nat) (h : ts[k]? = some (rosOwn g rows)) (hc : rows.map (·.2) = C) (d : β) (i : Nat) (hi : i < C.length) : H (rows.getD i (0, d)).1 = some (g (C.getD i d)) :=
  ros_at (fun z hz => f.rmem k h hz) hc d i hi
theorem Fr.rwrD {i : Nat} {y : β} (f : Fr H0 H (pre ++ (rosOwn g rows :: ts).flatten)) (hc : rows.map (·.2) = C) (d : β) (hi : i < C.length) (e : o' = g y) :
    Fr H0 (upd H (rows.getD i (0, d)).1 o') (pre ++ (rosOwn g (rows.set i ((rows.getD i (0, d)).1, y)) :: ts).flatten) := by
  subst e
  have hl : i < rows.length := by rw [snd_len hc]; exact hi
  refine f.rwr hl ?_
  rw [List.getD_eq_getElem?_getD, List.getElem?_eq_getElem hl]; rfl
theorem len_rows (h : rows.map (·.2) = C) : (rows.map rref).length = C.length := by rw [List.length_map]; exact snd_len h
theorem rref_setD (i : Nat) (d y : β) (hc : rows.map (·.2) = C) (hi : i < C.length) : HO.lst (rows.map rref) = .lst ((rows.set i ((rows.getD i (0, d)).1, y)).map rref) :=
  congrArg HO.lst (rref_set i (0, d) y (by rw [snd_len hc]; exact hi))
theorem atRow (hc : rows.map (·.2) = C) (d : β) {i : Int} (h0 : 0 ≤ i) (h1 : i < (C.length : Int)) : atI (rows.map rref) i = some (V.ref (rows.getD i.toNat (0, d)).1) :=
  atD (f := rref) ((0, d) : RO β) h0 (by rw [snd_len hc]; exact h1)
theorem atRowLast (hc : rows.map (·.2) = C) (d : β) (h : 0 < C.length) : atI (rows.map rref) (-1) = some (V.ref (rows.getD (C.length - 1) (0, d)).1) := by
  have := atLastD (f := rref) ((0, d) : RO β) (xs := rows) (by rw [snd_len hc]; exact h)
  rw [snd_len hc] at this
  exact this
theorem ixRow (hc : rows.map (·.2) = C) {i : Int} (h0 : 0 ≤ i) (h1 : i < (C.length : Int)) : ixN (rows.map rref).length i = some i.toNat := ixDm h0 (by rw [snd_len hc]; exact h1)
theorem walkT {K : PySem.W.Frag} {a : Addr} (hc : rows.map (·.2) = C) : Walk (Itl K a) C.length (fun H => H a = some (.lst (rows.map rref))) (fun i H x H' => H' = H ∧ ∃ y : RO β, rows[i]? = some y ∧ C[i]? = some y.2 ∧ x = V.ref y.1) := by
  have w := walkL (K := K) (a := a) rref rows
  rw [snd_len hc] at w
  refine w.mono (fun _ h => h) fun i H x H' _ _ y => ?_
  obtain ⟨e, z, hz, hx⟩ := y
  exact ⟨e, z, hz, snd_get hc hz, hx⟩
theorem mtn {α : Type} {f : α → β} {ns : List α} {i : Nat} {y : α} {x : β} (h : ns[i]? = some y) (e : x = f y) : (ns.take i).map f ++ [x] = (ns.take (i + 1)).map f := by
  rw [take_next h, List.map_append, e]; rfl
theorem mrn {f : Nat → β} {i : Nat} {x : β} (e : x = f i) : (List.range i).map f ++ [x] = (List.range (i + 1)).map f := by
  rw [List.range_succ, List.map_append, e]; rfl
/-- a loop over a list, item by item -/
def unr (K : PySem.W.Frag) (a : Addr) (all : List V) (g : TG) (tb : TS) (D : Ends) : List V → L2.St → Hp → Prop
  | [], σ, H => SqL K H a all ∧ D.nx σ H
  | x :: xs, σ, H => SqL K H a all ∧ g x σ H fun σ2 H2 => tb { D with nx := unr K a all g tb D xs, ct := unr K a all g tb D xs, bk := D.nx } σ2 H2
theorem for_unr {K : PySem.W.Frag} {a : Addr} {g : TG} {tb : TS} {D : Ends} {σ : L2.St} {H : Hp} (all : List V) (h : unr K a all g tb D all σ H) :
    ∃ W : Nat → Nat → L2.St → Hp → Prop, (∃ m, W 0 m σ H) ∧ ∀ i m σ H, W i m σ H →
      ((Itl K a).stop i H ∧ D.nx σ H) ∨ ((Itl K a).go i H ∧ ∃ N : L2.St → Hp → Prop, (∀ σ' H', N σ' H' → ∃ m', m' < m ∧ W (i + 1) m' σ' H') ∧ ∀ x H', (Itl K a).yld i H x H' → g x σ H' fun σ2 H2 => tb { D with nx := N, ct := N, bk := D.nx } σ2 H2) := by
  refine for_it (walk_list (xs := all)) (fun i σ H => unr K a all g tb D (all.drop i) σ H) h (fun i σ H _ p => ?_) (fun i x σ H H' hi p y => ?_) (fun σ H p => ?_)
  · cases e : all.drop i with
    | nil => rw [e] at p; exact p.1
    | cons x xs => rw [e] at p; exact p.1
  · obtain ⟨rfl, hx⟩ := y
    have e : all.drop i = x :: all.drop (i + 1) := by
      rw [List.drop_eq_getElem_cons hi]
      congr 1
      rw [List.getElem?_eq_getElem hi] at hx
      exact Option.some.inj hx
    rw [e] at p
    exact p.2
  · rw [List.drop_length] at p
    exact p.2
end
/-! == of tables -/
section
variable {β : Type} {g : β → HO} {K : PySem.W.Frag} {H : Hp} {a : Addr} {C : List β} {gd : β → PyData}
theorem dp_tab (t : Tab H g a C) (h : ∀ (b : Addr) (x : β), H b = some (g x) → Dp K H (.ref b) (gd x)) : Dp K H (.ref a) (.list (C.map gd)) := by
  obtain ⟨r, hc, ha, hr⟩ := t.ex
  subst hc
  refine .lst (SqL.of ha) ?_
  rw [List.map_map]
  clear ha t
  revert hr
  induction r with
  | nil => intro _; exact .nil
  | cons z r ih => intro hr; exact .cons (h _ _ (hr z List.mem_cons_self)) (ih fun w hw => hr w (List.mem_cons_of_mem _ hw))
theorem okd_tab {n : Nat} (h : ∀ x : β, Okd n (gd x)) : Okd (n + 1) (.list (C.map gd)) :=
  ⟨canAll (fun x => (h x).can) C, Nat.succ_le_succ (depthAll (fun x => (h x).dep) C)⟩
theorem dp_tabI {C : List (List Int)} (t : Tab H gI a C) : Dp K H (.ref a) (.list (C.map dI)) := dp_tab t fun _ _ h => dp_ints h
theorem dp_tabB {C : List (List Bool)} (t : Tab H gB a C) : Dp K H (.ref a) (.list (C.map dB)) := dp_tab t fun _ _ h => dp_bls h
theorem okd_tabI {n : Nat} (C : List (List Int)) : Okd (n + 2) (.list (C.map dI)) := okd_tab fun x => okd_ints x
theorem okd_tabB {n : Nat} (C : List (List Bool)) : Okd (n + 2) (.list (C.map dB)) := okd_tab fun x => okd_bls x
theorem eqv_tabI (C D : List (List Int)) : PyData.eqv (.list (C.map dI)) (.list (D.map dI)) = decide (C = D) := eqvAll_map (fun x y => eqv_ints x y) C D
theorem eqv_tabB (C D : List (List Bool)) : PyData.eqv (.list (C.map dB)) (.list (D.map dB)) = decide (C = D) := eqvAll_map (fun x y => eqv_bls x y) C D
theorem Tab.tov {C : List (List Int)} (t : Tab H gI a C) : Tab H gV a (C.map (List.map V.int)) := by
  obtain ⟨r, hc, ha, hr⟩ := t.ex
  refine ⟨r.map fun z => (z.1, z.2.map V.int), ?_, ?_, fun z hz => ?_⟩
  · rw [← hc, List.map_map, List.map_map]; rfl
  · rw [ha, List.map_map]; rfl
  · obtain ⟨w, hw, rfl⟩ := List.mem_map.mp hz
    exact hr w hw
theorem dp_tabV {C : List (List V)} (t : Tab H gV a C) (hs : ∀ x ∈ C, Sca x) : Dp K H (.ref a) (.list (C.map dV)) := by
  obtain ⟨r, hc, ha, hr⟩ := t.ex
  subst hc
  refine .lst (SqL.of ha) ?_
  rw [List.map_map]
  clear ha t
  revert hr hs
  induction r with
  | nil => intro _ _; exact .nil
  | cons z r ih =>
    intro hr hs
    refine .cons (dp_vals (hr z List.mem_cons_self) (hs z.2 ?_)) (ih (fun w hw => hr w (List.mem_cons_of_mem _ hw)) fun x hx => hs x ?_)
    · rw [List.map_cons]; exact List.mem_cons_self
    · rw [List.map_cons]; exact List.mem_cons_of_mem _ hx
theorem okd_tabV {n : Nat} {C : List (List V)} (hs : ∀ x ∈ C, Sca x) : Okd (n + 2) (.list (C.map dV)) := by
  refine ⟨?_, ?_⟩
  · show PyData.canLayAll0 (C.map dV) = true
    induction C with
    | nil => rfl
    | cons x C ih =>
      show ((dV x).canLay0 && PyData.canLayAll0 (C.map dV)) = true
      have h1 : Okd (n + 1) (dV x) := okd_vals (hs x List.mem_cons_self)
      rw [h1.can, ih fun v hv => hs v (List.mem_cons_of_mem _ hv)]; rfl
  · refine Nat.succ_le_succ (depthAll (n := n + 1) (fun xs => ?_) C)
    exact Nat.succ_le_succ (Nat.le_trans (depthAll (n := 0) (fun v => by cases v <;> exact Nat.zero_le _) xs) (Nat.zero_le _))
theorem eqv_II (a b c d : Int) : PyData.eqv (.tuple [.int a, .int b]) (.tuple [.int c, .int d]) = decide (a = c ∧ b = d) := by
  show ((a == c) && ((b == d) && true)) = _
  by_cases h : a = c
  · by_cases h' : b = d
    · simp [h, h']
    · simp [h']
  · simp [h]
end
end Rc
namespace Rc
open PySem PySem.Spec PyProof.Rows L2
section
variable {X : Cx}
theorem str_dec {i j : Str} : decide (V.str i = V.str j) = decide (i = j) := by
  by_cases h : i = j
  · subst h; rw [decide_eq_true rfl, decide_eq_true rfl]
  · rw [decide_eq_false h, decide_eq_false fun z => h (V.str.inj z)]
theorem op_eqStr : OpR X (compareOp .Eq) (fun x y H Q => ∃ i j : Str, x = .str i ∧ y = .str j ∧ (i = j → Q (.bl true) H) ∧ (¬ i = j → Q (.bl false) H)) := by
  intro pins s σ H x y v u Q I rx ry h
  obtain ⟨i, j, rfl, rfl, q1, q2⟩ := h
  refine op_eq pins s σ H _ _ v u Q I rx ry ⟨rfl, ?_⟩
  rw [str_dec]
  by_cases h : i = j
  · rw [decide_eq_true h]; exact q1 h
  · rw [decide_eq_false h]; exact q2 h
theorem op_neStr : OpR X (compareOp .NotEq) (fun x y H Q => ∃ i j : Str, x = .str i ∧ y = .str j ∧ (¬ i = j → Q (.bl true) H) ∧ (i = j → Q (.bl false) H)) := by
  intro pins s σ H x y v u Q I rx ry h
  obtain ⟨i, j, rfl, rfl, q1, q2⟩ := h
  refine op_ne pins s σ H _ _ v u Q I rx ry ⟨rfl, ?_⟩
  rw [str_dec]
  by_cases h : i = j
  · rw [decide_eq_true h]; exact q2 h
  · rw [decide_eq_false h]; exact q1 h
end
/-! words: parts that are whole -/
def intV : V → Int
  | .int x => x
  | _ => 0
def intsV (w : List V) : List Int := w.map intV
theorem intsV_map (w : List Int) : intsV (w.map V.int) = w := by
  unfold intsV; rw [List.map_map]; exact (List.map_congr_left fun _ _ => rfl).trans (List.map_id w)
theorem wordPart_int {m : Nat} {v : V} (h : wordPart m v = true) : v = V.int (intV v) ∧ 0 ≤ intV v ∧ intV v < (m : Int) := by
  cases v with
  | int z =>
    have h' : (decide (0 ≤ z) && decide (z < (m : Int))) = true := h
    rw [Bool.and_eq_true, decide_eq_true_eq, decide_eq_true_eq] at h'
    exact ⟨rfl, h'⟩
  | _ => cases h
theorem isWordV_ex {m : Nat} {w : List V} {n : Int} (h : isWordV m w n = true) : ∃ u : List Int, w = u.map V.int ∧ (∀ x ∈ u, 0 ≤ x ∧ x < (m : Int)) ∧ (u.length : Int) = n := by
  unfold isWordV at h
  rw [Bool.and_eq_true, decide_eq_true_eq, List.all_eq_true] at h
  refine ⟨intsV w, ?_, fun x hx => ?_, ?_⟩
  · unfold intsV; rw [List.map_map]
    refine (List.map_id w).symm.trans (List.map_congr_left fun v hv => ?_)
    exact (wordPart_int (h.2 v hv)).1
  · obtain ⟨v, hv, rfl⟩ := List.mem_map.mp hx
    exact (wordPart_int (h.2 v hv)).2
  · unfold intsV; rw [List.length_map]; exact h.1
end Rc
namespace Rc
open PySem PySem.Spec PyProof.Rows L2
/-! texts, told by the list of their signs -/
def txV (l : List Nat) : V := .str (SX.S l)
theorem txV_inj {a b : List Nat} (h : txV a = txV b) : a = b := SX.S_inj (V.str.inj h)
theorem tx_dec {a b : List Nat} : decide (V.str (SX.S a) = V.str (SX.S b)) = decide (a = b) := by
  by_cases h : a = b
  · subst h; rw [decide_eq_true rfl, decide_eq_true rfl]
  · rw [decide_eq_false h]
    exact decide_eq_false fun z => h (txV_inj z)
abbrev numT (n : Int) : List Nat := TL.numL n.toNat
theorem toStr_num {i : Int} (h : 0 ≤ i) : (toString i : Str) = SX.S (numT i) := by
  obtain ⟨n, rfl⟩ := Int.eq_ofNat_of_zero_le h
  exact TL.ext_tl (TL.tl_num n)
theorem log_lt {i : Int} (h : i.natAbs < 2 ^ 1000) : i.natAbs.log2 < 1920 := by
  by_cases h0 : i.natAbs = 0
  · rw [h0]; decide
  · have := (Nat.log2_lt h0).mpr h
    omega
section
variable {X : Cx}
theorem pe_txt {x : Str} {j : Nat} {pos : Pos} (l : List Nat) (h : x = SX.S l) : PE X (.Constant (.str x) j pos) (tC (txV l)) := by subst h; exact pe_str
theorem relT {x : Str} {u : Value} (l : List Nat) (h : x = SX.S l) (r : RelV (.str x) u) : RelV (txV l) u := by subst h; exact r
theorem op_addT : OpR X (binaryOp .Add) (fun x y H Q => ∃ a b : List Nat, x = txV a ∧ y = txV b ∧ a.length + b.length ≤ 16777216 ∧ Q (txV (a ++ b)) H) := by
  intro pins s σ H x y v u Q I rx ry h
  obtain ⟨a, b, rfl, rfl, hl, q⟩ := h
  refine op_add_str pins s σ H _ _ v u Q I rx ry ⟨_, _, rfl, rfl, by rw [SX.S_len, SX.S_len]; exact hl, ?_⟩
  rw [SX.S_cat]; exact q
theorem iop_addT : OpR X (inplaceOp .Add) (fun x y H Q => ∃ a b : List Nat, x = txV a ∧ y = txV b ∧ a.length + b.length ≤ 16777216 ∧ Q (txV (a ++ b)) H) := by
  intro pins s σ H x y v u Q I rx ry h
  obtain ⟨a, b, rfl, rfl, hl, q⟩ := h
  refine iop_add_str pins s σ H _ _ v u Q I rx ry ⟨_, _, rfl, rfl, by rw [SX.S_len, SX.S_len]; exact hl, ?_⟩
  rw [SX.S_cat]; exact q
theorem foldl_arrs (a : List Nat) : ∀ (k : Nat) (acc : Array Nat), ((List.replicate k a.toArray).foldl (· ++ ·) acc).toList = acc.toList ++ (List.replicate k a).flatten
  | 0, acc => by simp
  | k + 1, acc => by
    rw [List.replicate_succ, List.foldl_cons, foldl_arrs a k, List.replicate_succ, List.flatten_cons, Array.toList_append, List.append_assoc]
theorem op_mulT : OpR X (binaryOp .Mult) (fun x y H Q => ∃ (a : List Nat) (n : Int), x = txV a ∧ y = .int n ∧ 0 ≤ n ∧ n ≤ 16777216 ∧ a.length * n.toNat ≤ 16777216 ∧ Q (txV (List.replicate n.toNat a).flatten) H) := by
  intro pins s σ H x y v u Q I rx ry h
  obtain ⟨a, n, rfl, rfl, h0, h1, hl, q⟩ := h
  obtain ⟨t, rfl⟩ := (rx : RelV (.str _) v)
  obtain ⟨t', rfl⟩ := ry
  have hr : (decide (n < -(2 ^ 63 : Int)) || decide (n ≥ 2 ^ 63)) = false := by
    rw [decide_eq_false (by omega), decide_eq_false (by omega)]; rfl
  obtain ⟨k, rfl⟩ := Int.eq_ofNat_of_zero_le h0
  have hfit : (SX.S a).length * ((k : Int)).toNat ≤ 16777216 := by rw [SX.S_len]; exact hl
  refine PySem.P.mul_str hr (fun hn hz => ?_) (fun hn hz => ?_) ?_
  · intro hgt
    rw [Bool.or_eq_false_iff] at hz
    have hk : (0 : Int) < k := by omega
    have hle : ((2 ^ 63 - 1 : Int) / k) < ((SX.S a).length : Int) := hgt
    have h3 := (Int.ediv_lt_iff_lt_mul hk).mp hle
    have h4 : ((SX.S a).length : Int) * (k : Int) ≤ 16777216 := by
      have h5 : ((SX.S a).length * k : Nat) ≤ 16777216 := hfit
      rw [← Int.natCast_mul]; omega
    omega
  · have : ¬ ((SX.S a).length * ((k : Int)).toNat > sizeLine) := by
      rw [sizeLine_eq]; omega
    exact decide_eq_false this
  · by_cases hn : (k : Int) < 1
    · rw [if_pos hn]
      have e : k = 0 := by omega
      subst e
      exact ⟨by decide, txV [], H, I.tok _, ⟨_, rfl⟩, q⟩
    · rw [if_neg hn]
      by_cases hz : ((k : Int) == 1 || (SX.S a).length == 0) = true
      · rw [if_pos hz]
        refine ⟨txV a, H, I, ⟨t, rfl⟩, ?_⟩
        have e : (List.replicate ((k : Int)).toNat a).flatten = a := by
          rcases Bool.or_eq_true_iff.mp hz with e | e
          · have : k = 1 := by have := beq_iff_eq.mp e; omega
            subst this
            show ([a] : List (List Nat)).flatten = a
            simp
          · have : a = [] := by
              have := beq_iff_eq.mp e
              rw [SX.S_len] at this
              exact List.eq_nil_of_length_eq_zero this
            subst this
            generalize ((k : Int)).toNat = m
            induction m with
            | zero => rfl
            | succ m ih => rw [List.replicate_succ, List.flatten_cons, ih]; rfl
        rw [e] at q; exact q
      · rw [if_neg hz]
        have e : (⟨(List.replicate ((k : Int)).toNat (SX.S a).cps).foldl (· ++ ·) #[]⟩ : Str) = SX.S (List.replicate ((k : Int)).toNat a).flatten := by
          refine TL.ext_tl ?_
          exact (foldl_arrs a _ #[]).trans (by simp [TL.tl])
        rw [e]
        refine ⟨?_, txV _, H, I.tok _, ⟨_, rfl⟩, q⟩
        show (SX.S (List.replicate ((k : Int)).toNat a).flatten).length ≤ sizeLine
        rw [SX.S_len, List.length_flatten, List.map_replicate, List.sum_replicate_nat, sizeLine_eq]
        rw [Nat.mul_comm]; exact hl
def rIxT : R2 := fun x y H Q => ∃ (a : List Nat) (i : Int), x = txV a ∧ y = .int i ∧ a.length ≤ 16777216 ∧ 0 ≤ i ∧ i < (a.length : Int) ∧ Q (txV [a.getD i.toNat 0]) H
theorem ix_T : IxR X rIxT := by
  intro value slice pins s σ H x y v u Q I rx ry h hs
  obtain ⟨a, i, rfl, rfl, hl, h0, h1, q⟩ := h
  refine ix_str value slice pins s σ H _ _ v u Q I rx ry ⟨SX.S a, i, a.getD i.toNat 0, rfl, rfl, by rw [SX.S_len, sizeLine_eq]; exact hl, ?_, q⟩ hs
  show (ixN a.length i).bind (fun j => a[j]?) = some (a.getD i.toNat 0)
  rw [ixD h0 h1]
  show a[i.toNat]? = _
  have hn : i.toNat < a.length := by omega
  rw [List.getElem?_eq_getElem hn]
  simp [List.getD, hn]
def rSlT : V → Option Int → Option Int → Hp → VK → Prop := fun x lo hi H Q => ∃ a : List Nat, x = txV a ∧ a.length ≤ 16777216 ∧ Q (txV (cutL a lo hi)) H
theorem sl_T : SlR X rSlT := by
  intro pins s σ H x v vl vu lo hi sl Q I rx hs pl pu h
  obtain ⟨a, rfl, hl, q⟩ := h
  refine sl_str pins s σ H _ v vl vu lo hi sl Q I rx hs pl pu ⟨SX.S a, rfl, by rw [SX.S_len, sizeLine_eq]; exact hl, ?_⟩
  have e : cutS (SX.S a) lo hi = SX.S (cutL a lo hi) := by
    unfold cutS cutL
    rw [SX.S_len]
  rw [e]; exact q
theorem op_eqT : OpR X (compareOp .Eq) (fun x y H Q => ∃ i j : List Nat, x = txV i ∧ y = txV j ∧ (i = j → Q (.bl true) H) ∧ (¬ i = j → Q (.bl false) H)) := by
  intro pins s σ H x y v u Q I rx ry h
  obtain ⟨i, j, rfl, rfl, q1, q2⟩ := h
  refine op_eq pins s σ H _ _ v u Q I rx ry ⟨rfl, ?_⟩
  show Q (.bl (decide (V.str (SX.S i) = V.str (SX.S j)))) H
  rw [tx_dec]
  by_cases h : i = j
  · rw [decide_eq_true h]; exact q1 h
  · rw [decide_eq_false h]; exact q2 h
theorem op_neT : OpR X (compareOp .NotEq) (fun x y H Q => ∃ i j : List Nat, x = txV i ∧ y = txV j ∧ (¬ i = j → Q (.bl true) H) ∧ (i = j → Q (.bl false) H)) := by
  intro pins s σ H x y v u Q I rx ry h
  obtain ⟨i, j, rfl, rfl, q1, q2⟩ := h
  refine op_ne pins s σ H _ _ v u Q I rx ry ⟨rfl, ?_⟩
  show Q (.bl (!decide (V.str (SX.S i) = V.str (SX.S j)))) H
  rw [tx_dec]
  by_cases h : i = j
  · rw [decide_eq_true h]; exact q2 h
  · rw [decide_eq_false h]; exact q1 h
theorem op_inT : OpR X (compareOp .In) (fun x y H Q => ∃ (c : Nat) (z : List Nat), x = txV [c] ∧ y = txV z ∧ Q (.bl (decide (c ∈ z))) H) := by
  intro pins s σ H x y v u Q I rx ry h
  obtain ⟨c, z, rfl, rfl, q⟩ := h
  exact op_in_sign pins s σ H _ _ v u Q I rx ry ⟨c, SX.S z, rfl, rfl, q⟩
theorem op_notInT : OpR X (compareOp .NotIn) (fun x y H Q => ∃ (c : Nat) (z : List Nat), x = txV [c] ∧ y = txV z ∧ Q (.bl (!decide (c ∈ z))) H) := by
  intro pins s σ H x y v u Q I rx ry h
  obtain ⟨c, z, rfl, rfl, q⟩ := h
  exact op_notIn_sign pins s σ H _ _ v u Q I rx ry ⟨c, SX.S z, rfl, rfl, q⟩
theorem call_lenTx : CallR X (.builtin "len") (fun xs H Q => ∃ a : List Nat, xs = [txV a] ∧ a.length ≤ 16777216 ∧ Q (.int (a.length : Nat)) H) := by
  intro pins s σ H xs us Q I r h
  obtain ⟨a, rfl, hl, q⟩ := h
  refine call_len_str pins s σ H _ us Q I r ⟨SX.S a, rfl, by rw [SX.S_len, sizeLine_eq]; exact hl, ?_⟩
  rw [SX.S_len]; exact q
theorem call_strT : CallR X (.type "str") (fun xs H Q => ∃ i : Int, xs = [.int i] ∧ 0 ≤ i ∧ i.natAbs.log2 < 1920 ∧ Q (txV (numT i)) H) := by
  intro pins s σ H xs us Q I r h
  obtain ⟨i, rfl, h0, hl, q⟩ := h
  refine call_str_int pins s σ H _ us Q I r ⟨i, rfl, hl, ?_⟩
  rw [toStr_num h0]; exact q
theorem call_intT : CallR X (.type "int") (fun xs H Q => ∃ (a : List Nat) (n : Int), xs = [txV a] ∧ PySem.intText? (SX.S a) = some n ∧ a.length ≤ 640 ∧ Q (.int n) H) := by
  intro pins s σ H xs us Q I r h
  obtain ⟨a, n, rfl, hn, hl, q⟩ := h
  exact call_int_str pins s σ H _ us Q I r ⟨SX.S a, n, rfl, hn, by rw [SX.S_len]; exact hl, q⟩
theorem cnt_count (c : Nat) : ∀ a : List Nat, PyProof.Rows.cnt c a = ((a.count c : Nat) : Int)
  | [] => rfl
  | n :: r => by
    rw [PyProof.Rows.cnt_cons, cnt_count c r, List.count_cons]
    by_cases h : n = c
    · subst h; rw [if_pos rfl, if_pos (beq_self_eq_true n)]; push_cast; omega
    · rw [if_neg h, if_neg (by simpa using h)]; push_cast; omega
/-! methods of texts -/
theorem mt_startsT : MtR X "str.startswith" (fun x xs H Q => ∃ (a : List Nat) (c : Nat), x = txV a ∧ xs = [txV [c]] ∧ Q (.bl (decide (a.head? = some c))) H) := by
  intro pins s σ H x xs v us Q I rx rs h
  obtain ⟨a, c, rfl, rfl, q⟩ := h
  refine mt_startswith pins s σ H _ _ v us Q I rx rs ⟨SX.S a, SX.S [c], rfl, rfl, ?_⟩
  have e : Txt.startswith (SX.S a) (SX.S [c]) = decide (a.head? = some c) := by
    have h1 := PySem.StrLaws.subAt_one (SX.S a) c 0
    unfold Txt.startswith
    rw [Bool.eq_iff_iff, Bool.and_eq_true, decide_eq_true_eq, decide_eq_true_eq]
    refine h1.trans ?_
    show a[0]? = some c ↔ a.head? = some c
    cases a <;> simp
  rw [e]; exact q
theorem mt_joinT : MtR X "str.join" (fun x xs H Q => ∃ (a : List Nat) (p : Addr) (ys : List (List Nat)), x = txV a ∧ xs = [.ref p] ∧ H p = some (.lst (ys.map txV)) ∧ (ys.map (·.length)).sum + ys.length * a.length ≤ 16777216 ∧ Q (txV (TL.joinL a ys)) H) := by
  intro pins s σ H x xs v us Q I rx rs h
  obtain ⟨a, p, ys, rfl, rfl, hp, hl, q⟩ := h
  refine mt_join pins s σ H _ _ v us Q I rx rs ⟨SX.S a, p, ys.map SX.S, rfl, rfl, .inl (SqL.of ?_), ?_, ?_⟩
  · rw [hp, List.map_map]; rfl
  · rw [SX.lens, List.length_map, SX.S_len]; exact hl
  · rw [SX.join_S]; exact q
theorem mt_splitT : MtR X "str.split" (fun x xs H Q => ∃ (a : List Nat), x = txV a ∧ xs = [txV [32]] ∧ a.length + 2 ≤ 16777216 ∧ ∀ p, H p = none → Q (.ref p) (upd H p (.lst ((TL.spl [32] 0 [] a).map txV)))) := by
  intro pins s σ H x xs v us Q I rx rs h
  obtain ⟨a, rfl, rfl, hl, q⟩ := h
  refine mt_split pins s σ H _ _ v us Q I rx rs ⟨SX.S a, SX.S [32], rfl, rfl, rfl, by rw [SX.S_len, sizeLine_eq]; exact hl, fun p hp => ?_⟩
  rw [SX.split_S (by decide) (by decide), List.map_map]
  exact q p hp
theorem mt_countT : MtR X "str.count" (fun x xs H Q => ∃ (a : List Nat) (c : Nat), x = txV a ∧ xs = [txV [c]] ∧ Q (.int (a.count c : Nat)) H) := by
  intro pins s σ H x xs v us Q I rx rs h
  obtain ⟨a, c, rfl, rfl, q⟩ := h
  refine mt_count pins s σ H _ _ v us Q I rx rs ⟨SX.S a, SX.S [c], rfl, rfl, ?_⟩
  have e : Txt.count (SX.S a) (SX.S [c]) = ((a.count c : Nat) : Int) := (PyProof.Rows.count_is (SX.S a) c).trans (cnt_count c a)
  rw [e]; exact q
theorem mt_indexD : MtR X "str.index" (fun x xs H Q => ∃ c : Nat, x = txV [48, 49, 50, 51, 52, 53, 54, 55, 56, 57] ∧ xs = [txV [c]] ∧ 48 ≤ c ∧ c ≤ 57 ∧ Q (.int (c - 48 : Nat)) H) := by
  intro pins s σ H x xs v us Q I rx rs h
  obtain ⟨c, rfl, rfl, h0, h1, q⟩ := h
  refine mt_sindex pins s σ H _ _ v us Q I rx rs ⟨SX.S _, SX.S [c], c - 48, [], rfl, rfl, ?_, q⟩
  have : c = 48 ∨ c = 49 ∨ c = 50 ∨ c = 51 ∨ c = 52 ∨ c = 53 ∨ c = 54 ∨ c = 55 ∨ c = 56 ∨ c = 57 := by omega
  rcases this with rfl | rfl | rfl | rfl | rfl | rfl | rfl | rfl | rfl | rfl <;> decide +kernel
end
section
variable {X : Cx} {o e : Expr} {to te : TE} {apos pos : Pos}
def tMT (r : V → List V → Hp → VK → Prop) (to te : TE) : TE := tM1 r to te
theorem pe_startsT (ho : PE X o to) (he : PE X e te) (hs : starEach [e] X.env = [(false, eval e X.env)] := by rfl) (hbase : attributeBase o "startswith" X.env (eval o X.env) = eval o X.env := by rfl) (hline : (apos.endLine == pos.line) = true := by rfl) :
    PE X (.Call (.Attribute o "startswith" apos) [e] [] pos) (tM1 (fun x xs H Q => ∃ (a : List Nat) (c : Nat), x = txV a ∧ xs = [txV [c]] ∧ Q (.bl (decide (a.head? = some c))) H) to te) :=
  pe_m1 F.slot_str_startswith F.type_str_startswith mt_startsT ho he hs hbase hline
theorem pe_joinT (ho : PE X o to) (he : PE X e te) (hs : starEach [e] X.env = [(false, eval e X.env)] := by rfl) (hbase : attributeBase o "join" X.env (eval o X.env) = eval o X.env := by rfl) (hline : (apos.endLine == pos.line) = true := by rfl) :
    PE X (.Call (.Attribute o "join" apos) [e] [] pos) (tM1 (fun x xs H Q => ∃ (a : List Nat) (p : Addr) (ys : List (List Nat)), x = txV a ∧ xs = [.ref p] ∧ H p = some (.lst (ys.map txV)) ∧ (ys.map (·.length)).sum + ys.length * a.length ≤ 16777216 ∧ Q (txV (TL.joinL a ys)) H) to te) :=
  pe_m1 F.slot_str_join F.type_str_join mt_joinT ho he hs hbase hline
theorem pe_splitT (ho : PE X o to) (he : PE X e te) (hs : starEach [e] X.env = [(false, eval e X.env)] := by rfl) (hbase : attributeBase o "split" X.env (eval o X.env) = eval o X.env := by rfl) (hline : (apos.endLine == pos.line) = true := by rfl) :
    PE X (.Call (.Attribute o "split" apos) [e] [] pos) (tM1 (fun x xs H Q => ∃ (a : List Nat), x = txV a ∧ xs = [txV [32]] ∧ a.length + 2 ≤ 16777216 ∧ ∀ p, H p = none → Q (.ref p) (upd H p (.lst ((TL.spl [32] 0 [] a).map txV)))) to te) :=
  pe_m1 F.slot_str_split F.type_str_split mt_splitT ho he hs hbase hline
theorem pe_countT (ho : PE X o to) (he : PE X e te) (hs : starEach [e] X.env = [(false, eval e X.env)] := by rfl) (hbase : attributeBase o "count" X.env (eval o X.env) = eval o X.env := by rfl) (hline : (apos.endLine == pos.line) = true := by rfl) :
    PE X (.Call (.Attribute o "count" apos) [e] [] pos) (tM1 (fun x xs H Q => ∃ (a : List Nat) (c : Nat), x = txV a ∧ xs = [txV [c]] ∧ Q (.int (a.count c : Nat)) H) to te) :=
  pe_m1 F.slot_str_count F.type_str_count mt_countT ho he hs hbase hline
theorem pe_indexD (ho : PE X o to) (he : PE X e te) (hs : starEach [e] X.env = [(false, eval e X.env)] := by rfl) (hbase : attributeBase o "index" X.env (eval o X.env) = eval o X.env := by rfl) (hline : (apos.endLine == pos.line) = true := by rfl) :
    PE X (.Call (.Attribute o "index" apos) [e] [] pos) (tM1 (fun x xs H Q => ∃ c : Nat, x = txV [48, 49, 50, 51, 52, 53, 54, 55, 56, 57] ∧ xs = [txV [c]] ∧ 48 ≤ c ∧ c ≤ 57 ∧ Q (.int (c - 48 : Nat)) H) to te) :=
  pe_m1 F.slot_str_index F.type_str_index mt_indexD ho he hs hbase hline
end
/-! a text, walked -/
theorem walkT' {l : List Nat} : Walk (Its (SX.S l)) l.length (fun _ => True) (fun i H v H' => H' = H ∧ ∃ c, l[i]? = some c ∧ v = txV [c]) := by
  have w := walk_str (z := SX.S l)
  rw [show (SX.S l).cps.size = l.length from rfl] at w
  refine w.mono (fun _ h => h) fun i H x H' _ _ y => ⟨y.1, ?_⟩
  obtain ⟨c, hc, e⟩ := y.2
  exact ⟨c, by simpa using hc, e⟩
/-! deep data: lists of texts -/
end Rc
namespace Rc
open PySem PySem.Spec PyProof.Rows L2
/-! numbers and marks, written -/
def isDg (c : Nat) : Bool := decide (48 ≤ c) && decide (c ≤ 57)
abbrev dval (l : List Nat) : Nat := NumText.digitsVal l
def numOf (w : List Nat) : Option Nat :=
  if w = [] ∨ 12 < w.length ∨ (w.head? = some 48 ∧ w ≠ [48]) ∨ w.all isDg = false then none else some (dval w)
def marksOf (w : List Nat) : Option (List Bool) :=
  if w = [] ∨ 400 < w.length ∨ w.all (fun c => decide (c = 112) || decide (c = 116)) = false then none else some (w.map fun c => decide (c = 116))
def markT (b : Bool) : Nat := if b then 116 else 112
theorem fig_mem {c : Nat} : c ∈ ([48, 49, 50, 51, 52, 53, 54, 55, 56, 57] : List Nat) ↔ isDg c = true := by
  unfold isDg
  simp only [List.mem_cons, List.not_mem_nil, or_false, Bool.and_eq_true, decide_eq_true_eq]
  omega
theorem pt_mem {c : Nat} : c ∈ ([112, 116] : List Nat) ↔ (decide (c = 112) || decide (c = 116)) = true := by
  simp only [List.mem_cons, List.not_mem_nil, or_false, Bool.or_eq_true, decide_eq_true_eq]
theorem isDg_iff {c : Nat} : isDg c = true ↔ 48 ≤ c ∧ c ≤ 57 := by unfold isDg; rw [Bool.and_eq_true, decide_eq_true_eq, decide_eq_true_eq]
theorem all_take {α : Type} {p : α → Bool} {l : List α} {i : Nat} {y : α} (h : (l.take i).all p = true) (hy : l[i]? = some y) (hp : p y = true) : (l.take (i + 1)).all p = true := by
  rw [take_next hy, List.all_append, h]; simp [hp]
theorem all_full {α : Type} {p : α → Bool} {l : List α} (h : (l.take l.length).all p = true) : l.all p = true := by rwa [List.take_length] at h
theorem all_not {α : Type} {p : α → Bool} {l : List α} {i : Nat} {y : α} (hy : l[i]? = some y) (hp : ¬ p y = true) : l.all p = false := by
  rw [List.all_eq_false]; exact ⟨y, List.mem_of_getElem? hy, hp⟩
theorem dval_next {l : List Nat} {i y : Nat} (hy : l[i]? = some y) (h : isDg y = true) {n : Int} (hn : n = (dval (l.take i) : Int)) : n * 10 + ((y - 48 : Nat) : Int) = (dval (l.take (i + 1)) : Int) := by
  subst hn
  rw [take_next hy]
  show _ = ((NumText.digitsVal (l.take i ++ [y]) : Nat) : Int)
  unfold NumText.digitsVal
  rw [List.foldl_append]
  show _ = (((l.take i).foldl (fun acc c => acc * 10 + (c - 48)) 0 * 10 + (y - 48) : Nat) : Int)
  push_cast
  rfl
theorem numOf_none1 {w : List Nat} (h : w.length < 1 ∨ 12 < w.length) : numOf w = none := by
  unfold numOf; rw [if_pos]
  rcases h with h | h
  · exact .inl (List.eq_nil_of_length_eq_zero (by omega))
  · exact .inr (.inl h)
theorem numOf_none2 {w : List Nat} (h : w.all isDg = false) : numOf w = none := by unfold numOf; rw [if_pos (.inr (.inr (.inr h)))]
theorem numOf_none3 {w : List Nat} (h : w.head? = some 48) (h' : ¬ w = [48]) : numOf w = none := by unfold numOf; rw [if_pos (.inr (.inr (.inl ⟨h, h'⟩)))]
theorem numOf_some {w : List Nat} (h1 : 1 ≤ w.length) (h2 : w.length ≤ 12) (h : w.all isDg = true) (h3 : ¬ w.head? = some 48 ∨ w = [48]) : numOf w = some (dval w) := by
  unfold numOf; rw [if_neg]
  rintro (z | z | z | z)
  · subst z; exact absurd h1 (by decide)
  · omega
  · rcases h3 with h3 | h3
    · exact h3 z.1
    · exact z.2 h3
  · rw [h] at z; cases z
theorem int_txt {w : List Nat} (h1 : 1 ≤ w.length) (h2 : w.length ≤ 12) (h : w.all isDg = true) : PySem.intText? (SX.S w) = some ((dval w : Nat) : Int) :=
  SX.int_S h (fun z => by subst z; exact absurd h1 (by decide)) (by omega)
theorem head_get {w : List Nat} (h : 1 ≤ w.length) : w.head? = some (w.getD 0 0) := by
  cases w with
  | nil => exact absurd h (by decide)
  | cons a w => rfl
theorem marksOf_none1 {w : List Nat} (h : w.length < 1 ∨ 400 < w.length) : marksOf w = none := by
  unfold marksOf; rw [if_pos]
  rcases h with h | h
  · exact .inl (List.eq_nil_of_length_eq_zero (by omega))
  · exact .inr (.inl h)
theorem marksOf_none2 {w : List Nat} (h : w.all (fun c => decide (c = 112) || decide (c = 116)) = false) : marksOf w = none := by unfold marksOf; rw [if_pos (.inr (.inr h))]
theorem marksOf_some {w : List Nat} (h1 : 1 ≤ w.length) (h2 : w.length ≤ 400) (h : w.all (fun c => decide (c = 112) || decide (c = 116)) = true) : marksOf w = some (w.map fun c => decide (c = 116)) := by
  unfold marksOf; rw [if_neg]
  rintro (z | z | z)
  · subst z; exact absurd h1 (by decide)
  · omega
  · rw [h] at z; cases z
theorem joinL_nil : ∀ ys : List (List Nat), TL.joinL [] ys = ys.flatten
  | [] => rfl
  | [y] => by rw [List.flatten_cons, List.flatten_nil, List.append_nil]; rfl
  | y :: z :: ys => by
    have ih := joinL_nil (z :: ys)
    rw [List.flatten_cons, ← ih]
    show y ++ ([] ++ TL.joinL [] (z :: ys)) = _
    rfl
theorem joinL_one (f : Bool → Nat) (ms : List Bool) : TL.joinL [] (ms.map fun m => [f m]) = ms.map f := by
  rw [joinL_nil]
  induction ms with
  | nil => rfl
  | cons m ms ih => rw [List.map_cons, List.flatten_cons, ih]; rfl
theorem sum_ones (f : Bool → Nat) (ms : List Bool) : ((ms.map fun m => [f m]).map (·.length)).sum = ms.length := by
  induction ms with
  | nil => rfl
  | cons m ms ih => rw [List.map_cons, List.map_cons, List.sum_cons, ih, List.length_cons]; simp; omega
theorem marks_back {w : List Nat} {ms : List Bool} (h : marksOf w = some ms) : ms.map markT = w := by
  unfold marksOf at h
  split at h
  · cases h
  · rename_i hn
    cases h
    have ha : w.all (fun c => decide (c = 112) || decide (c = 116)) = true := by
      cases e : w.all (fun c => decide (c = 112) || decide (c = 116)) with
      | true => rfl
      | false => exact absurd (.inr (.inr e)) hn
    rw [List.map_map]
    refine (List.map_congr_left fun c hc => ?_).trans (List.map_id w)
    have := List.all_eq_true.mp ha c hc
    rw [Bool.or_eq_true, decide_eq_true_eq, decide_eq_true_eq] at this
    show (if decide (c = 116) = true then 116 else 112) = c
    rcases this with rfl | rfl <;> rfl
theorem numOf_num {n : Int} (h0 : 0 ≤ n) (h1 : n < 10 ^ 12) : numOf (numT n) = some n.toNat := by
  obtain ⟨m, rfl⟩ := Int.eq_ofNat_of_zero_le h0
  have hm : m < 10 ^ 12 := by omega
  show numOf (TL.numL m) = some m
  have hd := TL.numL_digits m
  have hall : (TL.numL m).all isDg = true := List.all_eq_true.mpr fun c hc => isDg_iff.mpr (hd c hc)
  have hne := TL.numL_ne m
  have hlen : 1 ≤ (TL.numL m).length := by
    cases e : TL.numL m with
    | nil => exact absurd e hne
    | cons a l => simp
  rw [numOf_some hlen (TL.numL_len (by decide) hm) hall ?_]
  · exact congrArg some (TL.numL_val m)
  · by_cases h9 : m < 10
    · rw [TL.numL_lt h9]
      by_cases e : m = 0
      · subst e; exact .inr rfl
      · refine .inl fun z => ?_
        have : 48 + m = 48 := Option.some.inj z
        omega
    · refine .inl fun z => ?_
      exact num_head m (by omega) z
where
  num_head : ∀ m : Nat, 1 ≤ m → ¬ (TL.numL m).head? = some 48 := by
    intro m
    induction m using Nat.strongRecOn with
    | ind m ih =>
      intro h1 z
      by_cases h9 : m < 10
      · rw [TL.numL_lt h9] at z
        have : 48 + m = 48 := Option.some.inj z
        omega
      · rw [TL.numL_step (by omega)] at z
        have h2 := ih (m / 10) (by omega) (by omega)
        rw [List.head?_append] at z
        cases e : (TL.numL (m / 10)).head? with
        | none =>
          have : TL.numL (m / 10) = [] := by
            cases e' : TL.numL (m / 10) with
            | nil => rfl
            | cons a l => rw [e'] at e; cases e
          exact TL.numL_ne _ this
        | some a => rw [e] at z h2; exact h2 z
theorem numT_len {n : Int} (h0 : 0 ≤ n) (h1 : n < 10 ^ 12) : 1 ≤ (numT n).length ∧ (numT n).length ≤ 12 := by
  have e := numOf_num h0 h1
  unfold numOf at e
  split at e
  · cases e
  · rename_i hn
    refine ⟨?_, ?_⟩
    · cases e' : numT n with
      | nil => exact absurd (.inl e') hn
      | cons a l => simp
    · exact Nat.le_of_not_lt fun z => hn (.inr (.inl z))
theorem cut_len {α : Type} (xs : List α) (lo hi : Option Int) : (cutL xs lo hi).length ≤ xs.length := by
  rw [cutL_length]; omega
theorem rep_len {α : Type} (xs : List α) (k : Nat) : (List.replicate k xs).flatten.length = k * xs.length := by
  rw [List.length_flatten, List.map_replicate, List.sum_replicate_nat]
end Rc
namespace Rc
open PySem PySem.Spec PyProof.Rows L2
def marksD (w : List Nat) : List Bool := w.map fun c => decide (c = 116)
theorem marks_some {w : List Nat} (h1 : 1 ≤ w.length) (h2 : w.length ≤ 400) (h : w.all (fun c => decide (c = 112) || decide (c = 116)) = true) : marksOf w = some (marksD w) := marksOf_some h1 h2 h
theorem marks_next {w : List Nat} {i y : Nat} (hy : w[i]? = some y) {ms : List Bool} (h : ms = marksD (w.take i)) {b : Bool} (hb : b = decide (y = 116)) : ms ++ [b] = marksD (w.take (i + 1)) := by
  subst h; subst hb; unfold marksD; rw [take_next hy, List.map_append]; rfl
theorem one_eq {y c : Nat} : [y] = [c] ↔ y = c := by constructor <;> intro h <;> simp_all
end Rc
namespace Rc
theorem marksD_len {w : List Nat} (h : marksOf w = some (marksD w)) : 1 ≤ (marksD w).length ∧ (marksD w).length ≤ 400 := by
  unfold marksOf at h
  split at h
  · cases h
  · rename_i hn
    unfold marksD
    rw [List.length_map]
    constructor
    · cases e : w with
      | nil => exact absurd (.inl e) hn
      | cons a l => simp
    · exact Nat.le_of_not_lt fun z => hn (.inr (.inl z))
end Rc
namespace Rc
theorem marks_wl {w : List Nat} (h : marksOf w = some (marksD w)) : 1 ≤ w.length ∧ w.length ≤ 400 := by
  have := marksD_len h
  unfold marksD at this
  rwa [List.length_map] at this
theorem marks_all {w : List Nat} {m : List Bool} (h : marksOf w = some m) : w.all (fun c => decide (c = 112) || decide (c = 116)) = true := by
  unfold marksOf at h
  split at h
  · cases h
  · rename_i hn
    cases e : w.all (fun c => decide (c = 112) || decide (c = 116)) with
    | true => rfl
    | false => exact absurd (.inr (.inr e)) hn
end Rc
namespace Rc
theorem num_same {t : List Nat} {a b : Int} (h : numOf t = some (Int.toNat a) ∧ 0 ≤ a) (h1 : numOf t = some (Int.toNat b)) (h2 : 0 ≤ b) : b = a := by
  rw [h.1] at h1
  have := Option.some.inj h1
  omega
theorem all4T {α : Type} {P : α → Prop} {a b c d : α} (h1 : P a) (h2 : P b) (h3 : P c) (h4 : P d) : ∀ z, z ∈ [a, b, c, d] → P z := by
  intro z hz
  simp only [List.mem_cons, List.not_mem_nil, or_false] at hz
  rcases hz with rfl | rfl | rfl | rfl <;> assumption
theorem pick2U (a b x : Int) : ([a, b] : List Int).getD (Int.toNat (min 1 x)) 0 = a ∨ ([a, b] : List Int).getD (Int.toNat (min 1 x)) 0 = b := by
  by_cases h : 1 ≤ x
  · rw [Int.min_eq_left h]; exact .inr rfl
  · rw [show Int.toNat (min 1 x) = 0 by omega]; exact .inl rfl
end Rc
namespace Rc
open PySem PySem.Spec PyProof.Rows L2 Evl

local macro_rules | `(tactic| walk_at "sca") => `(tactic| first | assumption | exact Sca.ints _ | exact Sca.bls _ | rfl | decide | (simp_all; done))
local macro_rules | `(tactic| walk_at "side") => `(tactic| first | omega | assumption | (simp only [List.length_map, List.length_range, List.length_append, List.length_cons, List.length_nil, cutL_length]; omega) | (simp only [List.length_map, List.length_range, List.length_append, List.length_cons, List.length_nil] at *; omega) | (simp at *; omega))
local macro_rules | `(tactic| walk_at "size") => `(tactic| first | (refine Evl.sz_lt ?_; simp only [List.length_map, List.length_range, List.length_append, List.length_cons, List.length_nil, cutL_length, List.length_set, List.length_replicate, List.length_reverse]; omega) | (refine Evl.sz_of ?_; simp only [List.length_map, List.length_range, List.length_append, List.length_cons, List.length_nil, cutL_length, List.length_set, List.length_replicate, List.length_reverse]; omega) | (refine Evl.sz_lt ?_; simp; omega) | (refine Evl.sz_of ?_; simp; omega))
local macro_rules | `(tactic| walk_at "tsize") => `(tactic| (refine Evl.sz_lt ?_; simp only [List.length_map, List.length_append, List.length_cons, List.length_nil]; first | omega | (rw [snd_len (by assumption)]; omega)))
local macro_rules | `(tactic| walk_at "csize") => `(tactic| first | (refine Evl.sz_lt ?_; simp only [List.length_map, List.length_take, List.length_range]; omega) | (refine Evl.sz_lt ?_; simp only [List.length_map]; refine Nat.lt_of_le_of_lt (List.length_filter_le _ _) ?_; simp only [List.length_take, List.length_range]; omega))
local macro_rules | `(tactic| walk_at "inv") => `(tactic| first | omega | assumption | rfl | (simp only [List.length_append, List.length_cons, List.length_nil, List.length_set]; omega) | (simp; omega) | simp_all)
local macro_rules | `(tactic| walk_at "post") => `(tactic| first | rfl | assumption | omega | (simp_all; done) | (simp_all; omega))
local macro_rules | `(tactic| walk_at "mul") => `(tactic| first | exact .inl (by omega) | exact .inr (by omega))
local macro_rules | `(tactic| walk_at "txl") => `(tactic| first | omega | (simp only [List.length_append, List.length_cons, List.length_nil]; omega) | (simp only [List.length_append, List.length_cons, List.length_nil] at *; omega) | (simp; omega))
local macro_rules | `(tactic| walk_at "log") => `(tactic| exact log_lt (by omega))
local macro_rules | `(tactic| walk_at "div") => `(tactic| exact ⟨by omega, by omega⟩)
local macro_rules | `(tactic| walk_at "widediv") => `(tactic| first | exact ⟨by omega, wl_of (by omega) (by omega)⟩)
local macro_rules | `(tactic| walk_at "rgok") => `(tactic| exact ⟨by omega, by omega, by omega, by omega, by omega⟩)
local macro_rules | `(tactic| walk_at "rgc") => `(tactic| omega)
local macro_rules | `(tactic| walk_at "comp") => `(tactic| first | (simp_all; done) | (simp_all; omega) | grind)
def topS (i : Nat) : Stmt := PySem.Challenge.pw_riftcarry_k91_numbers_and_marks_read.main.body.getD i (.Pass ⟨0, 0, 0, 0⟩)
abbrev s_law_cell_at : Stmt := topS 16
abbrev s_law_mixed : Stmt := topS 17
abbrev s_law_written : Stmt := topS 19
abbrev s_law_number : Stmt := topS 21
abbrev s_law_drawn : Stmt := topS 18
abbrev s_law_spoilt : Stmt := topS 20
abbrev s_read_number : Stmt := topS 11
abbrev s_law_other : Stmt := topS 23
abbrev s_law_read : Stmt := topS 24
abbrev s_law_marked : Stmt := topS 22
abbrev s_read_marks : Stmt := topS 12
abbrev s_show_mark : Stmt := topS 14
abbrev s_show_marks : Stmt := topS 13
abbrev s_law_read_marks : Stmt := topS 25
abbrev s_law : Stmt := topS 26
structure Txt (K : PySem.W.Frag) (mg : Str → Option Value) where
  f_law_cell_at : Addr
  fd_law_cell_at : FuncData
  F_law_cell_at : Fun K "_law_cell_at" "_law_cell_at" s_law_cell_at f_law_cell_at fd_law_cell_at
  g_law_cell_at : mg "_law_cell_at" = some (.ref f_law_cell_at)
  b_law_cell_at : Binds K fd_law_cell_at ["_law_script", "_law_k"] []
  f_law_mixed : Addr
  fd_law_mixed : FuncData
  F_law_mixed : Fun K "_law_mixed" "_law_mixed" s_law_mixed f_law_mixed fd_law_mixed
  g_law_mixed : mg "_law_mixed" = some (.ref f_law_mixed)
  b_law_mixed : Binds K fd_law_mixed ["_law_cell", "_law_k"] []
  f_law_written : Addr
  fd_law_written : FuncData
  F_law_written : Fun K "_law_written" "_law_written" s_law_written f_law_written fd_law_written
  g_law_written : mg "_law_written" = some (.ref f_law_written)
  b_law_written : Binds K fd_law_written ["_law_cell", "_law_most"] []
  f_law_number : Addr
  fd_law_number : FuncData
  F_law_number : Fun K "_law_number" "_law_number" s_law_number f_law_number fd_law_number
  g_law_number : mg "_law_number" = some (.ref f_law_number)
  b_law_number : Binds K fd_law_number ["_law_text"] []
  f_law_drawn : Addr
  fd_law_drawn : FuncData
  F_law_drawn : Fun K "_law_drawn" "_law_drawn" s_law_drawn f_law_drawn fd_law_drawn
  g_law_drawn : mg "_law_drawn" = some (.ref f_law_drawn)
  b_law_drawn : Binds K fd_law_drawn ["_law_cell"] []
  f_law_spoilt : Addr
  fd_law_spoilt : FuncData
  F_law_spoilt : Fun K "_law_spoilt" "_law_spoilt" s_law_spoilt f_law_spoilt fd_law_spoilt
  g_law_spoilt : mg "_law_spoilt" = some (.ref f_law_spoilt)
  b_law_spoilt : Binds K fd_law_spoilt ["_law_text", "_law_cell"] []
  f_read_number : Addr
  fd_read_number : FuncData
  F_read_number : Fun K "read_number" "read_number" s_read_number f_read_number fd_read_number
  g_read_number : mg "read_number" = some (.ref f_read_number)
  b_read_number : Binds K fd_read_number ["word"] []
  f_law_other : Addr
  fd_law_other : FuncData
  F_law_other : Fun K "_law_other" "_law_other" s_law_other f_law_other fd_law_other
  g_law_other : mg "_law_other" = some (.ref f_law_other)
  b_law_other : Binds K fd_law_other ["_law_e"] []
  f_law_read : Addr
  fd_law_read : FuncData
  F_law_read : Fun K "_law_read" "_law_read" s_law_read f_law_read fd_law_read
  g_law_read : mg "_law_read" = some (.ref f_law_read)
  b_law_read : Binds K fd_law_read ["_law_text"] []
  f_law_marked : Addr
  fd_law_marked : FuncData
  F_law_marked : Fun K "_law_marked" "_law_marked" s_law_marked f_law_marked fd_law_marked
  g_law_marked : mg "_law_marked" = some (.ref f_law_marked)
  b_law_marked : Binds K fd_law_marked ["_law_text"] []
  f_read_marks : Addr
  fd_read_marks : FuncData
  F_read_marks : Fun K "read_marks" "read_marks" s_read_marks f_read_marks fd_read_marks
  g_read_marks : mg "read_marks" = some (.ref f_read_marks)
  b_read_marks : Binds K fd_read_marks ["word"] []
  f_show_mark : Addr
  fd_show_mark : FuncData
  F_show_mark : Fun K "show_mark" "show_mark" s_show_mark f_show_mark fd_show_mark
  g_show_mark : mg "show_mark" = some (.ref f_show_mark)
  b_show_mark : Binds K fd_show_mark ["mark"] []
  f_show_marks : Addr
  fd_show_marks : FuncData
  F_show_marks : Fun K "show_marks" "show_marks" s_show_marks f_show_marks fd_show_marks
  g_show_marks : mg "show_marks" = some (.ref f_show_marks)
  b_show_marks : Binds K fd_show_marks ["marks"] []
  f_law_read_marks : Addr
  fd_law_read_marks : FuncData
  F_law_read_marks : Fun K "_law_read_marks" "_law_read_marks" s_law_read_marks f_law_read_marks fd_law_read_marks
  g_law_read_marks : mg "_law_read_marks" = some (.ref f_law_read_marks)
  b_law_read_marks : Binds K fd_law_read_marks ["_law_text"] []
  f_law : Addr
  fd_law : FuncData
  F_law : Fun K "law" "law" s_law f_law fd_law
  g_law : mg "law" = some (.ref f_law)
  b_law : Binds K fd_law ["_law_script"] []
  C_RiftError : Addr
  X_RiftError : ExcT K mg "RiftError" C_RiftError
  C_NoPack : Addr
  X_NoPack : ExcT K mg "NoPack" C_NoPack
  C_NoMarks : Addr
  X_NoMarks : ExcT K mg "NoMarks" C_NoMarks
  C_NoRiffle : Addr
  X_NoRiffle : ExcT K mg "NoRiffle" C_NoRiffle
  C_NoWay : Addr
  X_NoWay : ExcT K mg "NoWay" C_NoWay
  C_TooMany : Addr
  X_TooMany : ExcT K mg "TooMany" C_TooMany
  C_NoFigures : Addr
  X_NoFigures : ExcT K mg "NoFigures" C_NoFigures
  C_NoText : Addr
  X_NoText : ExcT K mg "NoText" C_NoText
  S_NoText_NoFigures : PySem.W.subIn K (.ref C_NoText) (.ref C_NoFigures) = some false
  N_NoText_NoFigures : C_NoText ≠ C_NoFigures
  S_NoText_NoMarks : PySem.W.subIn K (.ref C_NoText) (.ref C_NoMarks) = some false
  N_NoText_NoMarks : C_NoText ≠ C_NoMarks
  S_NoText_NoPack : PySem.W.subIn K (.ref C_NoText) (.ref C_NoPack) = some false
  N_NoText_NoPack : C_NoText ≠ C_NoPack
  S_NoText_NoRiffle : PySem.W.subIn K (.ref C_NoText) (.ref C_NoRiffle) = some false
  N_NoText_NoRiffle : C_NoText ≠ C_NoRiffle
  S_NoText_NoText : PySem.W.subIn K (.ref C_NoText) (.ref C_NoText) = some true
  S_NoText_NoWay : PySem.W.subIn K (.ref C_NoText) (.ref C_NoWay) = some false
  N_NoText_NoWay : C_NoText ≠ C_NoWay
  S_NoText_RiftError : PySem.W.subIn K (.ref C_NoText) (.ref C_RiftError) = some true
  S_NoText_TooMany : PySem.W.subIn K (.ref C_NoText) (.ref C_TooMany) = some false
  N_NoText_TooMany : C_NoText ≠ C_TooMany
  u_FIGURES : Value
  c_FIGURES : mg "FIGURES" = some u_FIGURES
  r_FIGURES : RelV (.str "0123456789") u_FIGURES
  m_abs : mg "abs" = none
  m_bool : mg "bool" = none
  m_int : mg "int" = none
  m_isinstance : mg "isinstance" = none
  m_len : mg "len" = none
  m_list : mg "list" = none
  m_min : mg "min" = none
  m_range : mg "range" = none
  m_str : mg "str" = none
section
variable {P : Program} {w : World} {K : PySem.W.Frag} {mg : Str → Option Value} {base : Heap}
def sp_law_cell_at (K : PySem.W.Frag) : Sp := fun vs H Q _ => ∃ (a_script : Addr) (script : List Int) (k : Int), vs = [V.ref a_script, V.int k] ∧ SqL K H a_script (List.map V.int script) ∧ (0 ≤ k) ∧ (∀ (H1 : Hp) (res : Int), (True) → Same H H1 → Q (V.int res) H1)
theorem sc_law_cell_at : FnScope ["_law_script", "_law_k"] ["_law_script", "_law_k"] (defScope s_law_cell_at) := ⟨rfl, rfl, rfl, by decide +kernel, rfl, by decide +kernel, by decide +kernel⟩
theorem ok_law_cell_at (T : Txt K mg) : FnOk P w K mg base CX0 1 T.f_law_cell_at T.fd_law_cell_at ["_law_script", "_law_k"] (sp_law_cell_at K) := by
  refine T.F_law_cell_at.ok sc_law_cell_at (fun vs H Q E h => ?_) (fun cdv A outer s H vs Q E hr h => ?_)
  · obtain ⟨a_script, script, k, rfl, _⟩ := h; rfl
  · obtain ⟨a_script, script, k, rfl, h_script, pre0, q⟩ := h
    have fr := Fr.nil H
    refine ⟨_, (pss_cons (ps_if (pt_cmpR op_ltS (pv 1) (pe_callB (show CallR _ _ (rLenL K) from call_lenL) (by rfl) T.m_len (by decide +kernel) (pa_cons (pv 0) pa_nil)) (nomark _)) (pss_one (ps_ret (pe_ix (show IxR _ (rIxL K) from ix_list) (pv 0) (pv 1) (fun _ _ => rfl)))) pss_nil)
          (pss_one (ps_ret pe_int))), ?_⟩
    refine ⟨_, rfl, _, rfl, _, _, _, rfl, (fr.same.seq h_script), (List.length_map _), _, _, rfl, rfl, ?_, ?_⟩
    · intro h1
      refine ⟨_, rfl, ?_⟩
      refine iteT ?_
      refine ⟨_, rfl, _, rfl, _, _, _, _, rfl, rfl, (fr.same.seq h_script), (atD 0 ?_ ?_), ?_⟩
      · walk_at "side"
      · walk_at "side"
      exact q _ ((List.getD script (Int.toNat k) 0)) (by trivial) fr.same
    · intro h1
      refine ⟨_, rfl, ?_⟩
      refine iteF ?_
      exact q _ 0 (by trivial) fr.same
def sp_law_number (K : PySem.W.Frag) : Sp := fun vs H Q _ => ∃ (text : List Nat), vs = [txV text] ∧ (text.length ≤ 2000) ∧ ((∀ (H1 : Hp), (numOf text = none) → Same H H1 → Q V.non H1) ∧ (∀ (H1 : Hp) (res : Int), (numOf text = some (Int.toNat res) ∧ 0 ≤ res) → Same H H1 → Q (V.int res) H1))
theorem sc_law_number : FnScope ["_law_text", "_law_number_here", "_law_sign"] ["_law_text"] (defScope s_law_number) := ⟨rfl, rfl, rfl, by decide +kernel, rfl, by decide +kernel, by decide +kernel⟩
theorem ok_law_number (T : Txt K mg) : FnOk P w K mg base CX0 1 T.f_law_number T.fd_law_number ["_law_text"] (sp_law_number K) := by
  refine T.F_law_number.ok sc_law_number (fun vs H Q E h => ?_) (fun cdv A outer s H vs Q E hr h => ?_)
  · obtain ⟨text, rfl, _⟩ := h; rfl
  · obtain ⟨text, rfl, pre0, q⟩ := h
    have fr := Fr.nil H
    refine ⟨_, (pss_cons (ps_if (PW.pt (pw_or (pt_cmpR op_eqS (pe_callB call_lenTx (by rfl) T.m_len (by decide +kernel) (pa_cons (pv 0) pa_nil)) pe_int (nomark _)) (pw_or (pt_cmpR op_gtS (pe_callB call_lenTx (by rfl) T.m_len (by decide +kernel) (pa_cons (pv 0) pa_nil)) pe_int (nomark _)) (pw_or1 (PW.pt (pw_and (pt_cmpR op_eqT (pe_ix ix_T (pv 0) pe_int (fun _ _ => rfl)) (pe_txt [48] (by decide +kernel)) (nomark _)) (pw_and1 (pt_cmpR op_neT (pv 0) (pe_txt [48] (by decide +kernel)) (nomark _))))))))) (pss_one (ps_ret pe_non)) pss_nil)
          (pss_cons (ps_set (i := 1) sc_law_number.nd rfl (Or.inl rfl) pe_int)
          (pss_cons (ps_for PassesOwn.never rfl (pi_str (pv 0)) (pg_name (i := 2) sc_law_number.nd rfl (Or.inl rfl)) (pss_cons (ps_if (pt_cmpR (opS op_notInT) (pv 2) (pe_txt [48, 49, 50, 51, 52, 53, 54, 55, 56, 57] (by decide +kernel)) (by rfl)) (pss_one (ps_ret pe_non)) pss_nil)
          (pss_one (ps_set (i := 1) sc_law_number.nd rfl (Or.inl rfl) (pe_op op_add (pe_op op_mul (pv 1) pe_int) (pe_indexD (pe_txt [48, 49, 50, 51, 52, 53, 54, 55, 56, 57] (by decide +kernel)) (pv 2)))))))
          (pss_one (ps_ret (pv 1)))))), ?_⟩
    refine ⟨_, rfl, _, rfl, ?_, _, _, rfl, rfl, ?_, ?_⟩
    · walk_at "txl"
    · intro h1
      refine ⟨_, rfl, ?_⟩
      refine iteT ?_
      refine iteT ?_
      exact q.1 _ (by first | exact numOf_none1 (by omega) | exact numOf_none2 (all_not (by assumption) (fun z => absurd (fig_mem.mpr z) (by assumption))) | (refine numOf_none3 ?_ (by assumption); rw [head_get (by omega)]; exact congrArg some (one_eq.mp (by assumption)))) fr.same
    · intro h1
      refine ⟨_, rfl, ?_⟩
      refine iteF ?_
      refine ⟨_, rfl, _, rfl, ?_, _, _, rfl, rfl, ?_, ?_⟩
      · walk_at "txl"
      · intro h2
        refine ⟨_, rfl, ?_⟩
        refine iteT ?_
        refine iteT ?_
        exact q.1 _ (by first | exact numOf_none1 (by omega) | exact numOf_none2 (all_not (by assumption) (fun z => absurd (fig_mem.mpr z) (by assumption))) | (refine numOf_none3 ?_ (by assumption); rw [head_get (by omega)]; exact congrArg some (one_eq.mp (by assumption)))) fr.same
      · intro h2
        refine ⟨_, rfl, ?_⟩
        refine iteF ?_
        refine ⟨_, rfl, _, _, rfl, rfl, ?_, ?_, ?_, _, _, rfl, rfl, ?_, ?_⟩
        · walk_at "txl"
        · omega
        · omega
        · intro h3
          refine ⟨_, rfl, ?_⟩
          refine iteT ?_
          refine ⟨_, rfl, _, _, rfl, rfl, ?_, ?_⟩
          · intro h4
            refine ⟨_, rfl, ?_⟩
            refine iteT ?_
            exact q.1 _ (by first | exact numOf_none1 (by omega) | exact numOf_none2 (all_not (by assumption) (fun z => absurd (fig_mem.mpr z) (by assumption))) | (refine numOf_none3 ?_ (by assumption); rw [head_get (by omega)]; exact congrArg some (one_eq.mp (by assumption)))) fr.same
          · intro h4
            refine ⟨_, rfl, ?_⟩
            refine iteF ?_
            refine ⟨_, rfl, _, rfl, ?_⟩
            refine for_it (walkT' (l := text)) (fun (i : Nat) σ H1 => ∃ (number_5 : Int) (y_6 : Option V), σ = [some (txV text), some (V.int number_5), y_6] ∧ Fr H H1 [] ∧ ((text.take i).all isDg = true) ∧ (number_5 = (dval (text.take i) : Int))) ?_ ?_ ?_ ?_
            · refine ⟨0, _, rfl, fr, ?_, ?_⟩
              · rfl
              · rfl
            · rintro i σ H1 hi ⟨number_5, y_6, rfl, fr, ha, hn⟩
              exact trivial
            · rintro i_7 x_9 s_12 H_10 H_11 hi_8 ⟨number_5, y_6, rfl, fr, ha, hn⟩ ⟨rfl, y_13, hy_14, rfl⟩
              refine ⟨_, rfl, _, _, rfl, rfl, _, rfl, ?_, ?_⟩
              · intro h15
                replace h15 := not_of_nd h15
                refine ⟨_, rfl, ?_⟩
                refine iteT ?_
                exact q.1 _ (by first | exact numOf_none1 (by omega) | exact numOf_none2 (all_not (by assumption) (fun z => absurd (fig_mem.mpr z) (by assumption))) | (refine numOf_none3 ?_ (by assumption); rw [head_get (by omega)]; exact congrArg some (one_eq.mp (by assumption)))) fr.same
              · intro h15
                replace h15 := of_nd h15
                refine ⟨_, rfl, ?_⟩
                refine iteF ?_
                refine ⟨_, rfl, _, _, rfl, rfl, (.inr (by decide)), ⟨_, rfl⟩, _, rfl, _, rfl, rfl, ?_, ?_, _, _, rfl, rfl, ?_⟩
                · have hdg := isDg_iff.mp (fig_mem.mp (by assumption)); omega
                · have hdg := isDg_iff.mp (fig_mem.mp (by assumption)); omega
                refine ⟨((number_5 * 10) + ((y_13 - 48 : Nat) : Int)), _, rfl, fr, ?_, ?_⟩
                · exact all_take ha hy_14 (fig_mem.mp (by assumption))
                · exact dval_next hy_14 (fig_mem.mp (by assumption)) hn
            rintro s_17 H_16 ⟨number_5, y_6, rfl, fr, ha, hn⟩
            have hal := all_full ha
            rw [List.take_length] at hn
            refine ⟨_, rfl, ?_⟩
            exact q.2 _ number_5 (by refine ⟨?_, by omega⟩; rw [numOf_some (by omega) (by omega) hal (by first | (right; assumption) | (left; rw [head_get (by omega)]; intro z; exact absurd (one_eq.mpr (Option.some.inj z)) (by assumption))), hn]; simp) fr.same
        · intro h3
          refine ⟨_, rfl, ?_⟩
          refine iteF ?_
          refine iteF ?_
          refine ⟨_, rfl, _, rfl, ?_⟩
          refine for_it (walkT' (l := text)) (fun (i : Nat) σ H1 => ∃ (number_18 : Int) (y_19 : Option V), σ = [some (txV text), some (V.int number_18), y_19] ∧ Fr H H1 [] ∧ ((text.take i).all isDg = true) ∧ (number_18 = (dval (text.take i) : Int))) ?_ ?_ ?_ ?_
          · refine ⟨0, _, rfl, fr, ?_, ?_⟩
            · rfl
            · rfl
          · rintro i σ H1 hi ⟨number_18, y_19, rfl, fr, ha, hn⟩
            exact trivial
          · rintro i_20 x_22 s_25 H_23 H_24 hi_21 ⟨number_18, y_19, rfl, fr, ha, hn⟩ ⟨rfl, y_26, hy_27, rfl⟩
            refine ⟨_, rfl, _, _, rfl, rfl, _, rfl, ?_, ?_⟩
            · intro h28
              replace h28 := not_of_nd h28
              refine ⟨_, rfl, ?_⟩
              refine iteT ?_
              exact q.1 _ (by first | exact numOf_none1 (by omega) | exact numOf_none2 (all_not (by assumption) (fun z => absurd (fig_mem.mpr z) (by assumption))) | (refine numOf_none3 ?_ (by assumption); rw [head_get (by omega)]; exact congrArg some (one_eq.mp (by assumption)))) fr.same
            · intro h28
              replace h28 := of_nd h28
              refine ⟨_, rfl, ?_⟩
              refine iteF ?_
              refine ⟨_, rfl, _, _, rfl, rfl, (.inr (by decide)), ⟨_, rfl⟩, _, rfl, _, rfl, rfl, ?_, ?_, _, _, rfl, rfl, ?_⟩
              · have hdg := isDg_iff.mp (fig_mem.mp (by assumption)); omega
              · have hdg := isDg_iff.mp (fig_mem.mp (by assumption)); omega
              refine ⟨((number_18 * 10) + ((y_26 - 48 : Nat) : Int)), _, rfl, fr, ?_, ?_⟩
              · exact all_take ha hy_27 (fig_mem.mp (by assumption))
              · exact dval_next hy_27 (fig_mem.mp (by assumption)) hn
          rintro s_30 H_29 ⟨number_18, y_19, rfl, fr, ha, hn⟩
          have hal := all_full ha
          rw [List.take_length] at hn
          refine ⟨_, rfl, ?_⟩
          exact q.2 _ number_18 (by refine ⟨?_, by omega⟩; rw [numOf_some (by omega) (by omega) hal (by first | (right; assumption) | (left; rw [head_get (by omega)]; intro z; exact absurd (one_eq.mpr (Option.some.inj z)) (by assumption))), hn]; simp) fr.same
def sp_law_other_e {K : PySem.W.Frag} {mg : Str → Option Value} (T : Txt K mg) : Addr → Addr → Sp := fun a D vs H Q _ => (D = T.C_NoText) ∧ vs = [V.ref a] ∧ (∀ (H1 : Hp) (res : Bool), (res = false) → Same H H1 → Q (V.bl res) H1)
theorem sc_law_other_e : FnScope ["_law_e"] ["_law_e"] (defScope s_law_other) := ⟨rfl, rfl, rfl, by decide +kernel, rfl, by decide +kernel, by decide +kernel⟩
theorem ok_law_other_e (T : Txt K mg) : FnE P w K mg base 1 T.f_law_other T.fd_law_other ["_law_e"] (sp_law_other_e T) := by
  refine Rc.Fun.okE T.F_law_other sc_law_other_e (fun a D vs H Q E h => ?_) (fun cdv A outer s H vs Q E p D hot hr h => ?_)
  · obtain ⟨_, rfl, _⟩ := h; rfl
  · obtain ⟨hD, rfl, q⟩ := h
    have fr := Fr.nil H
    refine ⟨_, (pss_cons (ps_if (PW.pt (pw_or (pt_valS (pe_callB (show CallR _ _ (rIsP K p.1 (.ref D) none) from call_isP (a := p.1) (oe := p.2) hot.cl hot.dt List.mem_cons_self) (by rfl) T.m_isinstance (by decide +kernel) (pa_cons (pv 0) (pa_cons (pe_glob rfl T.X_NoPack.g (show RelV (.ref T.C_NoPack) (.ref T.C_NoPack) from rfl)) pa_nil)))) (pw_or (pt_valS (pe_callB (show CallR _ _ (rIsP K p.1 (.ref D) none) from call_isP (a := p.1) (oe := p.2) hot.cl hot.dt List.mem_cons_self) (by rfl) T.m_isinstance (by decide +kernel) (pa_cons (pv 0) (pa_cons (pe_glob rfl T.X_NoMarks.g (show RelV (.ref T.C_NoMarks) (.ref T.C_NoMarks) from rfl)) pa_nil)))) (pw_or (pt_valS (pe_callB (show CallR _ _ (rIsP K p.1 (.ref D) none) from call_isP (a := p.1) (oe := p.2) hot.cl hot.dt List.mem_cons_self) (by rfl) T.m_isinstance (by decide +kernel) (pa_cons (pv 0) (pa_cons (pe_glob rfl T.X_NoRiffle.g (show RelV (.ref T.C_NoRiffle) (.ref T.C_NoRiffle) from rfl)) pa_nil)))) (pw_or1 (pt_valS (pe_callB (show CallR _ _ (rIsP K p.1 (.ref D) none) from call_isP (a := p.1) (oe := p.2) hot.cl hot.dt List.mem_cons_self) (by rfl) T.m_isinstance (by decide +kernel) (pa_cons (pv 0) (pa_cons (pe_glob rfl T.X_NoWay.g (show RelV (.ref T.C_NoWay) (.ref T.C_NoWay) from rfl)) pa_nil))))))))) (pss_one (ps_ret pe_bl)) pss_nil)
          (pss_one (ps_ret (pe_or (pe_splS (pe_callB (show CallR _ _ (rIsP K p.1 (.ref D) none) from call_isP (a := p.1) (oe := p.2) hot.cl hot.dt List.mem_cons_self) (by rfl) T.m_isinstance (by decide +kernel) (pa_cons (pv 0) (pa_cons (pe_glob rfl T.X_TooMany.g (show RelV (.ref T.C_TooMany) (.ref T.C_TooMany) from rfl)) pa_nil)))) (pe_or (pe_splS (pe_callB (show CallR _ _ (rIsP K p.1 (.ref D) none) from call_isP (a := p.1) (oe := p.2) hot.cl hot.dt List.mem_cons_self) (by rfl) T.m_isinstance (by decide +kernel) (pa_cons (pv 0) (pa_cons (pe_glob rfl T.X_NoFigures.g (show RelV (.ref T.C_NoFigures) (.ref T.C_NoFigures) from rfl)) pa_nil)))) (pe_one (pe_not (pe_callB (show CallR _ _ (rIsP K p.1 (.ref D) none) from call_isP (a := p.1) (oe := p.2) hot.cl hot.dt List.mem_cons_self) (by rfl) T.m_isinstance (by decide +kernel) (pa_cons (pv 0) (pa_cons (pe_glob rfl T.X_RiftError.g (show RelV (.ref T.C_RiftError) (.ref T.C_RiftError) from rfl)) pa_nil)))))))))), ?_⟩
    subst hD
    · refine ⟨_, rfl, _, _, _, _, rfl, rfl, T.X_NoText.c, rfl, rel_ref, (T.X_NoPack.kit T.S_NoText_NoPack (fun _ => T.N_NoText_NoPack)), _, rfl, (fun h => nomatch h), fun _ => ?_⟩
      refine iteF ?_
      refine ⟨_, rfl, _, _, _, _, rfl, rfl, T.X_NoText.c, rfl, rel_ref, (T.X_NoMarks.kit T.S_NoText_NoMarks (fun _ => T.N_NoText_NoMarks)), _, rfl, (fun h => nomatch h), fun _ => ?_⟩
      refine iteF ?_
      refine ⟨_, rfl, _, _, _, _, rfl, rfl, T.X_NoText.c, rfl, rel_ref, (T.X_NoRiffle.kit T.S_NoText_NoRiffle (fun _ => T.N_NoText_NoRiffle)), _, rfl, (fun h => nomatch h), fun _ => ?_⟩
      refine iteF ?_
      refine ⟨_, rfl, _, _, _, _, rfl, rfl, T.X_NoText.c, rfl, rel_ref, (T.X_NoWay.kit T.S_NoText_NoWay (fun _ => T.N_NoText_NoWay)), _, rfl, (fun h => nomatch h), fun _ => ?_⟩
      refine iteF ?_
      refine ⟨_, rfl, _, _, _, _, rfl, rfl, T.X_NoText.c, rfl, rel_ref, (T.X_TooMany.kit T.S_NoText_TooMany (fun _ => T.N_NoText_TooMany)), _, rfl, (fun h => nomatch h), fun _ => ?_⟩
      refine ⟨_, rfl, ?_⟩
      refine iteF ?_
      refine ⟨_, rfl, _, _, _, _, rfl, rfl, T.X_NoText.c, rfl, rel_ref, (T.X_NoFigures.kit T.S_NoText_NoFigures (fun _ => T.N_NoText_NoFigures)), _, rfl, (fun h => nomatch h), fun _ => ?_⟩
      refine ⟨_, rfl, ?_⟩
      refine iteF ?_
      refine ⟨_, rfl, _, _, _, _, rfl, rfl, T.X_NoText.c, rfl, rel_ref, (T.X_RiftError.kit T.S_NoText_RiftError (fun z => nomatch z)), _, rfl, ?_⟩
      exact q _ false (by rfl) fr.same
def sp_read_number_x {K : PySem.W.Frag} {mg : Str → Option Value} (T : Txt K mg) : Sp := fun vs H Q E => ∃ (word : List Nat), vs = [txV word] ∧ (word.length ≤ 2000) ∧ (∀ (H1 : Hp) (res : Int), (numOf word = some (Int.toNat res)) → (0 ≤ res) → Same H H1 → Q (V.int res) H1) ∧ (∀ (H1 : Hp), (numOf word = none) → Same H H1 → E (.ref T.C_NoText) none H1)
theorem sc_read_number_x : FnScope ["word", "sign"] ["word"] (defScope s_read_number) := ⟨rfl, rfl, rfl, by decide +kernel, rfl, by decide +kernel, by decide +kernel⟩
theorem ok_read_number_x (T : Txt K mg) : FnOk P w K mg base (L2.CX P w) 1 T.f_read_number T.fd_read_number ["word"] (sp_read_number_x T) := by
  refine T.F_read_number.okX sc_read_number_x (fun vs H Q E h => ?_) (fun cdv A outer s H vs Q E hr h => ?_)
  · obtain ⟨word, rfl, _⟩ := h; rfl
  · obtain ⟨word, rfl, pre0, q, qe0⟩ := h
    have fr := Fr.nil H
    refine ⟨_, (pss_cons (ps_if (PW.pt (pw_or (pt_cmpR op_ltS (pe_callB call_lenTx (by rfl) T.m_len (by decide +kernel) (pa_cons (pv 0) pa_nil)) pe_int (nomark _)) (pw_or1 (pt_cmpR op_gtS (pe_callB call_lenTx (by rfl) T.m_len (by decide +kernel) (pa_cons (pv 0) pa_nil)) pe_int (nomark _))))) (pss_one (ps_raise rfl (takes_of rfl rfl rfl rfl) (pmk_own PySem.F.excBase_ValueError T.X_NoText.ex T.X_NoText.g T.X_NoText.kp (raises_own T.X_NoText.c.hs T.X_NoText.ty) rfl))) pss_nil)
          (pss_cons (ps_for (passes_of rfl) rfl (pi_str (pv 0)) (pg_name (i := 1) sc_read_number_x.nd rfl (Or.inl rfl)) (pss_one (ps_if (pt_cmpR (opS op_notInT) (pv 1) (pe_glob rfl T.c_FIGURES (relT [48, 49, 50, 51, 52, 53, 54, 55, 56, 57] (by decide +kernel) T.r_FIGURES)) (by rfl)) (pss_one (ps_raise rfl (takes_of rfl rfl rfl rfl) (pmk_own PySem.F.excBase_ValueError T.X_NoText.ex T.X_NoText.g T.X_NoText.kp (raises_own T.X_NoText.c.hs T.X_NoText.ty) rfl))) pss_nil)))
          (pss_cons (ps_if (PW.pt (pw_and (pt_valS (pe_startsT (pv 0) (pe_txt [48] (by decide +kernel)))) (pw_and1 (pt_cmpR op_neT (pv 0) (pe_txt [48] (by decide +kernel)) (nomark _))))) (pss_one (ps_raise rfl (takes_of rfl rfl rfl rfl) (pmk_own PySem.F.excBase_ValueError T.X_NoText.ex T.X_NoText.g T.X_NoText.kp (raises_own T.X_NoText.c.hs T.X_NoText.ty) rfl))) pss_nil)
          (pss_one (ps_ret (pe_callTy call_intT (by rfl) T.m_int (by decide +kernel) (pa_cons (pv 0) pa_nil))))))), ?_⟩
    refine ⟨_, rfl, _, rfl, ?_, _, _, rfl, rfl, ?_, ?_⟩
    · walk_at "txl"
    · intro h1
      refine ⟨_, rfl, ?_⟩
      refine iteT ?_
      refine iteT ?_
      exact qe0 _ (by first | exact numOf_none1 (by omega) | exact numOf_none2 (all_not (by assumption) (fun z => by first | exact absurd (fig_mem.mpr z) (by assumption) | skip)) | exact numOf_none3 (by assumption) (by assumption)) fr.same
    · intro h1
      refine ⟨_, rfl, ?_⟩
      refine iteF ?_
      refine ⟨_, rfl, _, rfl, ?_, _, _, rfl, rfl, ?_, ?_⟩
      · walk_at "txl"
      · intro h2
        refine ⟨_, rfl, ?_⟩
        refine iteT ?_
        exact qe0 _ (by first | exact numOf_none1 (by omega) | exact numOf_none2 (all_not (by assumption) (fun z => by first | exact absurd (fig_mem.mpr z) (by assumption) | skip)) | exact numOf_none3 (by assumption) (by assumption)) fr.same
      · intro h2
        refine ⟨_, rfl, ?_⟩
        refine iteF ?_
        refine ⟨_, rfl, _, rfl, ?_⟩
        refine for_it (walkT' (l := word)) (fun (i : Nat) σ H1 => ∃ (y_3 : Option V), σ = [some (txV word), y_3] ∧ Fr H H1 [] ∧ ((word.take i).all isDg = true)) ?_ ?_ ?_ ?_
        · refine ⟨_, rfl, fr, ?_⟩
          · rfl
        · rintro i σ H1 hi ⟨y_3, rfl, fr, ha⟩
          exact trivial
        · rintro i_4 x_6 s_9 H_7 H_8 hi_5 ⟨y_3, rfl, fr, ha⟩ ⟨rfl, y_10, hy_11, rfl⟩
          refine ⟨_, rfl, _, _, rfl, rfl, _, rfl, ?_, ?_⟩
          · intro h12
            replace h12 := not_of_nd h12
            refine ⟨_, rfl, ?_⟩
            refine iteT ?_
            exact qe0 _ (by first | exact numOf_none1 (by omega) | exact numOf_none2 (all_not (by assumption) (fun z => by first | exact absurd (fig_mem.mpr z) (by assumption) | skip)) | exact numOf_none3 (by assumption) (by assumption)) fr.same
          · intro h12
            replace h12 := of_nd h12
            refine ⟨_, rfl, ?_⟩
            refine iteF ?_
            refine ⟨_, rfl, fr, ?_⟩
            · exact all_take ha hy_11 (fig_mem.mp (by assumption))
        rintro s_14 H_13 ⟨y_3, rfl, fr, ha⟩
        have hal := all_full ha
        refine ⟨_, rfl, ⟨_, rfl⟩, _, _, rfl, rfl, _, rfl, ?_, ?_⟩
        · intro h15
          replace h15 := of_decide_eq_true h15
          refine iteT ?_
          refine ⟨_, rfl, _, _, rfl, rfl, ?_, ?_⟩
          · intro h16
            refine ⟨_, rfl, ?_⟩
            refine iteT ?_
            exact qe0 _ (by first | exact numOf_none1 (by omega) | exact numOf_none2 (all_not (by assumption) (fun z => by first | exact absurd (fig_mem.mpr z) (by assumption) | skip)) | exact numOf_none3 (by assumption) (by assumption)) fr.same
          · intro h16
            refine ⟨_, rfl, ?_⟩
            refine iteF ?_
            refine ⟨_, rfl, _, ((dval word : Nat) : Int), rfl, ?_, ?_, ?_⟩
            · exact int_txt (by omega) (by omega) hal
            · omega
            exact q _ (((dval word : Nat) : Int)) (by rw [numOf_some (by omega) (by omega) hal (by first | (left; assumption) | (right; assumption))]; simp) (by omega) fr.same
        · intro h15
          replace h15 := of_decide_eq_false h15
          refine iteF ?_
          refine iteF ?_
          refine ⟨_, rfl, _, ((dval word : Nat) : Int), rfl, ?_, ?_, ?_⟩
          · exact int_txt (by omega) (by omega) hal
          · omega
          exact q _ (((dval word : Nat) : Int)) (by rw [numOf_some (by omega) (by omega) hal (by first | (left; assumption) | (right; assumption))]; simp) (by omega) fr.same
def sp_law_read (K : PySem.W.Frag) : Sp := fun vs H Q _ => ∃ (text : List Nat), vs = [txV text] ∧ (text.length ≤ 2000) ∧ (∀ (H1 : Hp) (res : Bool), (res = true) → Same H H1 → Q (V.bl res) H1)
theorem sc_law_read : FnScope ["_law_text", "_law_due", "_law_said", "_law_e"] ["_law_text"] (defScope s_law_read) := ⟨rfl, rfl, rfl, by decide +kernel, rfl, by decide +kernel, by decide +kernel⟩
theorem ok_law_read (T : Txt K mg) : FnOk P w K mg base CX0 2 T.f_law_read T.fd_law_read ["_law_text"] (sp_law_read K) := by
  refine T.F_law_read.ok sc_law_read (fun vs H Q E h => ?_) (fun cdv A outer s H vs Q E hr h => ?_)
  · obtain ⟨text, rfl, _⟩ := h; rfl
  · obtain ⟨text, rfl, pre0, q⟩ := h
    have fr := Fr.nil H
    refine ⟨_, (pss_cons (ps_set (i := 1) sc_law_read.nd rfl (Or.inl rfl) (pe_call (ok_law_number T) (hr.mono (by decide)) (by rfl) T.g_law_number T.F_law_number.kp T.b_law_number .nil pass0 (pa_cons (pv 0) pa_nil)))
          (pss_cons (ps_try_as (i := 3) (Wout := fun _ _ _ _ => False) rfl rfl sc_law_read.nd rfl rfl ⟨rfl, by decide, .inl T.X_NoText.g⟩ takes0 (fun W xpn xxe xtk _ => (pss_one (ps_set (i := 2) sc_law_read.nd rfl (Or.inl rfl) (pe_callS (ok_read_number_x T) (hr.mono (by decide)) (by rfl) T.g_read_number T.F_read_number.kp T.b_read_number (fun σ => passAt xtk σ) (pa_cons (pv 0) pa_nil))))) (fun xa xoe xcls xd xpn xhz xhf => (pss_one (ps_ret (pe_and (pe_splS (pe_cmpR op_isN (pv 1) pe_non (nomark _))) (pe_one (pe_not (pe_callE xhz xhf (ok_law_other_e T) (roomS (hr.mono (by decide))) (by rfl) T.g_law_other T.F_law_other.kp T.b_law_other (pa_cons (pv 3) pa_nil)))))))))
          (pss_one (ps_ret (pe_and (pe_splS (pe_cmpR op_notN (pv 1) pe_non (nomark _))) (pe_and (pe_splS (pe_callB (show CallR _ _ (rIsi K) from call_isi) (by rfl) T.m_isinstance (by decide +kernel) (pa_cons (pv 2) (pa_cons (pe_bltn (v := .ty "int") (by rfl) T.m_int (by decide +kernel) rfl) pa_nil)))) (pe_and (pe_splS (pe_not (pe_callB (show CallR _ _ (rIsi K) from call_isi) (by rfl) T.m_isinstance (by decide +kernel) (pa_cons (pv 2) (pa_cons (pe_bltn (v := .ty "bool") (by rfl) T.m_bool (by decide +kernel) rfl) pa_nil))))) (pe_one (pe_cmp (pc_eqI (pv 2) (pv 1))))))))))), ?_⟩
    refine ⟨_, rfl, text, rfl, ?_, ⟨fun H_1 hp_7 sm_3 => ?_, fun H_1 number_6 hp_7 sm_3 => ?_⟩⟩
    · omega
    · have fr : Fr H _ [] := fr.call sm_3
      have hdn := hp_7
      refine ⟨_, rfl, text, rfl, ?_, ?_, ?_⟩
      · omega
      · intro H_11 read_number_12 hp_14 hp_15 sm_13
        exfalso
        rw [hdn] at hp_14; cases hp_14
      · intro H_20 hr_19 sm_21
        have fr : Fr H _ [] := fr.call sm_21
        refine ⟨true, T.X_NoText.exm T.S_NoText_NoText, fun _ ax_22 _ => ?_, fun q => nomatch q⟩
        refine ⟨_, rfl, rfl, _, rfl, fun _ => ?_, (fun h => nomatch h)⟩
        refine ⟨_, rfl, ?_⟩
        refine iteT ?_
        refine ⟨_, rfl, rfl, _, rfl, rfl, rfl, fun H_23 law_other_24 hp_26 sm_25 => ?_⟩
        have fr : Fr H _ [] := fr.call sm_25
        subst hp_26
        refine ⟨_, rfl, ?_⟩
        exact q _ true (by first | rfl | exact decide_eq_true (num_same hds hrn hr1)) fr.same
    · have fr : Fr H _ [] := fr.call sm_3
      have hds := hp_7
      refine ⟨_, rfl, text, rfl, ?_, ?_, ?_⟩
      · omega
      · intro H_27 read_number_28 hp_30 hp_31 sm_29
        have fr : Fr H _ [] := fr.call sm_29
        have hrn := hp_30
        have hr1 := hp_31
        refine ⟨_, rfl, rfl, _, rfl, fun _ => ?_, (fun h => nomatch h)⟩
        refine ⟨_, rfl, ?_⟩
        refine iteT ?_
        refine ⟨_, rfl, _, _, _, _, _, rfl, (ClsV.ty _), (.base (.int _)), (kit_ty (r := true) (by decide +kernel)), _, rfl, fun _ => ?_, (fun h => nomatch h)⟩
        refine ⟨_, rfl, ?_⟩
        refine iteT ?_
        refine ⟨_, rfl, _, _, _, _, _, rfl, (ClsV.ty _), (.base (.int _)), (kit_ty (r := false) (by decide +kernel)), _, rfl, _, rfl, fun _ => ?_, (fun h => nomatch h)⟩
        refine ⟨_, rfl, ?_⟩
        refine iteT ?_
        refine ⟨_, rfl, _, rfl, _, _, rfl, rfl, ?_⟩
        exact q _ (decide (read_number_28 = number_6)) (by first | rfl | exact decide_eq_true (num_same hds hrn hr1)) fr.same
      · intro H_33 hr_32 sm_34
        exfalso
        rw [hds.1] at hr_32; cases hr_32
def sp_law_marked (K : PySem.W.Frag) : Sp := fun vs H Q _ => ∃ (text : List Nat), vs = [txV text] ∧ (text.length ≤ 2000) ∧ ((∀ (H1 : Hp), (marksOf text = none) → Same H H1 → Q V.non H1) ∧ (∀ (H1 : Hp) (rA : Addr) (res : List Bool), (res = marksD text ∧ marksOf text = some (marksD text)) → Same H H1 → H rA = none → H1 rA = some (.lst (List.map V.bl res)) → Q (V.ref rA) H1))
theorem sc_law_marked : FnScope ["_law_text", "_law_marks", "_law_sign"] ["_law_text"] (defScope s_law_marked) := ⟨rfl, rfl, rfl, by decide +kernel, rfl, by decide +kernel, by decide +kernel⟩
theorem ok_law_marked (T : Txt K mg) : FnOk P w K mg base CX0 1 T.f_law_marked T.fd_law_marked ["_law_text"] (sp_law_marked K) := by
  refine T.F_law_marked.ok sc_law_marked (fun vs H Q E h => ?_) (fun cdv A outer s H vs Q E hr h => ?_)
  · obtain ⟨text, rfl, _⟩ := h; rfl
  · obtain ⟨text, rfl, pre0, q⟩ := h
    have fr := Fr.nil H
    refine ⟨_, (pss_cons (ps_if (PW.pt (pw_or (pt_cmpR op_eqS (pe_callB call_lenTx (by rfl) T.m_len (by decide +kernel) (pa_cons (pv 0) pa_nil)) pe_int (nomark _)) (pw_or1 (pt_cmpR op_gtS (pe_callB call_lenTx (by rfl) T.m_len (by decide +kernel) (pa_cons (pv 0) pa_nil)) pe_int (nomark _))))) (pss_one (ps_ret pe_non)) pss_nil)
          (pss_cons (ps_set (i := 1) sc_law_marked.nd rfl (Or.inl rfl) (pe_lst pa_nil))
          (pss_cons (ps_for PassesOwn.never rfl (pi_str (pv 0)) (pg_name (i := 2) sc_law_marked.nd rfl (Or.inl rfl)) (pss_cons (ps_if (PW.pt (pw_and (pt_cmpR op_neT (pv 2) (pe_txt [112] (by decide +kernel)) (nomark _)) (pw_and1 (pt_cmpR op_neT (pv 2) (pe_txt [116] (by decide +kernel)) (nomark _))))) (pss_one (ps_ret pe_non)) pss_nil)
          (pss_one (ps_expr (pe_bmK (K := K) (pe_bm PySem.F.plainAttrs_list PySem.F.slot_list_append PySem.F.type_list_append mt_append (pv 1) (pa_cons (pe_cmpR op_eqT (pv 2) (pe_txt [116] (by decide +kernel)) (nomark _)) pa_nil)))))))
          (pss_one (ps_ret (pv 1)))))), ?_⟩
    refine ⟨_, rfl, _, rfl, ?_, _, _, rfl, rfl, ?_, ?_⟩
    · walk_at "txl"
    · intro h1
      refine ⟨_, rfl, ?_⟩
      refine iteT ?_
      refine iteT ?_
      exact q.1 _ (by first | exact marksOf_none1 (by omega) | exact marksOf_none2 (all_not (by assumption) (fun z => by rw [Bool.or_eq_true, decide_eq_true_eq, decide_eq_true_eq] at z; rcases z with z | z; exact absurd (one_eq.mpr z) (by assumption); exact absurd (one_eq.mpr z) (by assumption)))) fr.same
    · intro h1
      refine ⟨_, rfl, ?_⟩
      refine iteF ?_
      refine ⟨_, rfl, _, rfl, ?_, _, _, rfl, rfl, ?_, ?_⟩
      · walk_at "txl"
      · intro h2
        refine ⟨_, rfl, ?_⟩
        refine iteT ?_
        exact q.1 _ (by first | exact marksOf_none1 (by omega) | exact marksOf_none2 (all_not (by assumption) (fun z => by rw [Bool.or_eq_true, decide_eq_true_eq, decide_eq_true_eq] at z; rcases z with z | z; exact absurd (one_eq.mpr z) (by assumption); exact absurd (one_eq.mpr z) (by assumption)))) fr.same
      · intro h2
        refine ⟨_, rfl, ?_⟩
        refine iteF ?_
        refine ⟨(Evl.sz_of (show 0 ≤ 100000 by decide)), fun l_3 nl_4 => ?_⟩
        have fr : Fr H _ [(l_3, (.lst [] : HO))] := fr.new nl_4
        have fr : Fr H _ [(l_3, (.lst (List.map V.bl ([])) : HO))] := fr
        refine ⟨_, rfl, _, rfl, ?_⟩
        refine for_it (walkT' (l := text)) (fun (i : Nat) σ H1 => ∃ (marks_5 : List Bool) (y_6 : Option V), σ = [some (txV text), some (V.ref l_3), y_6] ∧ Fr H H1 [(l_3, (.lst (List.map V.bl marks_5) : HO))] ∧ ((text.take i).all (fun c => decide (c = 112) || decide (c = 116)) = true) ∧ (marks_5 = marksD (text.take i))) ?_ ?_ ?_ ?_
        · refine ⟨[], _, rfl, fr, ?_, ?_⟩
          · rfl
          · rfl
        · rintro i σ H1 hi ⟨marks_5, y_6, rfl, fr, ha, hn⟩
          exact trivial
        · rintro i_7 x_9 s_12 H_10 H_11 hi_8 ⟨marks_5, y_6, rfl, fr, ha, hn⟩ ⟨rfl, y_13, hy_14, rfl⟩
          refine ⟨_, rfl, _, _, rfl, rfl, ?_, ?_⟩
          · intro h15
            refine ⟨_, rfl, ?_⟩
            refine iteT ?_
            refine ⟨_, rfl, _, _, rfl, rfl, ?_, ?_⟩
            · intro h16
              refine ⟨_, rfl, ?_⟩
              refine iteT ?_
              exact q.1 _ (by first | exact marksOf_none1 (by omega) | exact marksOf_none2 (all_not (by assumption) (fun z => by rw [Bool.or_eq_true, decide_eq_true_eq, decide_eq_true_eq] at z; rcases z with z | z; exact absurd (one_eq.mpr z) (by assumption); exact absurd (one_eq.mpr z) (by assumption)))) fr.same
            · intro h16
              refine ⟨_, rfl, ?_⟩
              refine iteF ?_
              refine ⟨_, rfl, (.inl ⟨rfl, _, (SqL.of fr.at0)⟩), _, rfl, _, _, rfl, rfl, ?_, ?_⟩
              · intro h17
                refine ⟨_, _, _, rfl, rfl, fr.at0, ?_, ?_⟩
                · have hml := congrArg List.length hn; unfold marksD at hml; rw [List.length_map, List.length_take] at hml; refine Evl.sz_lt ?_; rw [List.length_map]; omega
                have fr : Fr H _ [(l_3, (.lst (List.map V.bl ((marks_5 ++ [true]))) : HO))] := Fr.wrk fr 0 rfl (lst_app V.bl _ _)
                refine ⟨(marks_5 ++ [true]), _, rfl, fr, ?_, ?_⟩
                · exact all_take ha hy_14 (by rw [Bool.or_eq_true, decide_eq_true_eq, decide_eq_true_eq]; first | (left; exact one_eq.mp (by assumption)) | (right; exact one_eq.mp (by assumption)))
                · exact marks_next hy_14 hn (by first | (rw [eq_comm]; exact decide_eq_true (one_eq.mp (by assumption))) | (rw [eq_comm]; exact decide_eq_false (fun z => absurd (one_eq.mpr z) (by assumption))))
              · intro h17
                refine ⟨_, _, _, rfl, rfl, fr.at0, ?_, ?_⟩
                · have hml := congrArg List.length hn; unfold marksD at hml; rw [List.length_map, List.length_take] at hml; refine Evl.sz_lt ?_; rw [List.length_map]; omega
                have fr : Fr H _ [(l_3, (.lst (List.map V.bl ((marks_5 ++ [false]))) : HO))] := Fr.wrk fr 0 rfl (lst_app V.bl _ _)
                refine ⟨(marks_5 ++ [false]), _, rfl, fr, ?_, ?_⟩
                · exact all_take ha hy_14 (by rw [Bool.or_eq_true, decide_eq_true_eq, decide_eq_true_eq]; first | (left; exact one_eq.mp (by assumption)) | (right; exact one_eq.mp (by assumption)))
                · exact marks_next hy_14 hn (by first | (rw [eq_comm]; exact decide_eq_true (one_eq.mp (by assumption))) | (rw [eq_comm]; exact decide_eq_false (fun z => absurd (one_eq.mpr z) (by assumption))))
          · intro h15
            refine ⟨_, rfl, ?_⟩
            refine iteF ?_
            refine iteF ?_
            refine ⟨_, rfl, (.inl ⟨rfl, _, (SqL.of fr.at0)⟩), _, rfl, _, _, rfl, rfl, ?_, ?_⟩
            · intro h18
              refine ⟨_, _, _, rfl, rfl, fr.at0, ?_, ?_⟩
              · have hml := congrArg List.length hn; unfold marksD at hml; rw [List.length_map, List.length_take] at hml; refine Evl.sz_lt ?_; rw [List.length_map]; omega
              have fr : Fr H _ [(l_3, (.lst (List.map V.bl ((marks_5 ++ [true]))) : HO))] := Fr.wrk fr 0 rfl (lst_app V.bl _ _)
              refine ⟨(marks_5 ++ [true]), _, rfl, fr, ?_, ?_⟩
              · exact all_take ha hy_14 (by rw [Bool.or_eq_true, decide_eq_true_eq, decide_eq_true_eq]; first | (left; exact one_eq.mp (by assumption)) | (right; exact one_eq.mp (by assumption)))
              · exact marks_next hy_14 hn (by first | (rw [eq_comm]; exact decide_eq_true (one_eq.mp (by assumption))) | (rw [eq_comm]; exact decide_eq_false (fun z => absurd (one_eq.mpr z) (by assumption))))
            · intro h18
              refine ⟨_, _, _, rfl, rfl, fr.at0, ?_, ?_⟩
              · have hml := congrArg List.length hn; unfold marksD at hml; rw [List.length_map, List.length_take] at hml; refine Evl.sz_lt ?_; rw [List.length_map]; omega
              have fr : Fr H _ [(l_3, (.lst (List.map V.bl ((marks_5 ++ [false]))) : HO))] := Fr.wrk fr 0 rfl (lst_app V.bl _ _)
              refine ⟨(marks_5 ++ [false]), _, rfl, fr, ?_, ?_⟩
              · exact all_take ha hy_14 (by rw [Bool.or_eq_true, decide_eq_true_eq, decide_eq_true_eq]; first | (left; exact one_eq.mp (by assumption)) | (right; exact one_eq.mp (by assumption)))
              · exact marks_next hy_14 hn (by first | (rw [eq_comm]; exact decide_eq_true (one_eq.mp (by assumption))) | (rw [eq_comm]; exact decide_eq_false (fun z => absurd (one_eq.mpr z) (by assumption))))
        rintro s_20 H_19 ⟨marks_5, y_6, rfl, fr, ha, hn⟩
        have hal := all_full ha
        rw [List.take_length] at hn
        refine ⟨_, rfl, ?_⟩
        exact q.2 _ _ marks_5 (by exact ⟨hn, marks_some (by omega) (by omega) hal⟩) fr.same fr.n0 fr.at0
def sp_read_marks (K : PySem.W.Frag) : Sp := fun vs H Q _ => ∃ (word : List Nat), vs = [txV word] ∧ (word.length ≤ 2000) ∧ (marksOf word = some (marksD word)) ∧ (∀ (H1 : Hp) (rA : Addr) (res : List Bool), (res = marksD word) → Same H H1 → H rA = none → H1 rA = some (.lst (List.map V.bl res)) → Q (V.ref rA) H1)
theorem sc_read_marks : FnScope ["word", "sign"] ["word"] (defScope s_read_marks) := ⟨rfl, rfl, rfl, by decide +kernel, rfl, by decide +kernel, by decide +kernel⟩
theorem ok_read_marks (T : Txt K mg) : FnOk P w K mg base CX0 1 T.f_read_marks T.fd_read_marks ["word"] (sp_read_marks K) := by
  refine T.F_read_marks.ok sc_read_marks (fun vs H Q E h => ?_) (fun cdv A outer s H vs Q E hr h => ?_)
  · obtain ⟨word, rfl, _⟩ := h; rfl
  · obtain ⟨word, rfl, pre0, pre1, q⟩ := h
    have fr := Fr.nil H
    have hwl := marks_wl pre1
    have hwa := marks_all pre1
    refine ⟨_, (pss_cons (ps_if (PW.pt (pw_or (pt_cmpR op_ltS (pe_callB call_lenTx (by rfl) T.m_len (by decide +kernel) (pa_cons (pv 0) pa_nil)) pe_int (nomark _)) (pw_or1 (pt_cmpR op_gtS (pe_callB call_lenTx (by rfl) T.m_len (by decide +kernel) (pa_cons (pv 0) pa_nil)) pe_int (nomark _))))) pss_never pss_nil)
          (pss_cons (ps_for PassesOwn.never rfl (pi_str (pv 0)) (pg_name (i := 1) sc_read_marks.nd rfl (Or.inl rfl)) (pss_one (ps_if (pt_cmpR (opS op_notInT) (pv 1) (pe_txt [112, 116] (by decide +kernel)) (by rfl)) pss_never pss_nil)))
          (pss_one (ps_ret (pe_lc (own := [("sign", 1)]) (g := gName 1) (tt := tYes) rfl sc_read_marks.nd (pi_str (pv 0)) (blkOk_by (N := ["word", "sign"]) (sc := (defScope s_read_marks)) (by decide +kernel)) (fun _ _ _ _ _ => pg_name (i := 1) sc_read_marks.nd rfl (Or.inl rfl)) (fun _ _ _ _ _ => pts_nil) (fun _ _ _ _ _ => (pe_cmpR op_eqT (pv 1) (pe_txt [116] (by decide +kernel)) (nomark _)))))))), ?_⟩
    refine ⟨_, rfl, _, rfl, ?_, _, _, rfl, rfl, ?_, ?_⟩
    · walk_at "txl"
    · intro h1
      exfalso
      omega
    · intro h1
      refine ⟨_, rfl, ?_⟩
      refine iteF ?_
      refine ⟨_, rfl, _, rfl, ?_, _, _, rfl, rfl, ?_, ?_⟩
      · walk_at "txl"
      · intro h2
        exfalso
        omega
      · intro h2
        refine ⟨_, rfl, ?_⟩
        refine iteF ?_
        refine ⟨_, rfl, _, rfl, ?_⟩
        refine for_it (walkT' (l := word)) (fun (i : Nat) σ H1 => ∃ (y_3 : Option V), σ = [some (txV word), y_3] ∧ Fr H H1 []) ?_ ?_ ?_ ?_
        · refine ⟨_, rfl, fr⟩
        · rintro i σ H1 hi ⟨y_3, rfl, fr⟩
          exact trivial
        · rintro i_4 x_6 s_9 H_7 H_8 hi_5 ⟨y_3, rfl, fr⟩ ⟨rfl, y_10, hy_11, rfl⟩
          refine ⟨_, rfl, _, _, rfl, rfl, _, rfl, ?_, ?_⟩
          · intro h12
            replace h12 := not_of_nd h12
            exfalso
            exact h12 (pt_mem.mpr (List.all_eq_true.mp hwa _ (List.mem_of_getElem? (by assumption))))
          · intro h12
            replace h12 := of_nd h12
            refine ⟨_, rfl, ?_⟩
            refine iteF ?_
            refine ⟨_, rfl, fr⟩
        rintro s_14 H_13 ⟨y_3, rfl, fr⟩
        refine ⟨_, rfl, _, rfl, ?_⟩
        intro D_15 nD_16
        refine lc_it (walkT' (l := word)) (fun (i : Nat) H1 => Fr H H1 [(D_15, (.lst (List.map V.bl ((List.map (fun y : Nat => decide (y = 116)) (List.take i word)))) : HO))]) (fr.new nD_16) (fun i H1 hi fr => trivial) ?_ ?_
        · rintro i_18 x_22 H_20 H_21 hi_19 fr ⟨rfl, y_23, hy_24, rfl⟩
          refine ⟨rfl, ?_⟩
          refine ⟨_, rfl, _, _, rfl, rfl, ?_, ?_⟩
          · intro h25
            refine ⟨_, (Fr.atk fr 0 rfl), ?_, ?_⟩
            · walk_at "csize"
            exact (Fr.wr fr).cast (lc_lx hy_24 (by first | exact congrArg V.bl (decide_eq_true (one_eq.mp (by assumption))).symm | exact congrArg V.bl (decide_eq_false (fun z => absurd (one_eq.mpr z) (by assumption))).symm))
          · intro h25
            refine ⟨_, (Fr.atk fr 0 rfl), ?_, ?_⟩
            · walk_at "csize"
            exact (Fr.wr fr).cast (lc_lx hy_24 (by first | exact congrArg V.bl (decide_eq_true (one_eq.mp (by assumption))).symm | exact congrArg V.bl (decide_eq_false (fun z => absurd (one_eq.mpr z) (by assumption))).symm))
        intro H_26 fr
        have fr : Fr H _ [(D_15, (.lst (List.map V.bl ((List.map (fun y : Nat => decide (y = 116)) word))) : HO))] := fr.cast (by rw [List.take_length])
        exact q _ _ ((List.map (fun y : Nat => decide (y = 116)) word)) (by rfl) fr.same fr.n0 fr.at0
def sp_read_marks_x {K : PySem.W.Frag} {mg : Str → Option Value} (T : Txt K mg) : Sp := fun vs H Q E => ∃ (word : List Nat), vs = [txV word] ∧ (word.length ≤ 2000) ∧ (∀ (H1 : Hp) (rA : Addr) (res : List Bool), (res = marksD word) → (marksOf word = some (marksD word)) → Same H H1 → H rA = none → H1 rA = some (.lst (List.map V.bl res)) → Q (V.ref rA) H1) ∧ (∀ (H1 : Hp), (marksOf word = none) → Same H H1 → E (.ref T.C_NoText) none H1)
theorem sc_read_marks_x : FnScope ["word", "sign"] ["word"] (defScope s_read_marks) := ⟨rfl, rfl, rfl, by decide +kernel, rfl, by decide +kernel, by decide +kernel⟩
theorem ok_read_marks_x (T : Txt K mg) : FnOk P w K mg base (L2.CX P w) 1 T.f_read_marks T.fd_read_marks ["word"] (sp_read_marks_x T) := by
  refine T.F_read_marks.okX sc_read_marks_x (fun vs H Q E h => ?_) (fun cdv A outer s H vs Q E hr h => ?_)
  · obtain ⟨word, rfl, _⟩ := h; rfl
  · obtain ⟨word, rfl, pre0, q, qe0⟩ := h
    have fr := Fr.nil H
    refine ⟨_, (pss_cons (ps_if (PW.pt (pw_or (pt_cmpR op_ltS (pe_callB call_lenTx (by rfl) T.m_len (by decide +kernel) (pa_cons (pv 0) pa_nil)) pe_int (nomark _)) (pw_or1 (pt_cmpR op_gtS (pe_callB call_lenTx (by rfl) T.m_len (by decide +kernel) (pa_cons (pv 0) pa_nil)) pe_int (nomark _))))) (pss_one (ps_raise rfl (takes_of rfl rfl rfl rfl) (pmk_own PySem.F.excBase_ValueError T.X_NoText.ex T.X_NoText.g T.X_NoText.kp (raises_own T.X_NoText.c.hs T.X_NoText.ty) rfl))) pss_nil)
          (pss_cons (ps_for (passes_of rfl) rfl (pi_str (pv 0)) (pg_name (i := 1) sc_read_marks_x.nd rfl (Or.inl rfl)) (pss_one (ps_if (pt_cmpR (opS op_notInT) (pv 1) (pe_txt [112, 116] (by decide +kernel)) (by rfl)) (pss_one (ps_raise rfl (takes_of rfl rfl rfl rfl) (pmk_own PySem.F.excBase_ValueError T.X_NoText.ex T.X_NoText.g T.X_NoText.kp (raises_own T.X_NoText.c.hs T.X_NoText.ty) rfl))) pss_nil)))
          (pss_one (ps_ret (pe_lc (own := [("sign", 1)]) (g := gName 1) (tt := tYes) rfl sc_read_marks_x.nd (pi_str (pv 0)) (blkOk_by (N := ["word", "sign"]) (sc := (defScope s_read_marks)) (by decide +kernel)) (fun _ _ _ _ _ => pg_name (i := 1) sc_read_marks_x.nd rfl (Or.inl rfl)) (fun _ _ _ _ _ => pts_nil) (fun _ _ _ _ _ => (pe_cmpR op_eqT (pv 1) (pe_txt [116] (by decide +kernel)) (nomark _)))))))), ?_⟩
    refine ⟨_, rfl, _, rfl, ?_, _, _, rfl, rfl, ?_, ?_⟩
    · walk_at "txl"
    · intro h1
      refine ⟨_, rfl, ?_⟩
      refine iteT ?_
      refine iteT ?_
      exact qe0 _ (by first | exact marksOf_none1 (by omega) | exact marksOf_none2 (all_not (by assumption) (fun z => absurd (pt_mem.mpr z) (by assumption)))) fr.same
    · intro h1
      refine ⟨_, rfl, ?_⟩
      refine iteF ?_
      refine ⟨_, rfl, _, rfl, ?_, _, _, rfl, rfl, ?_, ?_⟩
      · walk_at "txl"
      · intro h2
        refine ⟨_, rfl, ?_⟩
        refine iteT ?_
        exact qe0 _ (by first | exact marksOf_none1 (by omega) | exact marksOf_none2 (all_not (by assumption) (fun z => absurd (pt_mem.mpr z) (by assumption)))) fr.same
      · intro h2
        refine ⟨_, rfl, ?_⟩
        refine iteF ?_
        refine ⟨_, rfl, _, rfl, ?_⟩
        refine for_it (walkT' (l := word)) (fun (i : Nat) σ H1 => ∃ (y_3 : Option V), σ = [some (txV word), y_3] ∧ Fr H H1 [] ∧ ((word.take i).all (fun c => decide (c = 112) || decide (c = 116)) = true)) ?_ ?_ ?_ ?_
        · refine ⟨_, rfl, fr, ?_⟩
          · rfl
        · rintro i σ H1 hi ⟨y_3, rfl, fr, ha⟩
          exact trivial
        · rintro i_4 x_6 s_9 H_7 H_8 hi_5 ⟨y_3, rfl, fr, ha⟩ ⟨rfl, y_10, hy_11, rfl⟩
          refine ⟨_, rfl, _, _, rfl, rfl, _, rfl, ?_, ?_⟩
          · intro h12
            replace h12 := not_of_nd h12
            refine ⟨_, rfl, ?_⟩
            refine iteT ?_
            exact qe0 _ (by first | exact marksOf_none1 (by omega) | exact marksOf_none2 (all_not (by assumption) (fun z => absurd (pt_mem.mpr z) (by assumption)))) fr.same
          · intro h12
            replace h12 := of_nd h12
            refine ⟨_, rfl, ?_⟩
            refine iteF ?_
            refine ⟨_, rfl, fr, ?_⟩
            · exact all_take ha hy_11 (pt_mem.mp (by assumption))
        rintro s_14 H_13 ⟨y_3, rfl, fr, ha⟩
        have hal := all_full ha
        refine ⟨_, rfl, _, rfl, ?_⟩
        intro D_15 nD_16
        refine lc_it (walkT' (l := word)) (fun (i : Nat) H1 => Fr H H1 [(D_15, (.lst (List.map V.bl ((List.map (fun y : Nat => decide (y = 116)) (List.take i word)))) : HO))]) (fr.new nD_16) (fun i H1 hi fr => trivial) ?_ ?_
        · rintro i_18 x_22 H_20 H_21 hi_19 fr ⟨rfl, y_23, hy_24, rfl⟩
          refine ⟨rfl, ?_⟩
          refine ⟨_, rfl, _, _, rfl, rfl, ?_, ?_⟩
          · intro h25
            refine ⟨_, (Fr.atk fr 0 rfl), ?_, ?_⟩
            · walk_at "csize"
            exact (Fr.wr fr).cast (lc_lx hy_24 (by first | exact congrArg V.bl (decide_eq_true (one_eq.mp (by assumption))).symm | exact congrArg V.bl (decide_eq_false (fun z => absurd (one_eq.mpr z) (by assumption))).symm))
          · intro h25
            refine ⟨_, (Fr.atk fr 0 rfl), ?_, ?_⟩
            · walk_at "csize"
            exact (Fr.wr fr).cast (lc_lx hy_24 (by first | exact congrArg V.bl (decide_eq_true (one_eq.mp (by assumption))).symm | exact congrArg V.bl (decide_eq_false (fun z => absurd (one_eq.mpr z) (by assumption))).symm))
        intro H_26 fr
        have fr : Fr H _ [(D_15, (.lst (List.map V.bl ((List.map (fun y : Nat => decide (y = 116)) word))) : HO))] := fr.cast (by rw [List.take_length])
        exact q _ _ ((List.map (fun y : Nat => decide (y = 116)) word)) (by rfl) (by exact marks_some (by omega) (by omega) hal) fr.same fr.n0 fr.at0
def sp_show_mark (K : PySem.W.Frag) : Sp := fun vs H Q _ => ∃ (mark : Bool), vs = [V.bl mark] ∧ (∀ (H1 : Hp) (res : List Nat), (res = [markT mark]) → Same H H1 → Q (txV res) H1)
theorem sc_show_mark : FnScope ["mark"] ["mark"] (defScope s_show_mark) := ⟨rfl, rfl, rfl, by decide +kernel, rfl, by decide +kernel, by decide +kernel⟩
theorem ok_show_mark (T : Txt K mg) : FnOk P w K mg base CX0 1 T.f_show_mark T.fd_show_mark ["mark"] (sp_show_mark K) := by
  refine T.F_show_mark.ok sc_show_mark (fun vs H Q E h => ?_) (fun cdv A outer s H vs Q E hr h => ?_)
  · obtain ⟨mark, rfl, _⟩ := h; rfl
  · obtain ⟨mark, rfl, q⟩ := h
    have fr := Fr.nil H
    refine ⟨_, (pss_cons (ps_if (pt_valS (pv 0)) (pss_one (ps_ret (pe_txt [116] (by decide +kernel)))) pss_nil)
          (pss_one (ps_ret (pe_txt [112] (by decide +kernel))))), ?_⟩
    refine ⟨_, rfl, _, rfl, ?_, ?_⟩
    · intro h1
      refine iteT ?_
      exact q _ ([116]) (by simp_all [markT]) fr.same
    · intro h1
      refine iteF ?_
      exact q _ ([112]) (by simp_all [markT]) fr.same
def sp_show_marks (K : PySem.W.Frag) : Sp := fun vs H Q _ => ∃ (a_marks : Addr) (marks : List Bool), vs = [V.ref a_marks] ∧ H a_marks = some (.lst (List.map V.bl marks)) ∧ (marks.length ≤ 1000) ∧ (∀ (H1 : Hp) (res : List Nat), (res = marks.map markT) → Same H H1 → Q (txV res) H1)
theorem sc_show_marks : FnScope ["marks", "mark"] ["marks"] (defScope s_show_marks) := ⟨rfl, rfl, rfl, by decide +kernel, rfl, by decide +kernel, by decide +kernel⟩
theorem ok_show_marks (T : Txt K mg) : FnOk P w K mg base CX0 2 T.f_show_marks T.fd_show_marks ["marks"] (sp_show_marks K) := by
  refine T.F_show_marks.ok sc_show_marks (fun vs H Q E h => ?_) (fun cdv A outer s H vs Q E hr h => ?_)
  · obtain ⟨a_marks, marks, rfl, _⟩ := h; rfl
  · obtain ⟨a_marks, marks, rfl, h_marks, pre0, q⟩ := h
    have fr := Fr.nil H
    refine ⟨_, (pss_one (ps_ret (pe_joinT (pe_txt [] (by decide +kernel)) (pe_lc (own := [("mark", 1)]) (g := gName 1) (tt := tYes) rfl sc_show_marks.nd (pi_list (pv 0)) (blkOk_by (N := ["marks", "mark"]) (sc := (defScope s_show_marks)) (by decide +kernel)) (fun _ _ _ _ _ => pg_name (i := 1) sc_show_marks.nd rfl (Or.inl rfl)) (fun _ _ _ _ _ => pts_nil) (fun _ _ _ _ _ => (pe_call (ok_show_mark T) (hr.mono (by decide)) (by rfl) T.g_show_mark T.F_show_mark.kp T.b_show_mark .nil pass0 (pa_cons (pv 1) pa_nil))))))), ?_⟩
    refine ⟨⟨_, rfl⟩, _, rfl, _, rfl, ⟨_, (SqL.of (fr.same _ _ h_marks))⟩, ?_⟩
    intro D_1 nD_2
    refine lc_it (walkL V.bl marks) (fun (i : Nat) H1 => Fr H H1 [(D_1, (.lst (List.map txV ((List.map (fun y : Bool => (([markT y]))) (List.take i marks)))) : HO))]) (fr.new nD_2) (fun i H1 hi fr => (fr.same _ _ h_marks)) ?_ ?_
    · rintro i_8 x_12 H_10 H_11 hi_9 fr ⟨rfl, y_13, hy_14, rfl⟩
      refine ⟨rfl, ?_⟩
      refine ⟨_, rfl, y_13, rfl, fun H_15 show_mark_16 hp_18 sm_17 => ?_⟩
      have fr : Fr H _ [(D_1, (.lst (List.map txV ((List.map (fun y : Bool => (([markT y]))) (List.take i_8 marks)))) : HO))] := fr.call sm_17
      subst hp_18
      refine ⟨_, (Fr.atk fr 0 rfl), ?_, ?_⟩
      · walk_at "csize"
      exact (Fr.wr fr).cast (lc_l hy_14)
    intro H_19 fr
    have fr : Fr H _ [(D_1, (.lst (List.map txV ((List.map (fun y : Bool => (([markT y]))) marks))) : HO))] := fr.cast (by rw [List.take_length])
    refine ⟨_, _, _, rfl, rfl, fr.at0, ?_, ?_⟩
    · rw [sum_ones]; simp; omega
    exact q _ ((TL.joinL ([]) ((List.map (fun y : Bool => (([markT y]))) marks)))) (by exact joinL_one _ _) fr.same
def sp_law_read_marks (K : PySem.W.Frag) : Sp := fun vs H Q _ => ∃ (text : List Nat), vs = [txV text] ∧ (text.length ≤ 2000) ∧ (∀ (H1 : Hp) (res : Bool), (res = true) → Same H H1 → Q (V.bl res) H1)
theorem sc_law_read_marks : FnScope ["_law_text", "_law_due", "_law_said", "_law_e", "_law_k"] ["_law_text"] (defScope s_law_read_marks) := ⟨rfl, rfl, rfl, by decide +kernel, rfl, by decide +kernel, by decide +kernel⟩
theorem ok_law_read_marks (T : Txt K mg) : FnOk P w K mg base CX0 3 T.f_law_read_marks T.fd_law_read_marks ["_law_text"] (sp_law_read_marks K) := by
  refine T.F_law_read_marks.ok sc_law_read_marks (fun vs H Q E h => ?_) (fun cdv A outer s H vs Q E hr h => ?_)
  · obtain ⟨text, rfl, _⟩ := h; rfl
  · obtain ⟨text, rfl, pre0, q⟩ := h
    have fr := Fr.nil H
    refine ⟨_, (pss_cons (ps_set (i := 1) sc_law_read_marks.nd rfl (Or.inl rfl) (pe_call (ok_law_marked T) (hr.mono (by decide)) (by rfl) T.g_law_marked T.F_law_marked.kp T.b_law_marked .nil pass0 (pa_cons (pv 0) pa_nil)))
          (pss_cons (ps_try_as (i := 3) (Wout := fun _ _ _ _ => False) rfl rfl sc_law_read_marks.nd rfl rfl ⟨rfl, by decide, .inl T.X_NoText.g⟩ takes0 (fun W xpn xxe xtk _ => (pss_one (ps_set (i := 2) sc_law_read_marks.nd rfl (Or.inl rfl) (pe_callS (ok_read_marks_x T) (hr.mono (by decide)) (by rfl) T.g_read_marks T.F_read_marks.kp T.b_read_marks (fun σ => passAt xtk σ) (pa_cons (pv 0) pa_nil))))) (fun xa xoe xcls xd xpn xhz xhf => (pss_one (ps_ret (pe_and (pe_splS (pe_cmpR op_isN (pv 1) pe_non (nomark _))) (pe_one (pe_not (pe_callE xhz xhf (ok_law_other_e T) (roomS (hr.mono (by decide))) (by rfl) T.g_law_other T.F_law_other.kp T.b_law_other (pa_cons (pv 3) pa_nil)))))))))
          (pss_cons (ps_if (PW.pt (pw_or (pt_cmpR (opS op_isN) (pv 1) pe_non (nomark _)) (pw_or (pt_not (pt_valS (pe_callB (show CallR _ _ (rIsi K) from call_isi) (by rfl) T.m_isinstance (by decide +kernel) (pa_cons (pv 2) (pa_cons (pe_bltn (v := .ty "list") (by rfl) T.m_list (by decide +kernel) rfl) pa_nil))))) (pw_or1 (pt_cmpR op_neS (pe_callB (show CallR _ _ (rLenL K) from call_lenL) (by rfl) T.m_len (by decide +kernel) (pa_cons (pv 2) pa_nil)) (pe_callB (show CallR _ _ (rLenL K) from call_lenL) (by rfl) T.m_len (by decide +kernel) (pa_cons (pv 1) pa_nil)) (nomark _)))))) (pss_one (ps_ret pe_bl)) pss_nil)
          (pss_cons (ps_for PassesOwn.never rfl (pi_range1 (by rfl) T.m_range (pa_cons (pe_callB (show CallR _ _ (rLenL K) from call_lenL) (by rfl) T.m_len (by decide +kernel) (pa_cons (pv 1) pa_nil)) pa_nil)) (pg_name (i := 4) sc_law_read_marks.nd rfl (Or.inl rfl)) (pss_one (ps_if (PW.pt (pw_or (pt_not (pt_valS (pe_callB (show CallR _ _ (rIsi K) from call_isi) (by rfl) T.m_isinstance (by decide +kernel) (pa_cons (pe_ix (show IxR _ (rIxL K) from ix_list) (pv 2) (pv 4) (fun _ _ => rfl)) (pa_cons (pe_bltn (v := .ty "bool") (by rfl) T.m_bool (by decide +kernel) rfl) pa_nil))))) (pw_or1 (pt_cmpR (opS op_neB) (pe_ix (show IxR _ (rIxL K) from ix_list) (pv 2) (pv 4) (fun _ _ => rfl)) (pe_ix (show IxR _ (rIxL K) from ix_list) (pv 1) (pv 4) (fun _ _ => rfl)) (nomark _))))) (pss_one (ps_ret pe_bl)) pss_nil)))
          (pss_cons (ps_if (pt_cmpR op_neT (pe_call (ok_show_marks T) (hr.mono (by decide)) (by rfl) T.g_show_marks T.F_show_marks.kp T.b_show_marks .nil pass0 (pa_cons (pv 2) pa_nil)) (pv 0) (nomark _)) (pss_one (ps_ret pe_bl)) pss_nil)
          (pss_cons (ps_expr (pe_bmK (K := K) (pe_bm PySem.F.plainAttrs_list PySem.F.slot_list_append PySem.F.type_list_append mt_append (pv 2) (pa_cons pe_bl pa_nil))))
          (pss_one (ps_ret (pe_cmpR (show OpR _ _ (rEqX K) from op_eqX (hu64 hr)) (pe_call (ok_read_marks T) (hr.mono (by decide)) (by rfl) T.g_read_marks T.F_read_marks.kp T.b_read_marks .nil pass0 (pa_cons (pv 0) pa_nil)) (pv 1) (nomark _)))))))))), ?_⟩
    refine ⟨_, rfl, text, rfl, ?_, ⟨fun H_1 hp_7 sm_3 => ?_, fun H_1 p_8 marked_6 hp_7 sm_3 np_9 ep_10 => ?_⟩⟩
    · omega
    · have fr : Fr H _ [] := fr.call sm_3
      have hdn := hp_7
      refine ⟨_, rfl, text, rfl, ?_, ?_, ?_⟩
      · first | omega | exact hds
      · intro H_11 p_16 read_marks_12 hp_14 hp_15 sm_13 np_17 ep_18
        exfalso
        rw [hdn] at hp_15; cases hp_15
      · intro H_20 hr_19 sm_21
        have fr : Fr H _ [] := fr.call sm_21
        refine ⟨true, T.X_NoText.exm T.S_NoText_NoText, fun _ ax_22 _ => ?_, fun q => nomatch q⟩
        refine ⟨_, rfl, rfl, _, rfl, fun _ => ?_, (fun h => nomatch h)⟩
        refine ⟨_, rfl, ?_⟩
        refine iteT ?_
        refine ⟨_, rfl, rfl, _, rfl, rfl, rfl, fun H_23 law_other_24 hp_26 sm_25 => ?_⟩
        have fr : Fr H _ [] := fr.call sm_25
        subst hp_26
        refine ⟨_, rfl, ?_⟩
        exact q _ true (by first | rfl | exact decide_eq_true rfl) fr.same
    · have fr : Fr H _ [(p_8, (.lst (List.map V.bl marked_6) : HO))] := fr.cnew sm_3 np_9 ep_10
      obtain ⟨eR_27, hp_7⟩ := hp_7
      subst eR_27
      have hds := hp_7
      have hml := marksD_len hds
      refine ⟨_, rfl, text, rfl, ?_, ?_, ?_⟩
      · first | omega | exact hds
      · intro H_28 p_33 read_marks_29 hp_31 hp_32 sm_30 np_34 ep_35
        have fr : Fr H _ [(p_33, (.lst (List.map V.bl read_marks_29) : HO)), (p_8, (.lst (List.map V.bl (((marksD text)))) : HO))] := fr.cnew sm_30 np_34 ep_35
        subst hp_31
        refine ⟨_, rfl, rfl, _, rfl, (fun h => nomatch h), fun _ => ?_⟩
        refine ⟨_, rfl, ?_⟩
        refine iteF ?_
        refine ⟨_, rfl, _, _, _, _, _, rfl, (ClsV.ty _), (.base (.lst fr.at0)), (kit_ty (r := true) (by decide +kernel)), _, rfl, fun _ => ?_, (fun h => nomatch h)⟩
        refine iteF ?_
        refine ⟨_, rfl, _, _, _, rfl, (SqL.of fr.at0), (List.length_map _), _, rfl, _, _, _, rfl, (SqL.of fr.at1), (List.length_map _), _, _, rfl, rfl, ?_, ?_⟩
        · intro h36
          exfalso
          exact h36 rfl
        · intro h36
          refine ⟨_, rfl, ?_⟩
          refine iteF ?_
          refine ⟨_, rfl, _, _, _, rfl, (SqL.of fr.at1), (List.length_map _), _, rfl, ?_, ?_, ?_⟩
          · walk_at "side"
          · walk_at "side"
          refine for_it (walkR (n := (((marksD text))).length)) (fun (i : Nat) σ H1 => ∃ (y_37 : Option V), σ = [some (txV text), some (V.ref p_8), some (V.ref p_33), none, y_37] ∧ Fr H H1 [(p_33, (.lst (List.map V.bl (((marksD text)))) : HO)), (p_8, (.lst (List.map V.bl (((marksD text)))) : HO))]) ?_ ?_ ?_ ?_
          · refine ⟨_, rfl, fr⟩
          · rintro i σ H1 hi ⟨y_37, rfl, fr⟩
            exact trivial
          · rintro i_38 x_40 s_43 H_41 H_42 hi_39 ⟨y_37, rfl, fr⟩ ⟨rfl, rfl⟩
            refine ⟨_, rfl, _, rfl, _, _, _, _, rfl, rfl, (SqL.of fr.at0), (atD false ?_ ?_), _, _, _, _, _, rfl, (ClsV.ty _), (.base (.bl _)), (kit_ty (r := true) (by decide +kernel)), _, rfl, fun _ => ?_, (fun h => nomatch h)⟩
            · walk_at "side"
            · walk_at "side"
            refine iteF ?_
            refine ⟨_, rfl, _, rfl, _, _, _, _, rfl, rfl, (SqL.of fr.at0), (atD false ?_ ?_), _, rfl, _, rfl, _, _, _, _, rfl, rfl, (SqL.of fr.at1), (atD false ?_ ?_), _, _, rfl, rfl, ?_⟩
            · walk_at "side"
            · walk_at "side"
            · walk_at "side"
            · walk_at "side"
            rw [show ((List.getD (((marksD text))) (Int.toNat ((i_38 : Int))) false) != (List.getD (((marksD text))) (Int.toNat ((i_38 : Int))) false)) = false from by simp]
            refine ⟨_, rfl, (fun h => nomatch h), fun _ => ?_⟩
            refine ⟨_, rfl, ?_⟩
            refine iteF ?_
            refine ⟨_, rfl, fr⟩
          rintro s_45 H_44 ⟨y_37, rfl, fr⟩
          refine ⟨_, rfl, p_33, (((marksD text))), rfl, fr.at0, ?_, fun H_46 show_marks_47 hp_49 sm_48 => ?_⟩
          · omega
          have fr : Fr H _ [(p_33, (.lst (List.map V.bl (((marksD text)))) : HO)), (p_8, (.lst (List.map V.bl (((marksD text)))) : HO))] := fr.call sm_48
          subst hp_49
          refine ⟨_, rfl, _, _, rfl, rfl, ?_, ?_⟩
          · intro h50
            exfalso
            exact h50 (marks_back hds)
          · intro h50
            refine ⟨_, rfl, ?_⟩
            refine iteF ?_
            refine ⟨_, rfl, (.inl ⟨rfl, _, (SqL.of fr.at0)⟩), _, _, _, rfl, rfl, fr.at0, ?_, ?_⟩
            · walk_at "size"
            have fr : Fr H _ [(p_33, (.lst (List.map V.bl ((((marksD text)) ++ [true]))) : HO)), (p_8, (.lst (List.map V.bl (((marksD text)))) : HO))] := Fr.wrk fr 0 rfl (lst_app V.bl _ _)
            refine ⟨_, rfl, text, rfl, ?_, ?_, fun H_51 p_55 read_marks_52 hp_54 sm_53 np_56 ep_57 => ?_⟩
            · first | omega | exact hds
            · first | omega | exact hds
            have fr : Fr H _ [(p_55, (.lst (List.map V.bl read_marks_52) : HO)), (p_33, (.lst (List.map V.bl ((((marksD text)) ++ [true]))) : HO)), (p_8, (.lst (List.map V.bl (((marksD text)))) : HO))] := fr.cnew sm_53 np_56 ep_57
            subst hp_54
            refine ⟨_, rfl, _, _, true, (dp_bls fr.at0), (dp_bls fr.at2), (Okd.sh (okd_bls _)), (Okd.sh (okd_bls _)), (PySem.SeqAt.eqv_refl _ (Okd.cn (okd_bls _))), ?_⟩
            exact q _ true (by first | rfl | exact decide_eq_true rfl) fr.same
      · intro H_59 hr_58 sm_60
        exfalso
        rw [hds] at hr_58; cases hr_58
def sp_law_drawn (K : PySem.W.Frag) : Sp := fun vs H Q _ => ∃ (cell : Int), vs = [V.int cell] ∧ (∀ (H1 : Hp) (res : List Nat), (res.length ≤ 15) → Same H H1 → Q (txV res) H1)
theorem sc_law_drawn : FnScope ["_law_cell", "_law_text", "_law_rest", "_law_k"] ["_law_cell"] (defScope s_law_drawn) := ⟨rfl, rfl, rfl, by decide +kernel, rfl, by decide +kernel, by decide +kernel⟩
theorem ok_law_drawn (T : Txt K mg) : FnOk P w K mg base CX0 1 T.f_law_drawn T.fd_law_drawn ["_law_cell"] (sp_law_drawn K) := by
  refine T.F_law_drawn.ok sc_law_drawn (fun vs H Q E h => ?_) (fun cdv A outer s H vs Q E hr h => ?_)
  · obtain ⟨cell, rfl, _⟩ := h; rfl
  · obtain ⟨cell, rfl, q⟩ := h
    have fr := Fr.nil H
    refine ⟨_, (pss_cons (ps_set (i := 1) sc_law_drawn.nd rfl (Or.inl rfl) (pe_txt [] (by decide +kernel)))
          (pss_cons (ps_set (i := 2) sc_law_drawn.nd rfl (Or.inl rfl) (pe_op op_fdiv (pv 0) pe_int))
          (pss_cons (ps_for PassesOwn.never rfl (pi_range1 (by rfl) T.m_range (pa_cons (pe_op op_mod (pv 0) pe_int) pa_nil)) (pg_name (i := 3) sc_law_drawn.nd rfl (Or.inl rfl)) (pss_cons (ps_set (i := 1) sc_law_drawn.nd rfl (Or.inl rfl) (pe_op op_addT (pv 1) (pe_ix ix_T (pe_txt [48, 49, 50, 51, 52, 53, 54, 55, 56, 57, 45, 32, 112, 116, 80, 43, 95] (by decide +kernel)) (pe_op op_mod (pv 2) pe_int) (fun _ _ => rfl))))
          (pss_one (ps_set (i := 2) sc_law_drawn.nd rfl (Or.inl rfl) (pe_op op_fdiv (pv 2) pe_int)))))
          (pss_one (ps_ret (pv 1)))))), ?_⟩
    refine ⟨_, rfl, _, _, rfl, rfl, ⟨by decide, by decide⟩, ?_⟩
    refine ⟨_, rfl, _, _, rfl, rfl, (show (0 : Int) < _ by decide), _, rfl, ?_, ?_, ?_⟩
    · walk_at "side"
    · walk_at "side"
    refine for_it (walkR (n := (Int.toNat ((cell % 16))))) (fun (i : Nat) σ H1 => ∃ (text_1 : List Nat) (rest_2 : Int) (y_3 : Option V), σ = [some (V.int cell), some (txV text_1), some (V.int rest_2), y_3] ∧ Fr H H1 [] ∧ (text_1.length = i)) ?_ ?_ ?_ ?_
    · refine ⟨[], (cell / 16), _, rfl, fr, ?_⟩
      · walk_at "inv"
    · rintro i σ H1 hi ⟨text_1, rest_2, y_3, rfl, fr, hl⟩
      exact trivial
    · rintro i_4 x_6 s_9 H_7 H_8 hi_5 ⟨text_1, rest_2, y_3, rfl, fr, hl⟩ ⟨rfl, rfl⟩
      refine ⟨_, rfl, _, rfl, _, _, rfl, rfl, (show (0 : Int) < _ by decide), _, _, rfl, rfl, ?_, ?_, ?_, _, _, rfl, rfl, ?_, ?_⟩
      · walk_at "txl"
      · first | omega | (simp only [List.length_cons, List.length_nil]; omega)
      · first | omega | (simp only [List.length_cons, List.length_nil]; omega)
      · walk_at "txl"
      refine ⟨_, rfl, _, _, rfl, rfl, ⟨by decide, by decide⟩, ?_⟩
      refine ⟨(text_1 ++ [List.getD ([48, 49, 50, 51, 52, 53, 54, 55, 56, 57, 45, 32, 112, 116, 80, 43, 95]) (Int.toNat ((rest_2 % 17))) 0]), (rest_2 / 17), _, rfl, fr, ?_⟩
      · rw [List.length_append, hl]; rfl
    rintro s_11 H_10 ⟨text_1, rest_2, y_3, rfl, fr, hl⟩
    refine ⟨_, rfl, ?_⟩
    exact q _ text_1 (by omega) fr.same
def sp_law_spoilt (K : PySem.W.Frag) : Sp := fun vs H Q _ => ∃ (text : List Nat) (cell : Int), vs = [txV text, V.int cell] ∧ (1 ≤ text.length ∧ text.length ≤ 400) ∧ (∀ (H1 : Hp) (res : List Nat), (res.length ≤ 2000) → Same H H1 → Q (txV res) H1)
theorem sc_law_spoilt : FnScope ["_law_text", "_law_cell", "_law_fault", "_law_rest", "_law_sign", "_law_k"] ["_law_text", "_law_cell"] (defScope s_law_spoilt) := ⟨rfl, rfl, rfl, by decide +kernel, rfl, by decide +kernel, by decide +kernel⟩
theorem ok_law_spoilt (T : Txt K mg) : FnOk P w K mg base CX0 2 T.f_law_spoilt T.fd_law_spoilt ["_law_text", "_law_cell"] (sp_law_spoilt K) := by
  refine T.F_law_spoilt.ok sc_law_spoilt (fun vs H Q E h => ?_) (fun cdv A outer s H vs Q E hr h => ?_)
  · obtain ⟨text, cell, rfl, _⟩ := h; rfl
  · obtain ⟨text, cell, rfl, pre0, q⟩ := h
    have fr := Fr.nil H
    refine ⟨_, (pss_cons (ps_set (i := 2) sc_law_spoilt.nd rfl (Or.inl rfl) (pe_op op_mod (pv 1) pe_int))
          (pss_cons (ps_set (i := 3) sc_law_spoilt.nd rfl (Or.inl rfl) (pe_op op_fdiv (pv 1) pe_int))
          (pss_cons (ps_set (i := 4) sc_law_spoilt.nd rfl (Or.inl rfl) (pe_ix ix_T (pe_txt [48, 32, 45, 112, 116, 80, 43, 95] (by decide +kernel)) (pe_op op_mod (pv 3) pe_int) (fun _ _ => rfl)))
          (pss_cons (ps_set (i := 5) sc_law_spoilt.nd rfl (Or.inl rfl) (pe_op op_mod (pe_op op_fdiv (pv 3) pe_int) (pe_callB call_lenTx (by rfl) T.m_len (by decide +kernel) (pa_cons (pv 0) pa_nil))))
          (pss_cons (ps_if (pt_cmpR op_eqS (pv 2) pe_int (nomark _)) (pss_one (ps_ret (pe_op op_addT (pv 4) (pv 0)))) pss_nil)
          (pss_cons (ps_if (pt_cmpR op_eqS (pv 2) pe_int (nomark _)) (pss_one (ps_ret (pe_op op_addT (pv 0) (pv 4)))) pss_nil)
          (pss_cons (ps_if (pt_cmpR op_eqS (pv 2) pe_int (nomark _)) (pss_one (ps_ret (pe_op op_addT (pe_slice sl_T (pv 0) po_none (po_some (pv 5))) (pe_slice sl_T (pv 0) (po_some (pe_op op_add (pv 5) pe_int)) po_none)))) pss_nil)
          (pss_cons (ps_if (pt_cmpR op_eqS (pv 2) pe_int (nomark _)) (pss_one (ps_ret (pe_op op_addT (pe_op op_addT (pe_slice sl_T (pv 0) po_none (po_some (pv 5))) (pv 4)) (pe_slice sl_T (pv 0) (po_some (pe_op op_add (pv 5) pe_int)) po_none)))) pss_nil)
          (pss_cons (ps_if (pt_cmpR op_eqS (pv 2) pe_int (nomark _)) (pss_one (ps_ret (pe_op op_addT (pv 0) (pv 0)))) pss_nil)
          (pss_cons (ps_if (pt_cmpR op_eqS (pv 2) pe_int (nomark _)) (pss_one (ps_ret (pe_txt [] (by decide +kernel)))) pss_nil)
          (pss_cons (ps_if (pt_cmpR op_eqS (pv 2) pe_int (nomark _)) (pss_one (ps_ret (pe_op op_mulT (pe_ix ix_T (pe_txt [112, 116] (by decide +kernel)) (pe_op op_mod (pv 3) pe_int) (fun _ _ => rfl)) (pe_op op_add pe_int (pe_op op_mod (pe_op op_fdiv (pv 3) pe_int) pe_int))))) pss_nil)
          (pss_cons (ps_if (pt_cmpR op_eqS (pv 2) pe_int (nomark _)) (pss_one (ps_ret (pe_call (ok_law_drawn T) (hr.mono (by decide)) (by rfl) T.g_law_drawn T.F_law_drawn.kp T.b_law_drawn .nil pass0 (pa_cons (pv 3) pa_nil)))) pss_nil)
          (pss_one (ps_ret (pv 0))))))))))))))), ?_⟩
    refine ⟨_, rfl, _, _, rfl, rfl, (show (0 : Int) < _ by decide), ?_⟩
    refine ⟨_, rfl, _, _, rfl, rfl, ⟨by decide, by decide⟩, ?_⟩
    refine ⟨_, rfl, _, _, rfl, rfl, (show (0 : Int) < _ by decide), _, _, rfl, rfl, ?_, ?_, ?_, ?_⟩
    · walk_at "txl"
    · first | omega | (simp only [List.length_cons, List.length_nil]; omega)
    · first | omega | (simp only [List.length_cons, List.length_nil]; omega)
    refine ⟨_, rfl, _, _, rfl, rfl, ⟨by decide, by decide⟩, _, rfl, _, rfl, ?_, _, _, rfl, rfl, ?_, ?_⟩
    · walk_at "txl"
    · walk_at "side"
    have hk1 := Int.emod_nonneg (((cell / 9)) / 8) (show (text.length : Int) ≠ 0 by omega)
    have hk2 := Int.emod_lt_of_pos (((cell / 9)) / 8) (show 0 < (text.length : Int) by omega)
    have hcl := fun lo hi => cut_len text lo hi
    refine ⟨_, rfl, _, _, rfl, rfl, ?_, ?_⟩
    · intro h1
      refine ⟨_, rfl, ?_⟩
      refine iteT ?_
      refine ⟨_, rfl, _, rfl, _, _, rfl, rfl, ?_, ?_⟩
      · walk_at "txl"
      exact q _ (([List.getD ([48, 32, 45, 112, 116, 80, 43, 95]) (Int.toNat (((cell / 9) % 8))) 0] ++ text)) (by first | omega | (simp only [List.length_append, List.length_cons, List.length_nil, rep_len]; first | omega | (have := hcl none (some ((((cell / 9) / 8) % (text.length : Int)))); have := hcl (some (((((cell / 9) / 8) % (text.length : Int))) + 1)) none; omega))) fr.same
    · intro h1
      refine ⟨_, rfl, ?_⟩
      refine iteF ?_
      refine ⟨_, rfl, _, _, rfl, rfl, ?_, ?_⟩
      · intro h2
        refine ⟨_, rfl, ?_⟩
        refine iteT ?_
        refine ⟨_, rfl, _, rfl, _, _, rfl, rfl, ?_, ?_⟩
        · walk_at "txl"
        exact q _ ((text ++ [List.getD ([48, 32, 45, 112, 116, 80, 43, 95]) (Int.toNat (((cell / 9) % 8))) 0])) (by first | omega | (simp only [List.length_append, List.length_cons, List.length_nil, rep_len]; first | omega | (have := hcl none (some ((((cell / 9) / 8) % (text.length : Int)))); have := hcl (some (((((cell / 9) / 8) % (text.length : Int))) + 1)) none; omega))) fr.same
      · intro h2
        refine ⟨_, rfl, ?_⟩
        refine iteF ?_
        refine ⟨_, rfl, _, _, rfl, rfl, ?_, ?_⟩
        · intro h3
          refine ⟨_, rfl, ?_⟩
          refine iteT ?_
          refine ⟨_, rfl, _, rfl, _, rfl, _, rfl, ?_, _, rfl, _, rfl, _, _, rfl, rfl, _, rfl, _, rfl, ?_, _, _, rfl, rfl, ?_, ?_⟩
          · walk_at "txl"
          · walk_at "txl"
          · have := hcl none (some ((((cell / 9) / 8) % (text.length : Int)))); have := hcl (some (((((cell / 9) / 8) % (text.length : Int))) + 1)) none; omega
          exact q _ (((cutL text none (some ((((cell / 9) / 8) % (text.length : Int))))) ++ (cutL text (some (((((cell / 9) / 8) % (text.length : Int)) + 1))) none))) (by first | omega | (simp only [List.length_append, List.length_cons, List.length_nil, rep_len]; first | omega | (have := hcl none (some ((((cell / 9) / 8) % (text.length : Int)))); have := hcl (some (((((cell / 9) / 8) % (text.length : Int))) + 1)) none; omega))) fr.same
        · intro h3
          refine ⟨_, rfl, ?_⟩
          refine iteF ?_
          refine ⟨_, rfl, _, _, rfl, rfl, ?_, ?_⟩
          · intro h4
            refine ⟨_, rfl, ?_⟩
            refine iteT ?_
            refine ⟨_, rfl, _, rfl, _, rfl, _, rfl, ?_, _, rfl, _, _, rfl, rfl, ?_, _, rfl, _, rfl, _, _, rfl, rfl, _, rfl, _, rfl, ?_, _, _, rfl, rfl, ?_, ?_⟩
            · walk_at "txl"
            · have := hcl none (some ((((cell / 9) / 8) % (text.length : Int)))); simp only [List.length_cons, List.length_nil]; omega
            · walk_at "txl"
            · have := hcl none (some ((((cell / 9) / 8) % (text.length : Int)))); have := hcl (some (((((cell / 9) / 8) % (text.length : Int))) + 1)) none; simp only [List.length_append, List.length_cons, List.length_nil]; omega
            exact q _ ((((cutL text none (some ((((cell / 9) / 8) % (text.length : Int))))) ++ [List.getD ([48, 32, 45, 112, 116, 80, 43, 95]) (Int.toNat (((cell / 9) % 8))) 0]) ++ (cutL text (some (((((cell / 9) / 8) % (text.length : Int)) + 1))) none))) (by first | omega | (simp only [List.length_append, List.length_cons, List.length_nil, rep_len]; first | omega | (have := hcl none (some ((((cell / 9) / 8) % (text.length : Int)))); have := hcl (some (((((cell / 9) / 8) % (text.length : Int))) + 1)) none; omega))) fr.same
          · intro h4
            refine ⟨_, rfl, ?_⟩
            refine iteF ?_
            refine ⟨_, rfl, _, _, rfl, rfl, ?_, ?_⟩
            · intro h5
              refine ⟨_, rfl, ?_⟩
              refine iteT ?_
              refine ⟨_, rfl, _, rfl, _, _, rfl, rfl, ?_, ?_⟩
              · walk_at "txl"
              exact q _ ((text ++ text)) (by first | omega | (simp only [List.length_append, List.length_cons, List.length_nil, rep_len]; first | omega | (have := hcl none (some ((((cell / 9) / 8) % (text.length : Int)))); have := hcl (some (((((cell / 9) / 8) % (text.length : Int))) + 1)) none; omega))) fr.same
            · intro h5
              refine ⟨_, rfl, ?_⟩
              refine iteF ?_
              refine ⟨_, rfl, _, _, rfl, rfl, ?_, ?_⟩
              · intro h6
                refine ⟨_, rfl, ?_⟩
                refine iteT ?_
                exact q _ ([]) (by first | omega | (simp only [List.length_append, List.length_cons, List.length_nil, rep_len]; first | omega | (have := hcl none (some ((((cell / 9) / 8) % (text.length : Int)))); have := hcl (some (((((cell / 9) / 8) % (text.length : Int))) + 1)) none; omega))) fr.same
              · intro h6
                refine ⟨_, rfl, ?_⟩
                refine iteF ?_
                refine ⟨_, rfl, _, _, rfl, rfl, ?_, ?_⟩
                · intro h7
                  refine ⟨_, rfl, ?_⟩
                  refine iteT ?_
                  refine ⟨_, rfl, _, _, rfl, rfl, (show (0 : Int) < _ by decide), _, _, rfl, rfl, ?_, ?_, ?_, _, rfl, _, _, rfl, rfl, ⟨by decide, by decide⟩, _, _, rfl, rfl, (show (0 : Int) < _ by decide), _, _, rfl, rfl, _, _, rfl, rfl, ?_, ?_, ?_, ?_⟩
                  · walk_at "txl"
                  · first | omega | (simp only [List.length_cons, List.length_nil]; omega)
                  · first | omega | (simp only [List.length_cons, List.length_nil]; omega)
                  · first | omega | (simp only [List.length_cons, List.length_nil]; omega)
                  · first | omega | (simp only [List.length_cons, List.length_nil]; omega)
                  · first | omega | (simp only [List.length_cons, List.length_nil]; omega)
                  exact q _ ((List.replicate (Int.toNat ((400 + (((cell / 9) / 2) % 2)))) ([List.getD ([112, 116]) (Int.toNat (((cell / 9) % 2))) 0])).flatten) (by first | omega | (simp only [List.length_append, List.length_cons, List.length_nil, rep_len]; first | omega | (have := hcl none (some ((((cell / 9) / 8) % (text.length : Int)))); have := hcl (some (((((cell / 9) / 8) % (text.length : Int))) + 1)) none; omega))) fr.same
                · intro h7
                  refine ⟨_, rfl, ?_⟩
                  refine iteF ?_
                  refine ⟨_, rfl, _, _, rfl, rfl, ?_, ?_⟩
                  · intro h8
                    refine ⟨_, rfl, ?_⟩
                    refine iteT ?_
                    refine ⟨_, rfl, ((cell / 9)), rfl, fun H_9 drawn_10 hp_12 sm_11 => ?_⟩
                    have fr : Fr H _ [] := fr.call sm_11
                    exact q _ drawn_10 (by first | omega | (simp only [List.length_append, List.length_cons, List.length_nil, rep_len]; first | omega | (have := hcl none (some ((((cell / 9) / 8) % (text.length : Int)))); have := hcl (some (((((cell / 9) / 8) % (text.length : Int))) + 1)) none; omega))) fr.same
                  · intro h8
                    refine ⟨_, rfl, ?_⟩
                    refine iteF ?_
                    refine ⟨_, rfl, ?_⟩
                    exact q _ text (by first | omega | (simp only [List.length_append, List.length_cons, List.length_nil, rep_len]; first | omega | (have := hcl none (some ((((cell / 9) / 8) % (text.length : Int)))); have := hcl (some (((((cell / 9) / 8) % (text.length : Int))) + 1)) none; omega))) fr.same
def sp_law_mixed (K : PySem.W.Frag) : Sp := fun vs H Q _ => ∃ (cell : Int) (k : Int), vs = [V.int cell, V.int k] ∧ (0 ≤ k ∧ k < 1000) ∧ (∀ (H1 : Hp) (res : Int), (0 ≤ res ∧ res < 2147483647) → Same H H1 → Q (V.int res) H1)
theorem sc_law_mixed : FnScope ["_law_cell", "_law_k", "_law_number_here"] ["_law_cell", "_law_k"] (defScope s_law_mixed) := ⟨rfl, rfl, rfl, by decide +kernel, rfl, by decide +kernel, by decide +kernel⟩
theorem ok_law_mixed (T : Txt K mg) : FnOk P w K mg base CX0 1 T.f_law_mixed T.fd_law_mixed ["_law_cell", "_law_k"] (sp_law_mixed K) := by
  refine T.F_law_mixed.ok sc_law_mixed (fun vs H Q E h => ?_) (fun cdv A outer s H vs Q E hr h => ?_)
  · obtain ⟨cell, k, rfl, _⟩ := h; rfl
  · obtain ⟨cell, k, rfl, pre0, q⟩ := h
    have fr := Fr.nil H
    refine ⟨_, (pss_cons (ps_set (i := 2) sc_law_mixed.nd rfl (Or.inl rfl) (pe_op op_mod (pe_op op_mul (pe_op op_add (pe_op op_add (pe_op op_mod (pe_callB call_absI (by rfl) T.m_abs (by decide +kernel) (pa_cons (pv 0) pa_nil)) pe_int) (pe_op op_mul pe_int (pv 1))) pe_int) (pe_op op_add pe_int (pe_op op_mul (pv 1) (pv 1)))) pe_int))
          (pss_one (ps_ret (pe_op op_mod (pe_op op_mul (pv 2) pe_int) pe_int)))), ?_⟩
    refine ⟨_, rfl, _, rfl, _, _, rfl, rfl, (show (0 : Int) < _ by decide), _, rfl, _, _, rfl, rfl, (.inl (by decide)), _, _, rfl, rfl, _, _, rfl, rfl, _, rfl, _, rfl, _, _, rfl, rfl, ?_, _, _, rfl, rfl, _, _, rfl, rfl, ?_, _, _, rfl, rfl, (show (0 : Int) < _ by decide), ?_⟩
    · walk_at "mul"
    · walk_at "mul"
    refine ⟨_, rfl, _, _, rfl, rfl, (.inr (by decide)), _, _, rfl, rfl, (show (0 : Int) < _ by decide), ?_⟩
    exact q _ (((((((((cell.natAbs : Int) % 2147483647) + (97 * k)) + 13) * (16807 + (k * k))) % 2147483647) * 48271) % 2147483647)) (by exact ⟨Int.emod_nonneg _ (by decide), Int.emod_lt_of_pos _ (by decide)⟩) fr.same
def sp_law_written (K : PySem.W.Frag) : Sp := fun vs H Q _ => ∃ (cell : Int) (most : Int), vs = [V.int cell, V.int most] ∧ (1 ≤ most ∧ most ≤ 400) ∧ (∀ (H1 : Hp) (res : List Nat), (1 ≤ res.length ∧ res.length ≤ 400) → Same H H1 → Q (txV res) H1)
theorem sc_law_written : FnScope ["_law_cell", "_law_most", "_law_size", "_law_text", "_law_k"] ["_law_cell", "_law_most"] (defScope s_law_written) := ⟨rfl, rfl, rfl, by decide +kernel, rfl, by decide +kernel, by decide +kernel⟩
theorem ok_law_written (T : Txt K mg) : FnOk P w K mg base CX0 2 T.f_law_written T.fd_law_written ["_law_cell", "_law_most"] (sp_law_written K) := by
  refine T.F_law_written.ok sc_law_written (fun vs H Q E h => ?_) (fun cdv A outer s H vs Q E hr h => ?_)
  · obtain ⟨cell, most, rfl, _⟩ := h; rfl
  · obtain ⟨cell, most, rfl, pre0, q⟩ := h
    have fr := Fr.nil H
    refine ⟨_, (pss_cons (ps_set (i := 2) sc_law_written.nd rfl (Or.inl rfl) (pe_op op_add pe_int (pe_op op_mod (pe_op op_fdiv (pv 0) pe_int) (pv 1))))
          (pss_cons (ps_set (i := 3) sc_law_written.nd rfl (Or.inl rfl) (pe_txt [] (by decide +kernel)))
          (pss_cons (ps_for PassesOwn.never rfl (pi_range1 (by rfl) T.m_range (pa_cons (pv 2) pa_nil)) (pg_name (i := 4) sc_law_written.nd rfl (Or.inl rfl)) (pss_one (ps_set (i := 3) sc_law_written.nd rfl (Or.inl rfl) (pe_op op_addT (pv 3) (pe_ix ix_T (pe_txt [112, 116] (by decide +kernel)) (pe_op op_mod (pe_op op_fdiv (pe_call (ok_law_mixed T) (hr.mono (by decide)) (by rfl) T.g_law_mixed T.F_law_mixed.kp T.b_law_mixed .nil pass0 (pa_cons (pv 0) (pa_cons (pv 4) pa_nil))) pe_int) pe_int) (fun _ _ => rfl))))))
          (pss_one (ps_ret (pv 3)))))), ?_⟩
    refine ⟨_, rfl, _, _, rfl, rfl, ⟨by decide, by decide⟩, _, rfl, _, _, rfl, rfl, ?_, _, _, rfl, rfl, ?_⟩
    · walk_at "side"
    dsimp only
    generalize e_law_size_2 : ((1 + ((cell / 8) % most)) : Int) = size_1
    have hm1 := Int.emod_nonneg (cell / 8) (show most ≠ 0 by omega)
    have hm2 := Int.emod_lt_of_pos (cell / 8) (show 0 < most by omega)
    refine ⟨_, rfl, _, rfl, ?_, ?_, ?_⟩
    · walk_at "side"
    · walk_at "side"
    refine for_it (walkR (n := (Int.toNat size_1))) (fun (i : Nat) σ H1 => ∃ (text_3 : List Nat) (y_4 : Option V), σ = [some (V.int cell), some (V.int most), some (V.int size_1), some (txV text_3), y_4] ∧ Fr H H1 [] ∧ (text_3.length = i)) ?_ ?_ ?_ ?_
    · refine ⟨[], _, rfl, fr, ?_⟩
      · walk_at "inv"
    · rintro i σ H1 hi ⟨text_3, y_4, rfl, fr, hl⟩
      exact trivial
    · rintro i_5 x_7 s_10 H_8 H_9 hi_6 ⟨text_3, y_4, rfl, fr, hl⟩ ⟨rfl, rfl⟩
      refine ⟨_, rfl, _, rfl, _, rfl, cell, ((i_5 : Int)), rfl, ?_, fun H_11 mixed_12 hp_14 sm_13 => ?_⟩
      · omega
      have fr : Fr H _ [] := fr.call sm_13
      refine ⟨_, _, rfl, rfl, ⟨by decide, by decide⟩, _, _, rfl, rfl, (show (0 : Int) < _ by decide), _, _, rfl, rfl, ?_, ?_, ?_, _, _, rfl, rfl, ?_, ?_⟩
      · walk_at "txl"
      · first | omega | (simp only [List.length_cons, List.length_nil]; omega)
      · first | omega | (simp only [List.length_cons, List.length_nil]; omega)
      · walk_at "txl"
      refine ⟨(text_3 ++ [List.getD ([112, 116]) (Int.toNat (((mixed_12 / 3) % 2))) 0]), _, rfl, fr, ?_⟩
      · rw [List.length_append, hl]; rfl
    rintro s_16 H_15 ⟨text_3, y_4, rfl, fr, hl⟩
    refine ⟨_, rfl, ?_⟩
    exact q _ text_3 (by omega) fr.same
def sp_law (K : PySem.W.Frag) : Sp := fun vs H Q _ => ∃ (a_script : Addr) (script : List Int), vs = [V.ref a_script] ∧ SqL K H a_script (List.map V.int script) ∧ (script.length ≤ 63) ∧ (∀ (H1 : Hp) (res : Bool), (res = true) → Same H H1 → Q (V.bl res) H1)
theorem sc_law : FnScope ["_law_script", "_law_k", "_law_cell", "_law_other_here", "_law_number_here", "_law_marked_here", "_law_text"] ["_law_script"] (defScope s_law) := ⟨rfl, rfl, rfl, by decide +kernel, rfl, by decide +kernel, by decide +kernel⟩
theorem ok_law (T : Txt K mg) : FnOk P w K mg base CX0 4 T.f_law T.fd_law ["_law_script"] (sp_law K) := by
  refine T.F_law.ok sc_law (fun vs H Q E h => ?_) (fun cdv A outer s H vs Q E hr h => ?_)
  · obtain ⟨a_script, script, rfl, _⟩ := h; rfl
  · obtain ⟨a_script, script, rfl, h_script, pre0, q⟩ := h
    have fr := Fr.nil H
    refine ⟨_, (pss_cons (ps_for PassesOwn.never rfl (pi_range1 (by rfl) T.m_range (pa_cons (pe_op op_add (pe_callB (call_minI rfl) (by rfl) T.m_min (by decide +kernel) (pa_cons pe_int (pa_cons (pe_callB (show CallR _ _ (rLenL K) from call_lenL) (by rfl) T.m_len (by decide +kernel) (pa_cons (pv 0) pa_nil)) pa_nil))) pe_int) pa_nil)) (pg_name (i := 1) sc_law.nd rfl (Or.inl rfl)) (pss_cons (ps_set (i := 2) sc_law.nd rfl (Or.inl rfl) (pe_call (ok_law_cell_at T) (hr.mono (by decide)) (by rfl) T.g_law_cell_at T.F_law_cell_at.kp T.b_law_cell_at .nil pass0 (pa_cons (pv 0) (pa_cons (pv 1) pa_nil))))
          (pss_cons (ps_set (i := 3) sc_law.nd rfl (Or.inl rfl) (pe_call (ok_law_cell_at T) (hr.mono (by decide)) (by rfl) T.g_law_cell_at T.F_law_cell_at.kp T.b_law_cell_at .nil pass0 (pa_cons (pv 0) (pa_cons (pe_op op_add (pv 1) pe_int) pa_nil))))
          (pss_cons (ps_set (i := 4) sc_law.nd rfl (Or.inl rfl) (pe_op op_mod (pv 2) (pe_op op_powL pe_int pe_int)))
          (pss_cons (ps_set (i := 5) sc_law.nd rfl (Or.inl rfl) (pe_call (ok_law_written T) (hr.mono (by decide)) (by rfl) T.g_law_written T.F_law_written.kp T.b_law_written .nil pass0 (pa_cons (pv 2) (pa_cons (pe_ix (show IxR _ (rIxL K) from ix_list) (pe_lst (pa_cons pe_int (pa_cons pe_int pa_nil))) (pe_callB (call_minI rfl) (by rfl) T.m_min (by decide +kernel) (pa_cons pe_int (pa_cons (pe_op op_add (pe_op op_mod (pv 2) pe_int) (pe_op op_fdiv (pv 1) pe_int)) pa_nil))) (fun _ _ => rfl)) pa_nil))))
          (pss_cons (ps_if (pt_cmpR op_neS (pe_call (ok_law_number T) (hr.mono (by decide)) (by rfl) T.g_law_number T.F_law_number.kp T.b_law_number .nil pass0 (pa_cons (pe_callTy call_strT (by rfl) T.m_str (by decide +kernel) (pa_cons (pv 4) pa_nil)) pa_nil)) (pv 4) (nomark _)) (pss_one (ps_ret pe_bl)) pss_nil)
          (pss_one (ps_for PassesOwn.never rfl (pi_list (pe_lst (pa_cons (pe_callTy call_strT (by rfl) T.m_str (by decide +kernel) (pa_cons (pv 4) pa_nil)) (pa_cons (pv 5) (pa_cons (pe_call (ok_law_spoilt T) (hr.mono (by decide)) (by rfl) T.g_law_spoilt T.F_law_spoilt.kp T.b_law_spoilt .nil pass0 (pa_cons (pe_callTy call_strT (by rfl) T.m_str (by decide +kernel) (pa_cons (pv 4) pa_nil)) (pa_cons (pv 3) pa_nil))) (pa_cons (pe_call (ok_law_spoilt T) (hr.mono (by decide)) (by rfl) T.g_law_spoilt T.F_law_spoilt.kp T.b_law_spoilt .nil pass0 (pa_cons (pv 5) (pa_cons (pv 3) pa_nil))) pa_nil)))))) (pg_name (i := 6) sc_law.nd rfl (Or.inl rfl)) (pss_one (ps_if (PW.pt (pw_or (pt_not (pt_valS (pe_call (ok_law_read T) (hr.mono (by decide)) (by rfl) T.g_law_read T.F_law_read.kp T.b_law_read .nil pass0 (pa_cons (pv 6) pa_nil)))) (pw_or1 (pt_not (pt_valS (pe_call (ok_law_read_marks T) (hr.mono (by decide)) (by rfl) T.g_law_read_marks T.F_law_read_marks.kp T.b_law_read_marks .nil pass0 (pa_cons (pv 6) pa_nil))))))) (pss_one (ps_ret pe_bl)) pss_nil))))))))))
          (pss_one (ps_ret pe_bl))), ?_⟩
    refine ⟨_, rfl, _, _, _, rfl, (fr.same.seq h_script), (List.length_map _), _, _, rfl, _, _, rfl, rfl, _, rfl, ?_, ?_, ?_⟩
    · walk_at "side"
    · walk_at "side"
    refine for_it (walkR (n := (Int.toNat (((min 40 ((script.length : Int))) + 1))))) (fun (i : Nat) σ H1 => ∃ (y_1 : Option V) (y_2 : Option V) (y_3 : Option V) (y_4 : Option V) (y_5 : Option V) (y_6 : Option V), σ = [some (V.ref a_script), y_1, y_2, y_3, y_4, y_5, y_6] ∧ Fr H H1 []) ?_ ?_ ?_ ?_
    · refine ⟨_, _, _, _, _, _, rfl, fr⟩
    · rintro i σ H1 hi ⟨y_1, y_2, y_3, y_4, y_5, y_6, rfl, fr⟩
      exact trivial
    · rintro i_7 x_9 s_12 H_10 H_11 hi_8 ⟨y_1, y_2, y_3, y_4, y_5, y_6, rfl, fr⟩ ⟨rfl, rfl⟩
      refine ⟨_, rfl, _, rfl, a_script, script, ((i_7 : Int)), rfl, (fr.same.seq h_script), ?_, fun H_13 cell_at_14 hp_16 sm_15 => ?_⟩
      · omega
      have fr : Fr H _ [] := fr.call sm_15
      refine ⟨_, rfl, _, rfl, _, _, rfl, rfl, a_script, script, (((i_7 : Int) + 1)), rfl, (fr.same.seq h_script), ?_, fun H_17 cell_at_18 hp_20 sm_19 => ?_⟩
      · omega
      have fr : Fr H _ [] := fr.call sm_19
      refine ⟨_, rfl, _, _, 1000000000000, rfl, rfl, ⟨by decide, by decide, by decide⟩, (by decide), _, _, rfl, rfl, (show (0 : Int) < _ by decide), ?_⟩
      have hn0 : 0 ≤ ((cell_at_14 % 1000000000000)) := Int.emod_nonneg _ (by decide)
      have hn1 : ((cell_at_14 % 1000000000000)) < 10 ^ 12 := Int.emod_lt_of_pos _ (by decide)
      have hnl := numT_len hn0 hn1
      have hnn := numOf_num hn0 hn1
      refine ⟨_, rfl, (Evl.sz_of (show 2 ≤ 100000 by decide)), fun l_21 nl_22 => ?_⟩
      have fr : Fr H _ [(l_21, (.lst (List.map V.int ([400, 12])) : HO))] := fr.new nl_22
      refine ⟨_, rfl, _, _, rfl, rfl, (show (0 : Int) < _ by decide), _, rfl, _, _, rfl, rfl, ⟨by decide, by decide⟩, _, _, rfl, rfl, _, _, rfl, _, _, _, _, rfl, rfl, (SqL.of fr.at0), (atD 0 ?_ ?_), cell_at_14, ((List.getD ([400, 12]) (Int.toNat ((min 1 (((cell_at_14 % 8) + ((i_7 : Int) / 8)))))) 0)), rfl, ?_, fun H_23 written_24 hp_26 sm_25 => ?_⟩
      · first | omega | (simp only [List.length_cons, List.length_nil]; omega)
      · first | omega | (simp only [List.length_cons, List.length_nil]; omega)
      · rcases pick2U 400 12 _ with hpk | hpk <;> rw [hpk] <;> omega
      have fr : Fr H _ [(l_21, (.lst (List.map V.int ([400, 12])) : HO))] := fr.call sm_25
      have hwl := hp_26
      have fr : Fr H _ [] := Fr.dk fr 0
      refine ⟨_, rfl, _, rfl, ?_, ?_, ((numT ((cell_at_14 % 1000000000000)))), rfl, ?_, ⟨fun H_27 hp_33 sm_29 => ?_, fun H_27 number_32 hp_33 sm_29 => ?_⟩⟩
      · omega
      · exact log_lt (by omega)
      · omega
      · exfalso
        rw [hnn] at hp_33; cases hp_33
      · have fr : Fr H _ [] := fr.call sm_29
        have hds := hp_33
        refine ⟨_, rfl, _, _, rfl, rfl, ?_, ?_⟩
        · intro h37
          exfalso
          refine h37 ?_; rw [hnn] at hds; have := Option.some.inj hds.1; omega
        · intro h37
          refine ⟨_, rfl, ?_⟩
          refine iteF ?_
          refine ⟨_, rfl, _, rfl, ?_, ?_, _, rfl, _, rfl, _, rfl, ?_, ?_, _, rfl, ((numT ((cell_at_14 % 1000000000000)))), cell_at_18, rfl, ?_, fun H_38 spoilt_39 hp_41 sm_40 => ?_⟩
          · omega
          · exact log_lt (by omega)
          · omega
          · exact log_lt (by omega)
          · omega
          have fr : Fr H _ [] := fr.call sm_40
          refine ⟨_, rfl, _, rfl, written_24, cell_at_18, rfl, ?_, fun H_42 spoilt_43 hp_45 sm_44 => ?_⟩
          · omega
          have fr : Fr H _ [] := fr.call sm_44
          refine ⟨(Evl.sz_of (show 4 ≤ 100000 by decide)), fun l_46 nl_47 => ?_⟩
          have fr : Fr H _ [(l_46, (.lst (List.map txV ([(numT ((cell_at_14 % 1000000000000))), written_24, spoilt_39, spoilt_43])) : HO))] := fr.new nl_47
          refine ⟨_, rfl, ⟨_, (SqL.of fr.at0)⟩, ?_⟩
          refine for_it (walkL txV ([(numT ((cell_at_14 % 1000000000000))), written_24, spoilt_39, spoilt_43])) (fun (i : Nat) σ H1 => ∃ (y_48 : Option V), σ = [some (V.ref a_script), some (V.int ((i_7 : Int))), some (V.int cell_at_14), some (V.int cell_at_18), some (V.int ((cell_at_14 % 1000000000000))), some (txV written_24), y_48] ∧ Fr H H1 [(l_46, (.lst (List.map txV ([(numT ((cell_at_14 % 1000000000000))), written_24, spoilt_39, spoilt_43])) : HO))]) ?_ ?_ ?_ ?_
          · refine ⟨_, rfl, fr⟩
          · rintro i σ H1 hi ⟨y_48, rfl, fr⟩
            exact fr.at0
          · rintro i_49 x_51 s_54 H_52 H_53 hi_50 ⟨y_48, rfl, fr⟩ ⟨rfl, y_55, hy_56, rfl⟩
            have hbad : (fun z : List Nat => z.length ≤ 2000) y_55 := all4T (P := (fun z : List Nat => z.length ≤ 2000)) (by show List.length _ ≤ 2000; omega) (by show List.length _ ≤ 2000; omega) (by show List.length _ ≤ 2000; omega) (by show List.length _ ≤ 2000; omega) _ (List.mem_of_getElem? hy_56)
            refine ⟨_, rfl, y_55, rfl, ?_, fun H_57 read_58 hp_60 sm_59 => ?_⟩
            · exact hbad
            have fr : Fr H _ [(l_46, (.lst (List.map txV ([(numT ((cell_at_14 % 1000000000000))), written_24, spoilt_39, spoilt_43])) : HO))] := fr.call sm_59
            subst hp_60
            refine ⟨_, rfl, fun _ => ?_, (fun h => nomatch h)⟩
            refine iteF ?_
            refine ⟨_, rfl, y_55, rfl, ?_, fun H_61 read_marks_62 hp_64 sm_63 => ?_⟩
            · exact hbad
            have fr : Fr H _ [(l_46, (.lst (List.map txV ([(numT ((cell_at_14 % 1000000000000))), written_24, spoilt_39, spoilt_43])) : HO))] := fr.call sm_63
            subst hp_64
            refine ⟨_, rfl, fun _ => ?_, (fun h => nomatch h)⟩
            refine iteF ?_
            refine ⟨_, rfl, fr⟩
          rintro s_66 H_65 ⟨y_48, rfl, fr⟩
          have fr : Fr H _ [] := Fr.dk fr 0
          refine ⟨_, _, _, _, _, _, rfl, fr⟩
    rintro s_68 H_67 ⟨y_1, y_2, y_3, y_4, y_5, y_6, rfl, fr⟩
    exact q _ true (by rfl) fr.same
end
theorem all_mk {l : PySem.W.OpenLaw} {w : World} {K : PySem.W.Frag} {h : Heap} {mg : Str → Option Value} {fa : Addr} {flaw_cell_at : Addr} {odlaw_cell_at anlaw_cell_at : Option Addr} {sllaw_cell_at : Array (Option Value)} {oclaw_cell_at kVlaw_cell_at dclaw_cell_at pmlaw_cell_at cdlaw_cell_at ctlaw_cell_at : Value} {flaw_mixed : Addr} {odlaw_mixed anlaw_mixed : Option Addr} {sllaw_mixed : Array (Option Value)} {oclaw_mixed kVlaw_mixed dclaw_mixed pmlaw_mixed cdlaw_mixed ctlaw_mixed : Value} {flaw_written : Addr} {odlaw_written anlaw_written : Option Addr} {sllaw_written : Array (Option Value)} {oclaw_written kVlaw_written dclaw_written pmlaw_written cdlaw_written ctlaw_written : Value} {flaw_number : Addr} {odlaw_number anlaw_number : Option Addr} {sllaw_number : Array (Option Value)} {oclaw_number kVlaw_number dclaw_number pmlaw_number cdlaw_number ctlaw_number : Value} {flaw_drawn : Addr} {odlaw_drawn anlaw_drawn : Option Addr} {sllaw_drawn : Array (Option Value)} {oclaw_drawn kVlaw_drawn dclaw_drawn pmlaw_drawn cdlaw_drawn ctlaw_drawn : Value} {flaw_spoilt : Addr} {odlaw_spoilt anlaw_spoilt : Option Addr} {sllaw_spoilt : Array (Option Value)} {oclaw_spoilt kVlaw_spoilt dclaw_spoilt pmlaw_spoilt cdlaw_spoilt ctlaw_spoilt : Value} {fread_number : Addr} {odread_number anread_number : Option Addr} {slread_number : Array (Option Value)} {ocread_number kVread_number dcread_number pmread_number cdread_number ctread_number : Value} {flaw_other : Addr} {odlaw_other anlaw_other : Option Addr} {sllaw_other : Array (Option Value)} {oclaw_other kVlaw_other dclaw_other pmlaw_other cdlaw_other ctlaw_other : Value} {flaw_read : Addr} {odlaw_read anlaw_read : Option Addr} {sllaw_read : Array (Option Value)} {oclaw_read kVlaw_read dclaw_read pmlaw_read cdlaw_read ctlaw_read : Value} {flaw_marked : Addr} {odlaw_marked anlaw_marked : Option Addr} {sllaw_marked : Array (Option Value)} {oclaw_marked kVlaw_marked dclaw_marked pmlaw_marked cdlaw_marked ctlaw_marked : Value} {fread_marks : Addr} {odread_marks anread_marks : Option Addr} {slread_marks : Array (Option Value)} {ocread_marks kVread_marks dcread_marks pmread_marks cdread_marks ctread_marks : Value} {fshow_mark : Addr} {odshow_mark anshow_mark : Option Addr} {slshow_mark : Array (Option Value)} {ocshow_mark kVshow_mark dcshow_mark pmshow_mark cdshow_mark ctshow_mark : Value} {fshow_marks : Addr} {odshow_marks anshow_marks : Option Addr} {slshow_marks : Array (Option Value)} {ocshow_marks kVshow_marks dcshow_marks pmshow_marks cdshow_marks ctshow_marks : Value} {flaw_read_marks : Addr} {odlaw_read_marks anlaw_read_marks : Option Addr} {sllaw_read_marks : Array (Option Value)} {oclaw_read_marks kVlaw_read_marks dclaw_read_marks pmlaw_read_marks cdlaw_read_marks ctlaw_read_marks : Value} {flaw : Addr} {odlaw anlaw : Option Addr} {sllaw : Array (Option Value)} {oclaw kVlaw dclaw pmlaw cdlaw ctlaw : Value} {t_FIGURES : Tok} {CRiftError : Addr} {CNoPack : Addr} {CNoMarks : Addr} {CNoRiffle : Addr} {CNoWay : Addr} {CTooMany : Addr} {CNoFigures : Addr} {CNoText : Addr} (X : K.In h) (G : h.Ns mainGlobals mg) (hfa : mg "law" = some (.ref fa))
    (alaw_cell_at : PySem.W.nsIn K mainGlobals "_law_cell_at" = some (some (.ref flaw_cell_at))) (llaw_cell_at : K.lookup flaw_cell_at = some ⟨oclaw_cell_at, odlaw_cell_at, .func (PySem.W.fnOf "_law_cell_at" "_law_cell_at" (defArgs s_law_cell_at) (defBody s_law_cell_at) (defScope s_law_cell_at) .none kVlaw_cell_at dclaw_cell_at pmlaw_cell_at anlaw_cell_at cdlaw_cell_at ctlaw_cell_at), sllaw_cell_at⟩) (claw_cell_at : PySem.W.codeIn K cdlaw_cell_at "_law_cell_at" = true) (klaw_cell_at : PySem.W.keepIn K (.ref flaw_cell_at) = true)
    (alaw_mixed : PySem.W.nsIn K mainGlobals "_law_mixed" = some (some (.ref flaw_mixed))) (llaw_mixed : K.lookup flaw_mixed = some ⟨oclaw_mixed, odlaw_mixed, .func (PySem.W.fnOf "_law_mixed" "_law_mixed" (defArgs s_law_mixed) (defBody s_law_mixed) (defScope s_law_mixed) .none kVlaw_mixed dclaw_mixed pmlaw_mixed anlaw_mixed cdlaw_mixed ctlaw_mixed), sllaw_mixed⟩) (claw_mixed : PySem.W.codeIn K cdlaw_mixed "_law_mixed" = true) (klaw_mixed : PySem.W.keepIn K (.ref flaw_mixed) = true)
    (alaw_written : PySem.W.nsIn K mainGlobals "_law_written" = some (some (.ref flaw_written))) (llaw_written : K.lookup flaw_written = some ⟨oclaw_written, odlaw_written, .func (PySem.W.fnOf "_law_written" "_law_written" (defArgs s_law_written) (defBody s_law_written) (defScope s_law_written) .none kVlaw_written dclaw_written pmlaw_written anlaw_written cdlaw_written ctlaw_written), sllaw_written⟩) (claw_written : PySem.W.codeIn K cdlaw_written "_law_written" = true) (klaw_written : PySem.W.keepIn K (.ref flaw_written) = true)
    (alaw_number : PySem.W.nsIn K mainGlobals "_law_number" = some (some (.ref flaw_number))) (llaw_number : K.lookup flaw_number = some ⟨oclaw_number, odlaw_number, .func (PySem.W.fnOf "_law_number" "_law_number" (defArgs s_law_number) (defBody s_law_number) (defScope s_law_number) .none kVlaw_number dclaw_number pmlaw_number anlaw_number cdlaw_number ctlaw_number), sllaw_number⟩) (claw_number : PySem.W.codeIn K cdlaw_number "_law_number" = true) (klaw_number : PySem.W.keepIn K (.ref flaw_number) = true)
    (alaw_drawn : PySem.W.nsIn K mainGlobals "_law_drawn" = some (some (.ref flaw_drawn))) (llaw_drawn : K.lookup flaw_drawn = some ⟨oclaw_drawn, odlaw_drawn, .func (PySem.W.fnOf "_law_drawn" "_law_drawn" (defArgs s_law_drawn) (defBody s_law_drawn) (defScope s_law_drawn) .none kVlaw_drawn dclaw_drawn pmlaw_drawn anlaw_drawn cdlaw_drawn ctlaw_drawn), sllaw_drawn⟩) (claw_drawn : PySem.W.codeIn K cdlaw_drawn "_law_drawn" = true) (klaw_drawn : PySem.W.keepIn K (.ref flaw_drawn) = true)
    (alaw_spoilt : PySem.W.nsIn K mainGlobals "_law_spoilt" = some (some (.ref flaw_spoilt))) (llaw_spoilt : K.lookup flaw_spoilt = some ⟨oclaw_spoilt, odlaw_spoilt, .func (PySem.W.fnOf "_law_spoilt" "_law_spoilt" (defArgs s_law_spoilt) (defBody s_law_spoilt) (defScope s_law_spoilt) .none kVlaw_spoilt dclaw_spoilt pmlaw_spoilt anlaw_spoilt cdlaw_spoilt ctlaw_spoilt), sllaw_spoilt⟩) (claw_spoilt : PySem.W.codeIn K cdlaw_spoilt "_law_spoilt" = true) (klaw_spoilt : PySem.W.keepIn K (.ref flaw_spoilt) = true)
    (aread_number : PySem.W.nsIn K mainGlobals "read_number" = some (some (.ref fread_number))) (lread_number : K.lookup fread_number = some ⟨ocread_number, odread_number, .func (PySem.W.fnOf "read_number" "read_number" (defArgs s_read_number) (defBody s_read_number) (defScope s_read_number) .none kVread_number dcread_number pmread_number anread_number cdread_number ctread_number), slread_number⟩) (cread_number : PySem.W.codeIn K cdread_number "read_number" = true) (kread_number : PySem.W.keepIn K (.ref fread_number) = true)
    (alaw_other : PySem.W.nsIn K mainGlobals "_law_other" = some (some (.ref flaw_other))) (llaw_other : K.lookup flaw_other = some ⟨oclaw_other, odlaw_other, .func (PySem.W.fnOf "_law_other" "_law_other" (defArgs s_law_other) (defBody s_law_other) (defScope s_law_other) .none kVlaw_other dclaw_other pmlaw_other anlaw_other cdlaw_other ctlaw_other), sllaw_other⟩) (claw_other : PySem.W.codeIn K cdlaw_other "_law_other" = true) (klaw_other : PySem.W.keepIn K (.ref flaw_other) = true)
    (alaw_read : PySem.W.nsIn K mainGlobals "_law_read" = some (some (.ref flaw_read))) (llaw_read : K.lookup flaw_read = some ⟨oclaw_read, odlaw_read, .func (PySem.W.fnOf "_law_read" "_law_read" (defArgs s_law_read) (defBody s_law_read) (defScope s_law_read) .none kVlaw_read dclaw_read pmlaw_read anlaw_read cdlaw_read ctlaw_read), sllaw_read⟩) (claw_read : PySem.W.codeIn K cdlaw_read "_law_read" = true) (klaw_read : PySem.W.keepIn K (.ref flaw_read) = true)
    (alaw_marked : PySem.W.nsIn K mainGlobals "_law_marked" = some (some (.ref flaw_marked))) (llaw_marked : K.lookup flaw_marked = some ⟨oclaw_marked, odlaw_marked, .func (PySem.W.fnOf "_law_marked" "_law_marked" (defArgs s_law_marked) (defBody s_law_marked) (defScope s_law_marked) .none kVlaw_marked dclaw_marked pmlaw_marked anlaw_marked cdlaw_marked ctlaw_marked), sllaw_marked⟩) (claw_marked : PySem.W.codeIn K cdlaw_marked "_law_marked" = true) (klaw_marked : PySem.W.keepIn K (.ref flaw_marked) = true)
    (aread_marks : PySem.W.nsIn K mainGlobals "read_marks" = some (some (.ref fread_marks))) (lread_marks : K.lookup fread_marks = some ⟨ocread_marks, odread_marks, .func (PySem.W.fnOf "read_marks" "read_marks" (defArgs s_read_marks) (defBody s_read_marks) (defScope s_read_marks) .none kVread_marks dcread_marks pmread_marks anread_marks cdread_marks ctread_marks), slread_marks⟩) (cread_marks : PySem.W.codeIn K cdread_marks "read_marks" = true) (kread_marks : PySem.W.keepIn K (.ref fread_marks) = true)
    (ashow_mark : PySem.W.nsIn K mainGlobals "show_mark" = some (some (.ref fshow_mark))) (lshow_mark : K.lookup fshow_mark = some ⟨ocshow_mark, odshow_mark, .func (PySem.W.fnOf "show_mark" "show_mark" (defArgs s_show_mark) (defBody s_show_mark) (defScope s_show_mark) .none kVshow_mark dcshow_mark pmshow_mark anshow_mark cdshow_mark ctshow_mark), slshow_mark⟩) (cshow_mark : PySem.W.codeIn K cdshow_mark "show_mark" = true) (kshow_mark : PySem.W.keepIn K (.ref fshow_mark) = true)
    (ashow_marks : PySem.W.nsIn K mainGlobals "show_marks" = some (some (.ref fshow_marks))) (lshow_marks : K.lookup fshow_marks = some ⟨ocshow_marks, odshow_marks, .func (PySem.W.fnOf "show_marks" "show_marks" (defArgs s_show_marks) (defBody s_show_marks) (defScope s_show_marks) .none kVshow_marks dcshow_marks pmshow_marks anshow_marks cdshow_marks ctshow_marks), slshow_marks⟩) (cshow_marks : PySem.W.codeIn K cdshow_marks "show_marks" = true) (kshow_marks : PySem.W.keepIn K (.ref fshow_marks) = true)
    (alaw_read_marks : PySem.W.nsIn K mainGlobals "_law_read_marks" = some (some (.ref flaw_read_marks))) (llaw_read_marks : K.lookup flaw_read_marks = some ⟨oclaw_read_marks, odlaw_read_marks, .func (PySem.W.fnOf "_law_read_marks" "_law_read_marks" (defArgs s_law_read_marks) (defBody s_law_read_marks) (defScope s_law_read_marks) .none kVlaw_read_marks dclaw_read_marks pmlaw_read_marks anlaw_read_marks cdlaw_read_marks ctlaw_read_marks), sllaw_read_marks⟩) (claw_read_marks : PySem.W.codeIn K cdlaw_read_marks "_law_read_marks" = true) (klaw_read_marks : PySem.W.keepIn K (.ref flaw_read_marks) = true)
    (alaw : PySem.W.nsIn K mainGlobals "law" = some (some (.ref flaw))) (llaw : K.lookup flaw = some ⟨oclaw, odlaw, .func (PySem.W.fnOf "law" "law" (defArgs s_law) (defBody s_law) (defScope s_law) .none kVlaw dclaw pmlaw anlaw cdlaw ctlaw), sllaw⟩) (claw : PySem.W.codeIn K cdlaw "law" = true) (klaw : PySem.W.keepIn K (.ref flaw) = true)
    (z_FIGURES : PySem.W.nsIn K mainGlobals "FIGURES" = some (some (.str "0123456789" t_FIGURES)))
    (z_abs : PySem.W.nsIn K mainGlobals "abs" = some none)
    (z_bool : PySem.W.nsIn K mainGlobals "bool" = some none)
    (z_int : PySem.W.nsIn K mainGlobals "int" = some none)
    (z_isinstance : PySem.W.nsIn K mainGlobals "isinstance" = some none)
    (z_len : PySem.W.nsIn K mainGlobals "len" = some none)
    (z_list : PySem.W.nsIn K mainGlobals "list" = some none)
    (z_min : PySem.W.nsIn K mainGlobals "min" = some none)
    (z_range : PySem.W.nsIn K mainGlobals "range" = some none)
    (z_str : PySem.W.nsIn K mainGlobals "str" = some none)
    (xaRiftError : PySem.W.nsIn K mainGlobals "RiftError" = some (some (.ref CRiftError)))
    (xkRiftError : PySem.W.keepIn K (.ref CRiftError) = true)
    (xeRiftError : PySem.W.excIn K CRiftError [.type "ValueError", .type "Exception", .type "BaseException", .type "object"] "ValueError.__new__" = true)
    (xhgRiftError : PySem.W.findIn K (.ref CRiftError) "__getattribute__" = some (some (.builtin "BaseException.__getattribute__")))
    (xhkRiftError : PySem.W.findIn K (.ref CRiftError) "__getattr__" = some none)
    (xhsRiftError : PySem.W.subIn K (.ref CRiftError) (.type "BaseException") = some true)
    (xhdRiftError : PySem.W.hasDictIn K CRiftError = true)
    (xhaRiftError : PySem.W.findIn K (.ref CRiftError) "__class__" = some (some (.builtin "object.__class__")))
    (xhnRiftError : PySem.W.specialIn K (.builtin "object.__class__") "__get__" = some (some (.builtin "getset_descriptor.__get__")))
    (xhtRiftError : PySem.W.takesIn K (.builtin "object.__class__") = some true)
    (xhmRiftError : PySem.W.mroIn K CRiftError (.type "object") = some true)
    (xtyRiftError : PySem.W.typeIn K (.ref CRiftError) = some (.type "type"))
    (xveRiftError : PySem.W.subIn K (.ref CRiftError) (.type "ValueError") = some true)
    (xaNoPack : PySem.W.nsIn K mainGlobals "NoPack" = some (some (.ref CNoPack)))
    (xkNoPack : PySem.W.keepIn K (.ref CNoPack) = true)
    (xeNoPack : PySem.W.excIn K CNoPack [.type "ValueError", .type "Exception", .type "BaseException", .type "object"] "ValueError.__new__" = true)
    (xhgNoPack : PySem.W.findIn K (.ref CNoPack) "__getattribute__" = some (some (.builtin "BaseException.__getattribute__")))
    (xhkNoPack : PySem.W.findIn K (.ref CNoPack) "__getattr__" = some none)
    (xhsNoPack : PySem.W.subIn K (.ref CNoPack) (.type "BaseException") = some true)
    (xhdNoPack : PySem.W.hasDictIn K CNoPack = true)
    (xhaNoPack : PySem.W.findIn K (.ref CNoPack) "__class__" = some (some (.builtin "object.__class__")))
    (xhnNoPack : PySem.W.specialIn K (.builtin "object.__class__") "__get__" = some (some (.builtin "getset_descriptor.__get__")))
    (xhtNoPack : PySem.W.takesIn K (.builtin "object.__class__") = some true)
    (xhmNoPack : PySem.W.mroIn K CNoPack (.type "object") = some true)
    (xtyNoPack : PySem.W.typeIn K (.ref CNoPack) = some (.type "type"))
    (xveNoPack : PySem.W.subIn K (.ref CNoPack) (.type "ValueError") = some true)
    (xaNoMarks : PySem.W.nsIn K mainGlobals "NoMarks" = some (some (.ref CNoMarks)))
    (xkNoMarks : PySem.W.keepIn K (.ref CNoMarks) = true)
    (xeNoMarks : PySem.W.excIn K CNoMarks [.type "ValueError", .type "Exception", .type "BaseException", .type "object"] "ValueError.__new__" = true)
    (xhgNoMarks : PySem.W.findIn K (.ref CNoMarks) "__getattribute__" = some (some (.builtin "BaseException.__getattribute__")))
    (xhkNoMarks : PySem.W.findIn K (.ref CNoMarks) "__getattr__" = some none)
    (xhsNoMarks : PySem.W.subIn K (.ref CNoMarks) (.type "BaseException") = some true)
    (xhdNoMarks : PySem.W.hasDictIn K CNoMarks = true)
    (xhaNoMarks : PySem.W.findIn K (.ref CNoMarks) "__class__" = some (some (.builtin "object.__class__")))
    (xhnNoMarks : PySem.W.specialIn K (.builtin "object.__class__") "__get__" = some (some (.builtin "getset_descriptor.__get__")))
    (xhtNoMarks : PySem.W.takesIn K (.builtin "object.__class__") = some true)
    (xhmNoMarks : PySem.W.mroIn K CNoMarks (.type "object") = some true)
    (xtyNoMarks : PySem.W.typeIn K (.ref CNoMarks) = some (.type "type"))
    (xveNoMarks : PySem.W.subIn K (.ref CNoMarks) (.type "ValueError") = some true)
    (xaNoRiffle : PySem.W.nsIn K mainGlobals "NoRiffle" = some (some (.ref CNoRiffle)))
    (xkNoRiffle : PySem.W.keepIn K (.ref CNoRiffle) = true)
    (xeNoRiffle : PySem.W.excIn K CNoRiffle [.type "ValueError", .type "Exception", .type "BaseException", .type "object"] "ValueError.__new__" = true)
    (xhgNoRiffle : PySem.W.findIn K (.ref CNoRiffle) "__getattribute__" = some (some (.builtin "BaseException.__getattribute__")))
    (xhkNoRiffle : PySem.W.findIn K (.ref CNoRiffle) "__getattr__" = some none)
    (xhsNoRiffle : PySem.W.subIn K (.ref CNoRiffle) (.type "BaseException") = some true)
    (xhdNoRiffle : PySem.W.hasDictIn K CNoRiffle = true)
    (xhaNoRiffle : PySem.W.findIn K (.ref CNoRiffle) "__class__" = some (some (.builtin "object.__class__")))
    (xhnNoRiffle : PySem.W.specialIn K (.builtin "object.__class__") "__get__" = some (some (.builtin "getset_descriptor.__get__")))
    (xhtNoRiffle : PySem.W.takesIn K (.builtin "object.__class__") = some true)
    (xhmNoRiffle : PySem.W.mroIn K CNoRiffle (.type "object") = some true)
    (xtyNoRiffle : PySem.W.typeIn K (.ref CNoRiffle) = some (.type "type"))
    (xveNoRiffle : PySem.W.subIn K (.ref CNoRiffle) (.type "ValueError") = some true)
    (xaNoWay : PySem.W.nsIn K mainGlobals "NoWay" = some (some (.ref CNoWay)))
    (xkNoWay : PySem.W.keepIn K (.ref CNoWay) = true)
    (xeNoWay : PySem.W.excIn K CNoWay [.type "ValueError", .type "Exception", .type "BaseException", .type "object"] "ValueError.__new__" = true)
    (xhgNoWay : PySem.W.findIn K (.ref CNoWay) "__getattribute__" = some (some (.builtin "BaseException.__getattribute__")))
    (xhkNoWay : PySem.W.findIn K (.ref CNoWay) "__getattr__" = some none)
    (xhsNoWay : PySem.W.subIn K (.ref CNoWay) (.type "BaseException") = some true)
    (xhdNoWay : PySem.W.hasDictIn K CNoWay = true)
    (xhaNoWay : PySem.W.findIn K (.ref CNoWay) "__class__" = some (some (.builtin "object.__class__")))
    (xhnNoWay : PySem.W.specialIn K (.builtin "object.__class__") "__get__" = some (some (.builtin "getset_descriptor.__get__")))
    (xhtNoWay : PySem.W.takesIn K (.builtin "object.__class__") = some true)
    (xhmNoWay : PySem.W.mroIn K CNoWay (.type "object") = some true)
    (xtyNoWay : PySem.W.typeIn K (.ref CNoWay) = some (.type "type"))
    (xveNoWay : PySem.W.subIn K (.ref CNoWay) (.type "ValueError") = some true)
    (xaTooMany : PySem.W.nsIn K mainGlobals "TooMany" = some (some (.ref CTooMany)))
    (xkTooMany : PySem.W.keepIn K (.ref CTooMany) = true)
    (xeTooMany : PySem.W.excIn K CTooMany [.type "ValueError", .type "Exception", .type "BaseException", .type "object"] "ValueError.__new__" = true)
    (xhgTooMany : PySem.W.findIn K (.ref CTooMany) "__getattribute__" = some (some (.builtin "BaseException.__getattribute__")))
    (xhkTooMany : PySem.W.findIn K (.ref CTooMany) "__getattr__" = some none)
    (xhsTooMany : PySem.W.subIn K (.ref CTooMany) (.type "BaseException") = some true)
    (xhdTooMany : PySem.W.hasDictIn K CTooMany = true)
    (xhaTooMany : PySem.W.findIn K (.ref CTooMany) "__class__" = some (some (.builtin "object.__class__")))
    (xhnTooMany : PySem.W.specialIn K (.builtin "object.__class__") "__get__" = some (some (.builtin "getset_descriptor.__get__")))
    (xhtTooMany : PySem.W.takesIn K (.builtin "object.__class__") = some true)
    (xhmTooMany : PySem.W.mroIn K CTooMany (.type "object") = some true)
    (xtyTooMany : PySem.W.typeIn K (.ref CTooMany) = some (.type "type"))
    (xveTooMany : PySem.W.subIn K (.ref CTooMany) (.type "ValueError") = some true)
    (xaNoFigures : PySem.W.nsIn K mainGlobals "NoFigures" = some (some (.ref CNoFigures)))
    (xkNoFigures : PySem.W.keepIn K (.ref CNoFigures) = true)
    (xeNoFigures : PySem.W.excIn K CNoFigures [.type "ValueError", .type "Exception", .type "BaseException", .type "object"] "ValueError.__new__" = true)
    (xhgNoFigures : PySem.W.findIn K (.ref CNoFigures) "__getattribute__" = some (some (.builtin "BaseException.__getattribute__")))
    (xhkNoFigures : PySem.W.findIn K (.ref CNoFigures) "__getattr__" = some none)
    (xhsNoFigures : PySem.W.subIn K (.ref CNoFigures) (.type "BaseException") = some true)
    (xhdNoFigures : PySem.W.hasDictIn K CNoFigures = true)
    (xhaNoFigures : PySem.W.findIn K (.ref CNoFigures) "__class__" = some (some (.builtin "object.__class__")))
    (xhnNoFigures : PySem.W.specialIn K (.builtin "object.__class__") "__get__" = some (some (.builtin "getset_descriptor.__get__")))
    (xhtNoFigures : PySem.W.takesIn K (.builtin "object.__class__") = some true)
    (xhmNoFigures : PySem.W.mroIn K CNoFigures (.type "object") = some true)
    (xtyNoFigures : PySem.W.typeIn K (.ref CNoFigures) = some (.type "type"))
    (xveNoFigures : PySem.W.subIn K (.ref CNoFigures) (.type "ValueError") = some true)
    (xaNoText : PySem.W.nsIn K mainGlobals "NoText" = some (some (.ref CNoText)))
    (xkNoText : PySem.W.keepIn K (.ref CNoText) = true)
    (xeNoText : PySem.W.excIn K CNoText [.type "ValueError", .type "Exception", .type "BaseException", .type "object"] "ValueError.__new__" = true)
    (xhgNoText : PySem.W.findIn K (.ref CNoText) "__getattribute__" = some (some (.builtin "BaseException.__getattribute__")))
    (xhkNoText : PySem.W.findIn K (.ref CNoText) "__getattr__" = some none)
    (xhsNoText : PySem.W.subIn K (.ref CNoText) (.type "BaseException") = some true)
    (xhdNoText : PySem.W.hasDictIn K CNoText = true)
    (xhaNoText : PySem.W.findIn K (.ref CNoText) "__class__" = some (some (.builtin "object.__class__")))
    (xhnNoText : PySem.W.specialIn K (.builtin "object.__class__") "__get__" = some (some (.builtin "getset_descriptor.__get__")))
    (xhtNoText : PySem.W.takesIn K (.builtin "object.__class__") = some true)
    (xhmNoText : PySem.W.mroIn K CNoText (.type "object") = some true)
    (xtyNoText : PySem.W.typeIn K (.ref CNoText) = some (.type "type"))
    (xveNoText : PySem.W.subIn K (.ref CNoText) (.type "ValueError") = some true)
    (yNoTextNoFigures : PySem.W.subIn K (.ref CNoText) (.ref CNoFigures) = some false)
    (zNoTextNoFigures : CNoText ≠ CNoFigures)
    (yNoTextNoMarks : PySem.W.subIn K (.ref CNoText) (.ref CNoMarks) = some false)
    (zNoTextNoMarks : CNoText ≠ CNoMarks)
    (yNoTextNoPack : PySem.W.subIn K (.ref CNoText) (.ref CNoPack) = some false)
    (zNoTextNoPack : CNoText ≠ CNoPack)
    (yNoTextNoRiffle : PySem.W.subIn K (.ref CNoText) (.ref CNoRiffle) = some false)
    (zNoTextNoRiffle : CNoText ≠ CNoRiffle)
    (yNoTextNoText : PySem.W.subIn K (.ref CNoText) (.ref CNoText) = some true)
    (yNoTextNoWay : PySem.W.subIn K (.ref CNoText) (.ref CNoWay) = some false)
    (zNoTextNoWay : CNoText ≠ CNoWay)
    (yNoTextRiftError : PySem.W.subIn K (.ref CNoText) (.ref CRiftError) = some true)
    (yNoTextTooMany : PySem.W.subIn K (.ref CNoText) (.ref CTooMany) = some false)
    (zNoTextTooMany : CNoText ≠ CTooMany) :
    ∃ fd : FuncData, (∀ (s : Shared) (v : Value), BindsTo s fd ⟨[v], []⟩ [("_law_script", v)]) ∧ ∀ base : Heap, K.In base → base.Ns mainGlobals mg → FnOk l.prog w K mg base CX0 4 fa fd ["_law_script"] (sp_law K) := by
  have e := hfa.symm.trans (PySem.W.mg_of X G alaw)
  cases e
  exact ⟨PySem.W.fnOf "law" "law" (defArgs s_law) (defBody s_law) (defScope s_law) .none kVlaw dclaw pmlaw anlaw cdlaw ctlaw, fun s v => .of_eq rfl, fun base _ _ => ok_law (P := l.prog) (w := w) (base := base) (K := K) (mg := mg) { f_law_cell_at := flaw_cell_at, fd_law_cell_at := _, F_law_cell_at := fun_mk (st := s_law_cell_at) llaw_cell_at claw_cell_at klaw_cell_at, g_law_cell_at := PySem.W.mg_of X G alaw_cell_at, b_law_cell_at := ((fun_mk (st := s_law_cell_at) llaw_cell_at claw_cell_at klaw_cell_at).binds (ps := ["_law_script", "_law_k"]) (fun _ _ _ _ _ _ us hl => match us, hl with | [_, _], _ => rfl)), f_law_mixed := flaw_mixed, fd_law_mixed := _, F_law_mixed := fun_mk (st := s_law_mixed) llaw_mixed claw_mixed klaw_mixed, g_law_mixed := PySem.W.mg_of X G alaw_mixed, b_law_mixed := ((fun_mk (st := s_law_mixed) llaw_mixed claw_mixed klaw_mixed).binds (ps := ["_law_cell", "_law_k"]) (fun _ _ _ _ _ _ us hl => match us, hl with | [_, _], _ => rfl)), f_law_written := flaw_written, fd_law_written := _, F_law_written := fun_mk (st := s_law_written) llaw_written claw_written klaw_written, g_law_written := PySem.W.mg_of X G alaw_written, b_law_written := ((fun_mk (st := s_law_written) llaw_written claw_written klaw_written).binds (ps := ["_law_cell", "_law_most"]) (fun _ _ _ _ _ _ us hl => match us, hl with | [_, _], _ => rfl)), f_law_number := flaw_number, fd_law_number := _, F_law_number := fun_mk (st := s_law_number) llaw_number claw_number klaw_number, g_law_number := PySem.W.mg_of X G alaw_number, b_law_number := ((fun_mk (st := s_law_number) llaw_number claw_number klaw_number).binds (ps := ["_law_text"]) (fun _ _ _ _ _ _ us hl => match us, hl with | [_], _ => rfl)), f_law_drawn := flaw_drawn, fd_law_drawn := _, F_law_drawn := fun_mk (st := s_law_drawn) llaw_drawn claw_drawn klaw_drawn, g_law_drawn := PySem.W.mg_of X G alaw_drawn, b_law_drawn := ((fun_mk (st := s_law_drawn) llaw_drawn claw_drawn klaw_drawn).binds (ps := ["_law_cell"]) (fun _ _ _ _ _ _ us hl => match us, hl with | [_], _ => rfl)), f_law_spoilt := flaw_spoilt, fd_law_spoilt := _, F_law_spoilt := fun_mk (st := s_law_spoilt) llaw_spoilt claw_spoilt klaw_spoilt, g_law_spoilt := PySem.W.mg_of X G alaw_spoilt, b_law_spoilt := ((fun_mk (st := s_law_spoilt) llaw_spoilt claw_spoilt klaw_spoilt).binds (ps := ["_law_text", "_law_cell"]) (fun _ _ _ _ _ _ us hl => match us, hl with | [_, _], _ => rfl)), f_read_number := fread_number, fd_read_number := _, F_read_number := fun_mk (st := s_read_number) lread_number cread_number kread_number, g_read_number := PySem.W.mg_of X G aread_number, b_read_number := ((fun_mk (st := s_read_number) lread_number cread_number kread_number).binds (ps := ["word"]) (fun _ _ _ _ _ _ us hl => match us, hl with | [_], _ => rfl)), f_law_other := flaw_other, fd_law_other := _, F_law_other := fun_mk (st := s_law_other) llaw_other claw_other klaw_other, g_law_other := PySem.W.mg_of X G alaw_other, b_law_other := ((fun_mk (st := s_law_other) llaw_other claw_other klaw_other).binds (ps := ["_law_e"]) (fun _ _ _ _ _ _ us hl => match us, hl with | [_], _ => rfl)), f_law_read := flaw_read, fd_law_read := _, F_law_read := fun_mk (st := s_law_read) llaw_read claw_read klaw_read, g_law_read := PySem.W.mg_of X G alaw_read, b_law_read := ((fun_mk (st := s_law_read) llaw_read claw_read klaw_read).binds (ps := ["_law_text"]) (fun _ _ _ _ _ _ us hl => match us, hl with | [_], _ => rfl)), f_law_marked := flaw_marked, fd_law_marked := _, F_law_marked := fun_mk (st := s_law_marked) llaw_marked claw_marked klaw_marked, g_law_marked := PySem.W.mg_of X G alaw_marked, b_law_marked := ((fun_mk (st := s_law_marked) llaw_marked claw_marked klaw_marked).binds (ps := ["_law_text"]) (fun _ _ _ _ _ _ us hl => match us, hl with | [_], _ => rfl)), f_read_marks := fread_marks, fd_read_marks := _, F_read_marks := fun_mk (st := s_read_marks) lread_marks cread_marks kread_marks, g_read_marks := PySem.W.mg_of X G aread_marks, b_read_marks := ((fun_mk (st := s_read_marks) lread_marks cread_marks kread_marks).binds (ps := ["word"]) (fun _ _ _ _ _ _ us hl => match us, hl with | [_], _ => rfl)), f_show_mark := fshow_mark, fd_show_mark := _, F_show_mark := fun_mk (st := s_show_mark) lshow_mark cshow_mark kshow_mark, g_show_mark := PySem.W.mg_of X G ashow_mark, b_show_mark := ((fun_mk (st := s_show_mark) lshow_mark cshow_mark kshow_mark).binds (ps := ["mark"]) (fun _ _ _ _ _ _ us hl => match us, hl with | [_], _ => rfl)), f_show_marks := fshow_marks, fd_show_marks := _, F_show_marks := fun_mk (st := s_show_marks) lshow_marks cshow_marks kshow_marks, g_show_marks := PySem.W.mg_of X G ashow_marks, b_show_marks := ((fun_mk (st := s_show_marks) lshow_marks cshow_marks kshow_marks).binds (ps := ["marks"]) (fun _ _ _ _ _ _ us hl => match us, hl with | [_], _ => rfl)), f_law_read_marks := flaw_read_marks, fd_law_read_marks := _, F_law_read_marks := fun_mk (st := s_law_read_marks) llaw_read_marks claw_read_marks klaw_read_marks, g_law_read_marks := PySem.W.mg_of X G alaw_read_marks, b_law_read_marks := ((fun_mk (st := s_law_read_marks) llaw_read_marks claw_read_marks klaw_read_marks).binds (ps := ["_law_text"]) (fun _ _ _ _ _ _ us hl => match us, hl with | [_], _ => rfl)), f_law := fa, fd_law := _, F_law := fun_mk (st := s_law) llaw claw klaw, g_law := PySem.W.mg_of X G alaw, b_law := ((fun_mk (st := s_law) llaw claw klaw).binds (ps := ["_law_script"]) (fun _ _ _ _ _ _ us hl => match us, hl with | [_], _ => rfl)), u_FIGURES := _, c_FIGURES := PySem.W.mg_of X G z_FIGURES, r_FIGURES := ⟨_, rfl⟩, m_abs := PySem.W.mg_none_of X G z_abs, m_bool := PySem.W.mg_none_of X G z_bool, m_int := PySem.W.mg_none_of X G z_int, m_isinstance := PySem.W.mg_none_of X G z_isinstance, m_len := PySem.W.mg_none_of X G z_len, m_list := PySem.W.mg_none_of X G z_list, m_min := PySem.W.mg_none_of X G z_min, m_range := PySem.W.mg_none_of X G z_range, m_str := PySem.W.mg_none_of X G z_str, C_RiftError := CRiftError, X_RiftError := ⟨PySem.W.mg_of X G xaRiftError, xkRiftError, xeRiftError, ⟨xhgRiftError, xhkRiftError, xhsRiftError, xhdRiftError, xhaRiftError, xhnRiftError, xhtRiftError, xhmRiftError⟩, xtyRiftError, xveRiftError⟩, C_NoPack := CNoPack, X_NoPack := ⟨PySem.W.mg_of X G xaNoPack, xkNoPack, xeNoPack, ⟨xhgNoPack, xhkNoPack, xhsNoPack, xhdNoPack, xhaNoPack, xhnNoPack, xhtNoPack, xhmNoPack⟩, xtyNoPack, xveNoPack⟩, C_NoMarks := CNoMarks, X_NoMarks := ⟨PySem.W.mg_of X G xaNoMarks, xkNoMarks, xeNoMarks, ⟨xhgNoMarks, xhkNoMarks, xhsNoMarks, xhdNoMarks, xhaNoMarks, xhnNoMarks, xhtNoMarks, xhmNoMarks⟩, xtyNoMarks, xveNoMarks⟩, C_NoRiffle := CNoRiffle, X_NoRiffle := ⟨PySem.W.mg_of X G xaNoRiffle, xkNoRiffle, xeNoRiffle, ⟨xhgNoRiffle, xhkNoRiffle, xhsNoRiffle, xhdNoRiffle, xhaNoRiffle, xhnNoRiffle, xhtNoRiffle, xhmNoRiffle⟩, xtyNoRiffle, xveNoRiffle⟩, C_NoWay := CNoWay, X_NoWay := ⟨PySem.W.mg_of X G xaNoWay, xkNoWay, xeNoWay, ⟨xhgNoWay, xhkNoWay, xhsNoWay, xhdNoWay, xhaNoWay, xhnNoWay, xhtNoWay, xhmNoWay⟩, xtyNoWay, xveNoWay⟩, C_TooMany := CTooMany, X_TooMany := ⟨PySem.W.mg_of X G xaTooMany, xkTooMany, xeTooMany, ⟨xhgTooMany, xhkTooMany, xhsTooMany, xhdTooMany, xhaTooMany, xhnTooMany, xhtTooMany, xhmTooMany⟩, xtyTooMany, xveTooMany⟩, C_NoFigures := CNoFigures, X_NoFigures := ⟨PySem.W.mg_of X G xaNoFigures, xkNoFigures, xeNoFigures, ⟨xhgNoFigures, xhkNoFigures, xhsNoFigures, xhdNoFigures, xhaNoFigures, xhnNoFigures, xhtNoFigures, xhmNoFigures⟩, xtyNoFigures, xveNoFigures⟩, C_NoText := CNoText, X_NoText := ⟨PySem.W.mg_of X G xaNoText, xkNoText, xeNoText, ⟨xhgNoText, xhkNoText, xhsNoText, xhdNoText, xhaNoText, xhnNoText, xhtNoText, xhmNoText⟩, xtyNoText, xveNoText⟩, S_NoText_NoFigures := yNoTextNoFigures, N_NoText_NoFigures := zNoTextNoFigures, S_NoText_NoMarks := yNoTextNoMarks, N_NoText_NoMarks := zNoTextNoMarks, S_NoText_NoPack := yNoTextNoPack, N_NoText_NoPack := zNoTextNoPack, S_NoText_NoRiffle := yNoTextNoRiffle, N_NoText_NoRiffle := zNoTextNoRiffle, S_NoText_NoText := yNoTextNoText, S_NoText_NoWay := yNoTextNoWay, N_NoText_NoWay := zNoTextNoWay, S_NoText_RiftError := yNoTextRiftError, S_NoText_TooMany := yNoTextTooMany, N_NoText_TooMany := zNoTextTooMany }⟩
end Rc
open PySem PySem.W PyProof.Rows
set_option maxHeartbeats 0 in
theorem PySem.Challenge.cw_riftcarry_k91_numbers_and_marks_read_holds : PySem.Challenge.rw_riftcarry_k91_numbers_and_marks_read.Holds := by
  w_on; o_law; k_head; (case hw => w_witness2)
  k_fill
  refine L2.walk_of (l := PySem.Challenge.rw_riftcarry_k91_numbers_and_marks_read) (n := 63) (k := 4) (x := "_law_script") (CX := fun _ => L2.CX0) (sp := fun w => Rc.sp_law _) rfl (by decide) rfl ⟨rfl, by decide, by decide⟩ (fun w h Y => PySem.W.kIn_of Y) ?F (fun _ _ a ns hl _ hS => ⟨a, ns, rfl, hS, hl, fun _ _ e _ => by rw [e]⟩) (fun _ _ _ _ _ h => h)
  case F =>
    intro w mg fa h KX G hmg
    refine' Rc.all_mk KX G hmg ?alaw_cell_at ?llaw_cell_at ?claw_cell_at ?klaw_cell_at ?alaw_mixed ?llaw_mixed ?claw_mixed ?klaw_mixed ?alaw_written ?llaw_written ?claw_written ?klaw_written ?alaw_number ?llaw_number ?claw_number ?klaw_number ?alaw_drawn ?llaw_drawn ?claw_drawn ?klaw_drawn ?alaw_spoilt ?llaw_spoilt ?claw_spoilt ?klaw_spoilt ?aread_number ?lread_number ?cread_number ?kread_number ?alaw_other ?llaw_other ?claw_other ?klaw_other ?alaw_read ?llaw_read ?claw_read ?klaw_read ?alaw_marked ?llaw_marked ?claw_marked ?klaw_marked ?aread_marks ?lread_marks ?cread_marks ?kread_marks ?ashow_mark ?lshow_mark ?cshow_mark ?kshow_mark ?ashow_marks ?lshow_marks ?cshow_marks ?kshow_marks ?alaw_read_marks ?llaw_read_marks ?claw_read_marks ?klaw_read_marks ?alaw ?llaw ?claw ?klaw ?z_FIGURES ?z_abs ?z_bool ?z_int ?z_isinstance ?z_len ?z_list ?z_min ?z_range ?z_str ?xaRiftError ?xkRiftError ?xeRiftError ?xhgRiftError ?xhkRiftError ?xhsRiftError ?xhdRiftError ?xhaRiftError ?xhnRiftError ?xhtRiftError ?xhmRiftError ?xtyRiftError ?xveRiftError ?xaNoPack ?xkNoPack ?xeNoPack ?xhgNoPack ?xhkNoPack ?xhsNoPack ?xhdNoPack ?xhaNoPack ?xhnNoPack ?xhtNoPack ?xhmNoPack ?xtyNoPack ?xveNoPack ?xaNoMarks ?xkNoMarks ?xeNoMarks ?xhgNoMarks ?xhkNoMarks ?xhsNoMarks ?xhdNoMarks ?xhaNoMarks ?xhnNoMarks ?xhtNoMarks ?xhmNoMarks ?xtyNoMarks ?xveNoMarks ?xaNoRiffle ?xkNoRiffle ?xeNoRiffle ?xhgNoRiffle ?xhkNoRiffle ?xhsNoRiffle ?xhdNoRiffle ?xhaNoRiffle ?xhnNoRiffle ?xhtNoRiffle ?xhmNoRiffle ?xtyNoRiffle ?xveNoRiffle ?xaNoWay ?xkNoWay ?xeNoWay ?xhgNoWay ?xhkNoWay ?xhsNoWay ?xhdNoWay ?xhaNoWay ?xhnNoWay ?xhtNoWay ?xhmNoWay ?xtyNoWay ?xveNoWay ?xaTooMany ?xkTooMany ?xeTooMany ?xhgTooMany ?xhkTooMany ?xhsTooMany ?xhdTooMany ?xhaTooMany ?xhnTooMany ?xhtTooMany ?xhmTooMany ?xtyTooMany ?xveTooMany ?xaNoFigures ?xkNoFigures ?xeNoFigures ?xhgNoFigures ?xhkNoFigures ?xhsNoFigures ?xhdNoFigures ?xhaNoFigures ?xhnNoFigures ?xhtNoFigures ?xhmNoFigures ?xtyNoFigures ?xveNoFigures ?xaNoText ?xkNoText ?xeNoText ?xhgNoText ?xhkNoText ?xhsNoText ?xhdNoText ?xhaNoText ?xhnNoText ?xhtNoText ?xhmNoText ?xtyNoText ?xveNoText ?yNoTextNoFigures ?zNoTextNoFigures ?yNoTextNoMarks ?zNoTextNoMarks ?yNoTextNoPack ?zNoTextNoPack ?yNoTextNoRiffle ?zNoTextNoRiffle ?yNoTextNoText ?yNoTextNoWay ?zNoTextNoWay ?yNoTextRiftError ?yNoTextTooMany ?zNoTextTooMany
    (case alaw_cell_at => k_is); (case llaw_cell_at => k_is); (case claw_cell_at => k_is); (case klaw_cell_at => k_is); (case alaw_mixed => k_is); (case llaw_mixed => k_is); (case claw_mixed => k_is); (case klaw_mixed => k_is); (case alaw_written => k_is); (case llaw_written => k_is); (case claw_written => k_is); (case klaw_written => k_is); (case alaw_number => k_is); (case llaw_number => k_is); (case claw_number => k_is); (case klaw_number => k_is); (case alaw_drawn => k_is); (case llaw_drawn => k_is); (case claw_drawn => k_is); (case klaw_drawn => k_is); (case alaw_spoilt => k_is); (case llaw_spoilt => k_is); (case claw_spoilt => k_is); (case klaw_spoilt => k_is); (case aread_number => k_is); (case lread_number => k_is); (case cread_number => k_is); (case kread_number => k_is); (case alaw_other => k_is); (case llaw_other => k_is); (case claw_other => k_is); (case klaw_other => k_is); (case alaw_read => k_is); (case llaw_read => k_is); (case claw_read => k_is); (case klaw_read => k_is); (case alaw_marked => k_is); (case llaw_marked => k_is); (case claw_marked => k_is); (case klaw_marked => k_is); (case aread_marks => k_is); (case lread_marks => k_is); (case cread_marks => k_is); (case kread_marks => k_is); (case ashow_mark => k_is); (case lshow_mark => k_is); (case cshow_mark => k_is); (case kshow_mark => k_is); (case ashow_marks => k_is); (case lshow_marks => k_is); (case cshow_marks => k_is); (case kshow_marks => k_is); (case alaw_read_marks => k_is); (case llaw_read_marks => k_is); (case claw_read_marks => k_is); (case klaw_read_marks => k_is); (case alaw => k_is); (case llaw => k_is); (case claw => k_is); (case klaw => k_is); (case z_FIGURES => k_is); (case z_abs => k_is); (case z_bool => k_is); (case z_int => k_is); (case z_isinstance => k_is); (case z_len => k_is); (case z_list => k_is); (case z_min => k_is); (case z_range => k_is); (case z_str => k_is); (case xaRiftError => k_is); (case xkRiftError => k_is); (case xeRiftError => k_exc); (case xhgRiftError => k_is); (case xhkRiftError => k_is); (case xhsRiftError => k_is); (case xhdRiftError => k_is); (case xhaRiftError => k_is); (case xhnRiftError => k_is); (case xhtRiftError => k_is); (case xhmRiftError => k_is); (case xtyRiftError => k_is); (case xveRiftError => k_is); (case xaNoPack => k_is); (case xkNoPack => k_is); (case xeNoPack => k_exc); (case xhgNoPack => k_is); (case xhkNoPack => k_is); (case xhsNoPack => k_is); (case xhdNoPack => k_is); (case xhaNoPack => k_is); (case xhnNoPack => k_is); (case xhtNoPack => k_is); (case xhmNoPack => k_is); (case xtyNoPack => k_is); (case xveNoPack => k_is); (case xaNoMarks => k_is); (case xkNoMarks => k_is); (case xeNoMarks => k_exc); (case xhgNoMarks => k_is); (case xhkNoMarks => k_is); (case xhsNoMarks => k_is); (case xhdNoMarks => k_is); (case xhaNoMarks => k_is); (case xhnNoMarks => k_is); (case xhtNoMarks => k_is); (case xhmNoMarks => k_is); (case xtyNoMarks => k_is); (case xveNoMarks => k_is); (case xaNoRiffle => k_is); (case xkNoRiffle => k_is); (case xeNoRiffle => k_exc); (case xhgNoRiffle => k_is); (case xhkNoRiffle => k_is); (case xhsNoRiffle => k_is); (case xhdNoRiffle => k_is); (case xhaNoRiffle => k_is); (case xhnNoRiffle => k_is); (case xhtNoRiffle => k_is); (case xhmNoRiffle => k_is); (case xtyNoRiffle => k_is); (case xveNoRiffle => k_is); (case xaNoWay => k_is); (case xkNoWay => k_is); (case xeNoWay => k_exc); (case xhgNoWay => k_is); (case xhkNoWay => k_is); (case xhsNoWay => k_is); (case xhdNoWay => k_is); (case xhaNoWay => k_is); (case xhnNoWay => k_is); (case xhtNoWay => k_is); (case xhmNoWay => k_is); (case xtyNoWay => k_is); (case xveNoWay => k_is); (case xaTooMany => k_is); (case xkTooMany => k_is); (case xeTooMany => k_exc); (case xhgTooMany => k_is); (case xhkTooMany => k_is); (case xhsTooMany => k_is); (case xhdTooMany => k_is); (case xhaTooMany => k_is); (case xhnTooMany => k_is); (case xhtTooMany => k_is); (case xhmTooMany => k_is); (case xtyTooMany => k_is); (case xveTooMany => k_is); (case xaNoFigures => k_is); (case xkNoFigures => k_is); (case xeNoFigures => k_exc); (case xhgNoFigures => k_is); (case xhkNoFigures => k_is); (case xhsNoFigures => k_is); (case xhdNoFigures => k_is); (case xhaNoFigures => k_is); (case xhnNoFigures => k_is); (case xhtNoFigures => k_is); (case xhmNoFigures => k_is); (case xtyNoFigures => k_is); (case xveNoFigures => k_is); (case xaNoText => k_is); (case xkNoText => k_is); (case xeNoText => k_exc); (case xhgNoText => k_is); (case xhkNoText => k_is); (case xhsNoText => k_is); (case xhdNoText => k_is); (case xhaNoText => k_is); (case xhnNoText => k_is); (case xhtNoText => k_is); (case xhmNoText => k_is); (case xtyNoText => k_is); (case xveNoText => k_is); (case yNoTextNoFigures => k_is); (case zNoTextNoFigures => decide); (case yNoTextNoMarks => k_is); (case zNoTextNoMarks => decide); (case yNoTextNoPack => k_is); (case zNoTextNoPack => decide); (case yNoTextNoRiffle => k_is); (case zNoTextNoRiffle => decide); (case yNoTextNoText => k_is); (case yNoTextNoWay => k_is); (case zNoTextNoWay => decide); (case yNoTextRiftError => k_is); (case yNoTextTooMany => k_is); (case zNoTextTooMany => decide)
