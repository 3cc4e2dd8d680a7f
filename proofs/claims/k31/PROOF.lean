import PyProof.Rows.All
import Wide.All
import OpenK.AllK
import Wide.FinOn
import HandS.ForMost
import HandS.IsInst
import HandS.Conv
import HandS.Wide
import HandS.WideBits
import HandS.Evl
import HandS.Walk
import HandS.SortInts
import HandS.SetFor
import HandS.Style
import HandS.Rev
import HandS.RevTup
import PySem.Challenge.RW_riftcarry_k31_joined_marks
set_option Elab.async false
set_option linter.all false
set_option maxRecDepth 100000
set_option maxHeartbeats 4000000
namespace Rc
open PySem PySem.Spec PyProof.Rows L2

/-! frames: H grew out of H0; own lists the objects that are new since then -/
structure Fr (H0 H : Hp) (own : List (Addr × HO)) : Prop where
  same : Same H0 H
  frs : ∀ p ∈ own, H0 p.1 = none ∧ H p.1 = some p.2
  nd : (own.map (·.1)).Nodup

section
variable {H0 H H' : Hp} {own : List (Addr × HO)} {p q r t : Addr} {o o' u v x : HO}
theorem same_new (h : H p = none) : Same H (upd H p o) := fun b x e => by
  rw [upd_ne (ne_of_none e h)]; exact e
theorem Fr.nil (H : Hp) : Fr H H [] := ⟨Same.refl H, (fun _ h => nomatch h), List.nodup_nil⟩
theorem Fr.fresh (f : Fr H0 H own) (h : H p = none) : H0 p = none := f.same.free h
theorem Fr.notin (f : Fr H0 H own) (h : H p = none) : p ∉ own.map (·.1) := fun hm => by
  obtain ⟨z, hz, rfl⟩ := List.mem_map.mp hm
  rw [(f.frs z hz).2] at h; cases h
theorem Fr.call (f : Fr H0 H own) (s : Same H H') : Fr H0 H' own :=
  ⟨f.same.trans s, fun z hz => ⟨(f.frs z hz).1, s _ _ (f.frs z hz).2⟩, f.nd⟩
theorem Fr.cnew (f : Fr H0 H own) (s : Same H H') (h : H p = none) (e : H' p = some o) : Fr H0 H' ((p, o) :: own) :=
  ⟨f.same.trans s, fun z hz => by
    rcases List.mem_cons.mp hz with rfl | hz
    · exact ⟨f.fresh h, e⟩
    · exact ⟨(f.frs z hz).1, s _ _ (f.frs z hz).2⟩, List.nodup_cons.mpr ⟨f.notin h, f.nd⟩⟩
theorem Fr.new (f : Fr H0 H own) (h : H p = none) : Fr H0 (upd H p o) ((p, o) :: own) := f.cnew (same_new h) h upd_same
theorem Fr.tmp (f : Fr H0 H own) (h : H p = none) : Fr H0 (upd H p o) own := f.call (same_new h)
theorem Fr.sub {own' : List (Addr × HO)} (f : Fr H0 H own) (h : own'.Sublist own) : Fr H0 H own' :=
  ⟨f.same, fun z hz => f.frs z (h.subset hz), f.nd.sublist (h.map _)⟩
theorem Fr.perm {own' : List (Addr × HO)} (f : Fr H0 H own) (h : own.Perm own') : Fr H0 H own' :=
  ⟨f.same, fun z hz => f.frs z (h.mem_iff.mpr hz), (h.map _).nodup_iff.mp f.nd⟩
theorem Fr.mem (f : Fr H0 H own) (h : (p, o) ∈ own) : H p = some o := (f.frs _ h).2
theorem Fr.wr (f : Fr H0 H ((p, o) :: own)) : Fr H0 (upd H p o') ((p, o') :: own) := by
  have hn := List.nodup_cons.mp f.nd
  refine ⟨fun b z e => ?_, fun z hz => ?_, f.nd⟩
  · have : b ≠ p := fun h => by subst h; rw [(f.frs (b, o) List.mem_cons_self).1] at e; cases e
    rw [upd_ne this]; exact f.same _ _ e
  · rcases List.mem_cons.mp hz with rfl | hz
    · exact ⟨(f.frs (p, o) List.mem_cons_self).1, upd_same⟩
    · have : z.1 ≠ p := fun h => hn.1 (List.mem_map.mpr ⟨z, hz, h⟩)
      rw [upd_ne this]
      exact f.frs z (List.mem_cons_of_mem _ hz)
theorem Fr.cast (f : Fr H0 H ((p, o) :: own)) (e : o = o') : Fr H0 H ((p, o') :: own) := e ▸ f
/-- bring the k-th to the front, and back -/
theorem Fr.up1 {a b : Addr × HO} (f : Fr H0 H (a :: b :: own)) : Fr H0 H (b :: a :: own) := f.perm (List.Perm.swap _ _ _)
theorem Fr.up2 {a b c : Addr × HO} (f : Fr H0 H (a :: b :: c :: own)) : Fr H0 H (c :: a :: b :: own) :=
  f.perm ((List.Perm.swap c b own).cons a |>.trans (List.Perm.swap c a (b :: own)))
theorem Fr.up3 {a b c d : Addr × HO} (f : Fr H0 H (a :: b :: c :: d :: own)) : Fr H0 H (d :: a :: b :: c :: own) :=
  f.perm (((List.Perm.swap d c own).cons b |>.trans (List.Perm.swap d b (c :: own))).cons a |>.trans (List.Perm.swap d a (b :: c :: own)))
theorem Fr.dn1 {a b : Addr × HO} (f : Fr H0 H (b :: a :: own)) : Fr H0 H (a :: b :: own) := f.up1
theorem Fr.dn2 {a b c : Addr × HO} (f : Fr H0 H (c :: a :: b :: own)) : Fr H0 H (a :: b :: c :: own) := f.up1.perm ((List.Perm.swap _ _ _).cons _)
theorem Fr.dn3 {a b c d : Addr × HO} (f : Fr H0 H (d :: a :: b :: c :: own)) : Fr H0 H (a :: b :: c :: d :: own) :=
  f.up1.perm (((List.Perm.swap _ _ _).trans ((List.Perm.swap _ _ _).cons _)).cons _)
theorem Fr.at0 (f : Fr H0 H ((p, o) :: own)) : H p = some o := f.mem List.mem_cons_self
theorem Fr.at1 {a : Addr × HO} (f : Fr H0 H (a :: (p, o) :: own)) : H p = some o := f.up1.at0
theorem Fr.at2 {a b : Addr × HO} (f : Fr H0 H (a :: b :: (p, o) :: own)) : H p = some o := f.up2.at0
theorem Fr.at3 {a b c : Addr × HO} (f : Fr H0 H (a :: b :: c :: (p, o) :: own)) : H p = some o := f.up3.at0
theorem Fr.at4 {a b c d : Addr × HO} (f : Fr H0 H (a :: b :: c :: d :: (p, o) :: own)) : H p = some o := (f.sub (List.sublist_cons_self _ _)).at3
theorem Fr.at5 {a b c d e : Addr × HO} (f : Fr H0 H (a :: b :: c :: d :: e :: (p, o) :: own)) : H p = some o := (f.sub (List.sublist_cons_self _ _)).at4
theorem Fr.d0 {a : Addr × HO} (f : Fr H0 H (a :: own)) : Fr H0 H own := f.sub (List.sublist_cons_self _ _)
theorem Fr.d1 {a b : Addr × HO} (f : Fr H0 H (a :: b :: own)) : Fr H0 H (a :: own) := f.up1.d0
theorem Fr.d2 {a b c : Addr × HO} (f : Fr H0 H (a :: b :: c :: own)) : Fr H0 H (a :: b :: own) := f.up2.d0
theorem Fr.d3 {a b c d : Addr × HO} (f : Fr H0 H (a :: b :: c :: d :: own)) : Fr H0 H (a :: b :: c :: own) := f.up3.d0
theorem Fr.wr1 {a : Addr × HO} (f : Fr H0 H (a :: (p, o) :: own)) : Fr H0 (upd H p o') (a :: (p, o') :: own) := f.up1.wr.dn1
theorem Fr.wr2 {a b : Addr × HO} (f : Fr H0 H (a :: b :: (p, o) :: own)) : Fr H0 (upd H p o') (a :: b :: (p, o') :: own) := f.up2.wr.dn2
theorem Fr.wr3 {a b c : Addr × HO} (f : Fr H0 H (a :: b :: c :: (p, o) :: own)) : Fr H0 (upd H p o') (a :: b :: c :: (p, o') :: own) := f.up3.wr.dn3
theorem Fr.cs1 {a : Addr × HO} (f : Fr H0 H (a :: (p, o) :: own)) (e : o = o') : Fr H0 H (a :: (p, o') :: own) := e ▸ f
theorem Fr.cs2 {a b : Addr × HO} (f : Fr H0 H (a :: b :: (p, o) :: own)) (e : o = o') : Fr H0 H (a :: b :: (p, o') :: own) := e ▸ f
theorem Fr.cs3 {a b c : Addr × HO} (f : Fr H0 H (a :: b :: c :: (p, o) :: own)) (e : o = o') : Fr H0 H (a :: b :: c :: (p, o') :: own) := e ▸ f
end

/-! contents -/
theorem app_map {α β : Type} (f : α → β) (xs : List α) (y : α) : xs.map f ++ [f y] = (xs ++ [y]).map f := by simp
theorem set_map' {α β : Type} (f : α → β) (xs : List α) (j : Nat) (y : α) : (xs.map f).set j (f y) = (xs.set j y).map f := by rw [List.map_set]
theorem lst_app {α : Type} (f : α → V) (xs : List α) (y : α) : HO.lst (xs.map f ++ [f y]) = .lst ((xs ++ [y]).map f) := by rw [app_map]
theorem lst_set {α : Type} (f : α → V) (xs : List α) (j : Nat) (y : α) : HO.lst ((xs.map f).set j (f y)) = .lst ((xs.set j y).map f) := by rw [set_map']
theorem lst_rev {α : Type} (f : α → V) (xs : List α) : HO.lst ((xs.map f).reverse) = .lst (xs.reverse.map f) := by rw [List.map_reverse]
theorem lst_cat {α : Type} (f : α → V) (xs ys : List α) : HO.lst (xs.map f ++ ys.map f) = .lst ((xs ++ ys).map f) := by rw [List.map_append]
theorem lst_rep {α : Type} (f : α → V) (xs : List α) (k : Nat) : HO.lst (List.replicate k (xs.map f)).flatten = .lst ((List.replicate k xs).flatten.map f) := by
  rw [List.map_flatten, List.map_replicate]
theorem erase_map' {α β : Type} (f : α → β) : ∀ (xs : List α) (k : Nat), (xs.map f).eraseIdx k = (xs.eraseIdx k).map f
  | [], _ => rfl
  | _ :: _, 0 => rfl
  | x :: xs, k + 1 => by
    show f x :: (xs.map f).eraseIdx k = f x :: (xs.eraseIdx k).map f
    rw [erase_map' f xs k]
theorem lst_erase {α : Type} (f : α → V) (xs : List α) (k : Nat) : HO.lst ((xs.map f).eraseIdx k) = .lst ((xs.eraseIdx k).map f) := by rw [erase_map']
theorem lst_dl {α : Type} (f : α → V) (xs : List α) : HO.lst ((xs.map f).dropLast) = .lst (xs.dropLast.map f) := by rw [List.map_dropLast]
/-- a slice with step one -/
def cutL {α : Type} (xs : List α) (lo hi : Option Int) : List α :=
  (xs.drop (HT.sIx xs.length 0 lo)).take (HT.sIx xs.length xs.length hi - HT.sIx xs.length 0 lo)
theorem lst_cut {α : Type} (f : α → V) (xs : List α) (lo hi : Option Int) : HO.lst (cutV (xs.map f) lo hi) = .lst ((cutL xs lo hi).map f) := by
  unfold cutV cutL; rw [List.length_map, List.map_take, List.map_drop]
theorem rgV_eq (a b : Int) : rgV a b = ((List.range (b - a).toNat).map fun i : Nat => a + (i : Int)).map V.int := by
  unfold rgV; rw [List.map_map]; rfl
def rangeI (n : Int) : List Int := (List.range n.toNat).map fun i : Nat => (i : Int)
theorem lst_rng (n : Int) : HO.lst (rgV 0 n) = .lst ((rangeI n).map V.int) := by
  rw [rgV_eq]; unfold rangeI; congr 2; simp
theorem atD {α : Type} {f : α → V} {xs : List α} {i : Int} (d : α) (h0 : 0 ≤ i) (h1 : i < (xs.length : Int)) : atI (xs.map f) i = some (f (xs.getD i.toNat d)) := by
  obtain ⟨n, rfl⟩ := Int.eq_ofNat_of_zero_le h0
  have hn : n < xs.length := by omega
  refine atI_nat ?_
  rw [List.getElem?_map, List.getElem?_eq_getElem hn]
  simp [List.getD, hn]
theorem ixD {n : Nat} {i : Int} (h0 : 0 ≤ i) (h1 : i < (n : Int)) : ixN n i = some i.toNat := by
  unfold ixN; rw [if_pos h0, if_pos h1]
theorem atLast {α : Type} {f : α → V} {xs : List α} (d : α) (h : 0 < xs.length) : atI (xs.map f) (-1) = some (f (xs.getLastD d)) := by
  have hne : xs ≠ [] := fun z => by subst z; cases h
  have e : xs.map f = xs.dropLast.map f ++ [f (xs.getLast hne)] := by
    rw [← List.map_singleton, ← List.map_append, List.dropLast_concat_getLast]
  rw [e, atI_last, List.getLastD_eq_getLast?, List.getLast?_eq_some_getLast hne]; rfl
theorem getD_mem {α : Type} {xs : List α} {i : Nat} {d : α} (h : i < xs.length) : xs.getD i d ∈ xs := by
  simp [List.getD, h]

/-! tests -/
theorem iteD {c : Prop} [Decidable c] {A B : Prop} (h1 : c → A) (h2 : ¬ c → B) : if decide c = true then A else B := by
  by_cases h : c
  · rw [if_pos (decide_eq_true h)]; exact h1 h
  · rw [if_neg (by rw [decide_eq_false h]; exact Bool.false_ne_true)]; exact h2 h
theorem iteN {c : Prop} [Decidable c] {A B : Prop} (h1 : ¬ c → A) (h2 : c → B) : if (!decide c) = true then A else B := by
  by_cases h : c
  · rw [if_neg (by rw [decide_eq_true h]; exact Bool.false_ne_true)]; exact h2 h
  · rw [if_pos (by rw [decide_eq_false h]; rfl)]; exact h1 h
theorem iteB {b : Bool} {A B : Prop} (h1 : b = true → A) (h2 : b = false → B) : if b = true then A else B := by
  cases b with
  | true => exact iteT (h1 rfl)
  | false => exact iteF (h2 rfl)
theorem iteBT {b : Bool} {A B : Prop} (h : b = true) (h1 : A) : if b = true then A else B := by subst h; exact iteT h1
theorem iteBF {b : Bool} {A B : Prop} (h : b = false) (h1 : B) : if b = true then A else B := by subst h; exact iteF h1

/-! operators by values, in handy forms -/
section
variable {X : Cx}
theorem op_eqB : OpR X (compareOp .Eq) (fun x y H Q => ∃ a b : Bool, x = .bl a ∧ y = .bl b ∧ Q (.bl (a == b)) H) := by
  intro pins s σ H x y v u Q I rx ry h
  obtain ⟨a, b, rfl, rfl, q⟩ := h
  refine op_eq pins s σ H _ _ v u Q I rx ry ⟨rfl, ?_⟩
  have : decide (V.bl a = V.bl b) = (a == b) := by cases a <;> cases b <;> rfl
  rw [this]; exact q
theorem op_neB : OpR X (compareOp .NotEq) (fun x y H Q => ∃ a b : Bool, x = .bl a ∧ y = .bl b ∧ Q (.bl (a != b)) H) := by
  intro pins s σ H x y v u Q I rx ry h
  obtain ⟨a, b, rfl, rfl, q⟩ := h
  refine op_ne pins s σ H _ _ v u Q I rx ry ⟨rfl, ?_⟩
  have : (!decide (V.bl a = V.bl b)) = (a != b) := by cases a <;> cases b <;> rfl
  rw [this]; exact q
theorem call_lenL : CallR X (.builtin "len") (fun xs H Q => ∃ p n ys, xs = [.ref p] ∧ SqL X.K H p ys ∧ ys.length = n ∧ Q (.int (n : Nat)) H) := by
  intro pins s σ H xs us Q I r h
  obtain ⟨p, n, ys, rfl, hp, rfl, q⟩ := h
  exact call_len_seq pins s σ H _ us Q I r ⟨p, ys, rfl, .inl hp, q⟩
theorem call_minI (hc : X.calm = true) : CallR X (.builtin "min") (fun xs H Q => ∃ i j : Int, xs = [.int i, .int j] ∧ Q (.int (min i j)) H) := by
  intro pins s σ H xs us Q I r h
  obtain ⟨i, j, rfl, q⟩ := h
  refine call_min2 hc pins s σ H _ us Q I r ⟨i, j, rfl, ?_⟩
  have : (if j < i then j else i) = min i j := by
    by_cases h : j < i
    · rw [if_pos h]; omega
    · rw [if_neg h]; omega
  rw [this]; exact q
theorem call_maxI (hc : X.calm = true) : CallR X (.builtin "max") (fun xs H Q => ∃ i j : Int, xs = [.int i, .int j] ∧ Q (.int (max i j)) H) := by
  intro pins s σ H xs us Q I r h
  obtain ⟨i, j, rfl, q⟩ := h
  refine call_max2 hc pins s σ H _ us Q I r ⟨i, j, rfl, ?_⟩
  have : (if j > i then j else i) = max i j := by
    by_cases h : j > i
    · rw [if_pos h]; omega
    · rw [if_neg h]; omega
  rw [this]; exact q
theorem call_absI : CallR X (.builtin "abs") (fun xs H Q => ∃ i : Int, xs = [.int i] ∧ Q (.int (i.natAbs : Nat)) H) := by
  intro pins s σ H xs us Q I r h
  obtain ⟨i, rfl, q⟩ := h
  refine call_abs pins s σ H _ us Q I r ⟨i, rfl, ?_⟩
  have : (if i < 0 then -i else i) = (i.natAbs : Int) := by
    by_cases h : i < 0
    · rw [if_pos h]; omega
    · rw [if_neg h]; omega
  rw [this]; exact q
/-- comparisons, told in two ways -/
theorem op_ltS : OpR X (compareOp .Lt) (fun x y H Q => ∃ i j : Int, x = .int i ∧ y = .int j ∧ (i < j → Q (.bl true) H) ∧ (¬ i < j → Q (.bl false) H)) := by
  intro pins s σ H x y v u Q I rx ry h
  obtain ⟨i, j, rfl, rfl, q1, q2⟩ := h
  refine op_lt pins s σ H _ _ v u Q I rx ry ⟨i, j, rfl, rfl, ?_⟩
  show Q (V.bl (decide (i < j))) H
  by_cases h : i < j
  · rw [decide_eq_true h]; exact q1 h
  · rw [decide_eq_false h]; exact q2 h
theorem op_leS : OpR X (compareOp .LtE) (fun x y H Q => ∃ i j : Int, x = .int i ∧ y = .int j ∧ (i ≤ j → Q (.bl true) H) ∧ (¬ i ≤ j → Q (.bl false) H)) := by
  intro pins s σ H x y v u Q I rx ry h
  obtain ⟨i, j, rfl, rfl, q1, q2⟩ := h
  refine op_le pins s σ H _ _ v u Q I rx ry ⟨i, j, rfl, rfl, ?_⟩
  show Q (V.bl (decide (i ≤ j))) H
  by_cases h : i ≤ j
  · rw [decide_eq_true h]; exact q1 h
  · rw [decide_eq_false h]; exact q2 h
theorem op_gtS : OpR X (compareOp .Gt) (fun x y H Q => ∃ i j : Int, x = .int i ∧ y = .int j ∧ (j < i → Q (.bl true) H) ∧ (¬ j < i → Q (.bl false) H)) := by
  intro pins s σ H x y v u Q I rx ry h
  obtain ⟨i, j, rfl, rfl, q1, q2⟩ := h
  refine op_gt pins s σ H _ _ v u Q I rx ry ⟨i, j, rfl, rfl, ?_⟩
  show Q (V.bl (decide (j < i))) H
  by_cases h : j < i
  · rw [decide_eq_true h]; exact q1 h
  · rw [decide_eq_false h]; exact q2 h
theorem op_geS : OpR X (compareOp .GtE) (fun x y H Q => ∃ i j : Int, x = .int i ∧ y = .int j ∧ (j ≤ i → Q (.bl true) H) ∧ (¬ j ≤ i → Q (.bl false) H)) := by
  intro pins s σ H x y v u Q I rx ry h
  obtain ⟨i, j, rfl, rfl, q1, q2⟩ := h
  refine op_ge pins s σ H _ _ v u Q I rx ry ⟨i, j, rfl, rfl, ?_⟩
  show Q (V.bl (decide (j ≤ i))) H
  by_cases h : j ≤ i
  · rw [decide_eq_true h]; exact q1 h
  · rw [decide_eq_false h]; exact q2 h
theorem int_dec {i j : Int} : decide (V.int i = V.int j) = decide (i = j) := by
  by_cases h : i = j
  · subst h; rw [decide_eq_true rfl, decide_eq_true rfl]
  · rw [decide_eq_false h, decide_eq_false fun z => h (V.int.inj z)]
theorem op_eqS : OpR X (compareOp .Eq) (fun x y H Q => ∃ i j : Int, x = .int i ∧ y = .int j ∧ (i = j → Q (.bl true) H) ∧ (¬ i = j → Q (.bl false) H)) := by
  intro pins s σ H x y v u Q I rx ry h
  obtain ⟨i, j, rfl, rfl, q1, q2⟩ := h
  refine op_eq pins s σ H _ _ v u Q I rx ry ⟨rfl, ?_⟩
  rw [int_dec]
  by_cases h : i = j
  · rw [decide_eq_true h]; exact q1 h
  · rw [decide_eq_false h]; exact q2 h
theorem op_neS : OpR X (compareOp .NotEq) (fun x y H Q => ∃ i j : Int, x = .int i ∧ y = .int j ∧ (¬ i = j → Q (.bl true) H) ∧ (i = j → Q (.bl false) H)) := by
  intro pins s σ H x y v u Q I rx ry h
  obtain ⟨i, j, rfl, rfl, q1, q2⟩ := h
  refine op_ne pins s σ H _ _ v u Q I rx ry ⟨rfl, ?_⟩
  rw [int_dec]
  by_cases h : i = j
  · rw [decide_eq_true h]; exact q2 h
  · rw [decide_eq_false h]; exact q1 h
/-- a truth, told in two ways: as a test, as a value -/
def tBS (t : TE) : TT := fun σ H Q => t σ H fun x H1 => ∃ b, x = .bl b ∧ (b = true → Q true H1) ∧ (b = false → Q false H1)
theorem pt_valS {e : Expr} {t : TE} (h : PE X e t) (he : ∀ whole, isTrue e X.env whole = (do let v ← whole; standAt e.pos; holding [v] (truthy v)) := by intro _; rfl) : PT X e (tBS t) := by
  refine ⟨fun pins s σ H Q I hw => ?_⟩
  refine isTrue_plain (thn (h.run pins s σ H _ I hw) fun v s1 ⟨x, H1, I1, r1, q1⟩ => ?_) (he _)
  obtain ⟨d, rfl, q1, q2⟩ := q1
  cases r1
  refine wpAny_truthy_bool ⟨H1, I1, ?_⟩
  cases d with
  | true => exact q1 rfl
  | false => exact q2 rfl
/-- an operator whose answer is a truth, told in two ways -/
theorem opS {f : Value → Value → Sem Value} {r : R2} (h : OpR X f r) : OpR X f (fun x y H Q => r x y H fun z H1 => ∃ b, z = .bl b ∧ (b = true → Q (.bl true) H1) ∧ (b = false → Q (.bl false) H1)) := by
  intro pins s σ H x y v u Q I rx ry q
  refine thn (h pins s σ H x y v u _ I rx ry q) fun w s1 ⟨z, H1, I1, r1, q1⟩ => ?_
  obtain ⟨d, rfl, q1, q2⟩ := q1
  refine ⟨.bl d, H1, I1, r1, ?_⟩
  cases d with
  | true => exact q1 rfl
  | false => exact q2 rfl
/-- and, or, not as values, of truths told in two ways -/
def tSplE (t : TE) : TE := fun σ H Q => t σ H fun x H1 => ∃ b, x = .bl b ∧ (b = true → Q (.bl true) H1) ∧ (b = false → Q (.bl false) H1)
theorem pe_splS {e : Expr} {t : TE} (h : PE X e t) : PE X e (tSplE t) := by
  refine ⟨fun pins s σ H Q I hw => thn (h.run pins s σ H _ I hw) fun v s1 ⟨x, H1, I1, r1, q1⟩ => ?_⟩
  obtain ⟨d, rfl, q1, q2⟩ := q1
  refine ⟨.bl d, H1, I1, r1, ?_⟩
  cases d with
  | true => exact q1 rfl
  | false => exact q2 rfl
/-- a power of written numbers, told as a number -/
theorem op_powL : OpR X (binaryOp .Pow) (fun x y H Q => ∃ i j k : Int, x = .int i ∧ y = .int j ∧ CPow i j ∧ i ^ j.toNat = k ∧ Q (.int k) H) := by
  intro pins s σ H x y v u Q I rx ry h
  obtain ⟨i, j, k, rfl, rfl, hc, rfl, q⟩ := h
  exact op_pow pins s σ H _ _ v u Q I rx ry ⟨i, j, rfl, rfl, hc, q⟩
/-- xs[i], read for an augmented store -/
theorem get_list : PGet X (rIxL X.K) := by
  intro pins s σ H o i ov iv Q I ro ri h
  obtain ⟨p, xs, k, z, rfl, rfl, hq, he, q⟩ := h
  cases ro
  obtain ⟨tk, rfl⟩ := ri
  obtain ⟨its, vr, pl, hz⟩ := I.list hq
  obtain ⟨j, h1, h2, h3, h4, h5⟩ := atI_get he
  obtain ⟨w, ew, rw'⟩ := vr.get h2
  have hl := vr.length
  have hn := line63
  have fin : EP X pins σ Q w s := ⟨z, H, I, rw', q⟩
  by_cases h0 : 0 ≤ k
  · have hj : k.toNat = j := by
      rw [seqIndex_of h0 h5] at h1; exact Option.some.inj h1
    exact wpAny_mono (wpAny_getItem_list (Q := fun r s' => r = w ∧ EP X pins σ Q r s') pl.isList h0 (by omega) (by rw [hj]; simpa using ew) ⟨rfl, fin⟩) (fun _ _ z => z.2) fun _ _ z => z
  · have hj : (k + (its.toArray.size : Int)).toNat = j := by
      rw [seqIndex_neg (by omega) h4] at h1
      rw [List.size_toArray, ← hl]; exact Option.some.inj h1
    exact wpAny_mono (wpAny_getItem_list_neg (Q := fun r s' => r = w ∧ EP X pins σ Q r s') pl.isList (by omega) (by rw [List.size_toArray] <;> omega) (by omega) (by rw [hj]; simpa using ew) ⟨rfl, fin⟩) (fun _ _ z => z.2) fun _ _ z => z
end
end Rc
namespace Rc
open PySem PySem.Spec PyProof.Rows L2

section
variable {H0 H H' : Hp} {own : List (Addr × HO)} {p : Addr} {o : HO}
theorem Fr.n0 (f : Fr H0 H ((p, o) :: own)) : H0 p = none := (f.frs _ List.mem_cons_self).1
theorem Fr.n1 {a : Addr × HO} (f : Fr H0 H (a :: (p, o) :: own)) : H0 p = none := f.up1.n0
theorem Fr.n2 {a b : Addr × HO} (f : Fr H0 H (a :: b :: (p, o) :: own)) : H0 p = none := f.up2.n0
end
theorem ndT {c : Prop} [Decidable c] (h : ¬ c) : (!decide c) = true := by rw [decide_eq_false h]; rfl
theorem ndF {c : Prop} [Decidable c] (h : c) : (!decide c) = false := by rw [decide_eq_true h]; rfl
theorem of_nd {c : Prop} [Decidable c] (h : (!decide c) = false) : c := by
  by_cases z : c
  · exact z
  · rw [decide_eq_false z] at h; cases h
theorem not_of_nd {c : Prop} [Decidable c] (h : (!decide c) = true) : ¬ c := fun z => by rw [decide_eq_true z] at h; cases h
theorem bnotT {b : Bool} (h : (!b) = true) : b = false := by cases b with | true => cases h | false => rfl
theorem bnotF {b : Bool} (h : (!b) = false) : b = true := by cases b with | true => rfl | false => cases h
theorem iteBN {b : Bool} {A B : Prop} (h1 : b = false → A) (h2 : b = true → B) : if (!b) = true then A else B := by
  cases b with
  | false => exact iteT (h1 rfl)
  | true => exact iteF (h2 rfl)
theorem hu64 {A : Around} {k : Nat} (hr : Room k A) : A.units + 64 < cLine := by have := hr.un; omega

/-! what is walked, with typed contents -/
section
variable {α β : Type} {K : PySem.W.Frag} {a b : Addr}
theorem walkR {n : Nat} : Walk (Itr 0 n) n (fun _ => True) (fun i H x H' => H' = H ∧ x = .int (i : Nat)) :=
  walk_range.mono (fun _ h => h) fun i H x H' _ _ y => ⟨y.1, by rw [y.2]; exact congrArg V.int (Int.zero_add _)⟩
theorem walkL (f : α → V) (ns : List α) : Walk (Itl K a) ns.length (fun H => H a = some (.lst (ns.map f))) (fun i H x H' => H' = H ∧ ∃ y, ns[i]? = some y ∧ x = f y) := by
  have w := walk_list (K := K) (a := a) (xs := ns.map f)
  rw [List.length_map] at w
  refine w.mono (fun H h => SqL.of h) fun i H x H' _ _ y => ⟨y.1, ?_⟩
  have e := y.2
  rw [List.getElem?_map] at e
  cases h : ns[i]? with
  | none => rw [h] at e; cases e
  | some z => rw [h] at e; exact ⟨z, rfl, (Option.some.inj e).symm⟩
theorem walkV (ns : List V) : Walk (Itl K a) ns.length (fun H => H a = some (.lst ns)) (fun i H x H' => H' = H ∧ ns[i]? = some x) :=
  walk_list.mono (fun H h => SqL.of h) fun i H x H' _ _ y => y
theorem walkRv (f : α → V) (ns : List α) : Walk (Itv K a (ns.map f).length) ns.length (fun H => H a = some (.lst (ns.map f))) (fun i H x H' => H' = H ∧ ∃ y, ns[ns.length - 1 - i]? = some y ∧ x = f y) := by
  have w := walk_rev (K := K) (a := a) (xs := ns.map f)
  rw [List.length_map] at w ⊢
  refine w.mono (fun H h => SqL.of h) fun i H x H' _ _ y => ⟨y.1, ?_⟩
  have e := y.2
  rw [List.getElem?_map] at e
  cases h : ns[ns.length - 1 - i]? with
  | none => rw [h] at e; cases e
  | some z => rw [h] at e; exact ⟨z, rfl, (Option.some.inj e).symm⟩
theorem walkE (f : α → V) (ns : List α) : Walk (Ite K a) ns.length (fun H => H a = some (.lst (ns.map f)))
    (fun i H x H' => ∃ T y, x = .ref T ∧ H T = none ∧ H' = upd H T (.tup [.int (i : Nat), f y]) ∧ ns[i]? = some y) := by
  have w := walk_enum (K := K) (a := a) (xs := ns.map f)
  rw [List.length_map] at w
  refine w.mono (fun H h => SqL.of h) fun i H x H' _ _ y => ?_
  obtain ⟨T, u, v, h1, h2, h3, h4, h5⟩ := y
  cases h4
  replace h5 : (ns.map f)[i]? = some v := h5
  rw [List.getElem?_map] at h5
  cases h : ns[i]? with
  | none => rw [h] at h5; cases h5
  | some z => rw [h] at h5; cases (Option.some.inj h5); exact ⟨T, z, h1, h2, h3, rfl⟩
theorem walkZ (f : α → V) (g : β → V) (ns : List α) (ms : List β) : Walk (Itz K a b) (min ns.length ms.length) (fun H => H a = some (.lst (ns.map f)) ∧ H b = some (.lst (ms.map g)))
    (fun i H x H' => ∃ T y z, x = .ref T ∧ H T = none ∧ H' = upd H T (.tup [f y, g z]) ∧ ns[i]? = some y ∧ ms[i]? = some z) := by
  have w := walk_zip (K := K) (a := a) (b := b) (xs := ns.map f) (ys := ms.map g) (n := min ns.length ms.length) (by rw [List.length_map, List.length_map])
  refine w.mono (fun H h => ⟨SqL.of h.1, SqL.of h.2⟩) fun i H x H' _ _ y => ?_
  obtain ⟨T, u, v, h1, h2, h3, h4, h5⟩ := y
  replace h4 : (ns.map f)[i]? = some u := h4
  replace h5 : (ms.map g)[i]? = some v := h5
  rw [List.getElem?_map] at h4 h5
  cases h : ns[i]? with
  | none => rw [h] at h4; cases h4
  | some z =>
    cases h' : ms[i]? with
    | none => rw [h'] at h5; cases h5
    | some z' =>
      rw [h] at h4; rw [h'] at h5
      cases (Option.some.inj h4); cases (Option.some.inj h5)
      exact ⟨T, z, z', h1, h2, h3, rfl, rfl⟩
end

/-! comprehensions: one turn -/
section
variable {α β : Type} {enc : β → V} {f : α → β} {ns : List α} {i : Nat} {y : α}
theorem take_next (h : ns[i]? = some y) : ns.take (i + 1) = ns.take i ++ [y] := by rw [List.take_add_one, h]; rfl
theorem lc_l (h : ns[i]? = some y) : HO.lst ((((ns.take i).map f).map enc) ++ [enc (f y)]) = .lst (((ns.take (i + 1)).map f).map enc) := by
  rw [take_next h, List.map_append, List.map_append]; rfl
theorem lc_l_t {p : α → Bool} (h : ns[i]? = some y) (hp : p y = true) : HO.lst (((((ns.take i).filter p).map f).map enc) ++ [enc (f y)]) = .lst ((((ns.take (i + 1)).filter p).map f).map enc) := by
  rw [take_next h, List.filter_append, List.map_append, List.map_append, List.filter_cons_of_pos hp]; rfl
theorem lc_l_f {p : α → Bool} (h : ns[i]? = some y) (hp : p y = false) : HO.lst ((((ns.take i).filter p).map f).map enc) = .lst ((((ns.take (i + 1)).filter p).map f).map enc) := by
  rw [take_next h, List.filter_append, List.filter_cons_of_neg (by rw [hp]; exact Bool.false_ne_true)]; simp
theorem lc_r (f : Nat → β) (i : Nat) : HO.lst ((((List.range i).map f).map enc) ++ [enc (f i)]) = .lst (((List.range (i + 1)).map f).map enc) := by
  rw [List.range_succ, List.map_append, List.map_append]; rfl
theorem lc_r_t {f : Nat → β} {p : Nat → Bool} (hp : p i = true) : HO.lst (((((List.range i).filter p).map f).map enc) ++ [enc (f i)]) = .lst ((((List.range (i + 1)).filter p).map f).map enc) := by
  rw [List.range_succ, List.filter_append, List.map_append, List.map_append, List.filter_cons_of_pos hp]; rfl
theorem lc_r_f {f : Nat → β} {p : Nat → Bool} (hp : p i = false) : HO.lst ((((List.range i).filter p).map f).map enc) = .lst ((((List.range (i + 1)).filter p).map f).map enc) := by
  rw [List.range_succ, List.filter_append, List.filter_cons_of_neg (by rw [hp]; exact Bool.false_ne_true)]; simp
end

/-! whiles by a measure -/
theorem while_m {c : TT} {tb : TS} {D : Ends} {σ : L2.St} {H : Hp} (W : Nat → L2.St → Hp → Prop) (h0 : ∃ m, W m σ H)
    (hs : ∀ m σ H, W m σ H → c σ H fun b H1 => if b = true then ∃ N : L2.St → Hp → Prop, (∀ σ' H', N σ' H' → ∃ m', m' < m ∧ W m' σ' H') ∧ tb { D with nx := N, ct := N, bk := D.nx } σ H1 else D.nx σ H1) : tWhile c tb D σ H := ⟨W, h0, hs⟩

/-! pop(i) -/
theorem popix {n : Nat} {i : Int} (h0 : 0 ≤ i) (h1 : i < (n : Int)) {α β : Type} {f : α → β} {xs : List α} (hn : n = xs.length := by rfl) : seqIndex? i (xs.map f).length = some i.toNat := by
  subst hn; rw [List.length_map]; exact seqIndex_of h0 h1
theorem popat {α : Type} {f : α → V} {xs : List α} {k : Nat} (d : α) (h : k < xs.length) : (xs.map f)[k]? = some (f (xs.getD k d)) := by
  rw [List.getElem?_map, List.getElem?_eq_getElem h]; simp [List.getD, h]
theorem ixDm {α β : Type} {f : α → β} {xs : List α} {i : Int} (h0 : 0 ≤ i) (h1 : i < (xs.length : Int)) : ixN (xs.map f).length i = some i.toNat := by
  rw [List.length_map]; exact ixD h0 h1
theorem atV {xs : List V} {i : Int} (d : V) (h0 : 0 ≤ i) (h1 : i < (xs.length : Int)) : atI xs i = some (xs.getD i.toNat d) := by
  have := atD (f := fun v : V => v) d h0 h1
  rwa [List.map_id'] at this

/-! deep data -/
def dI (xs : List Int) : PyData := .list (xs.map PyData.int)
def dB (xs : List Bool) : PyData := .list (xs.map PyData.bool)
section
variable {K : PySem.W.Frag} {H : Hp} {a : Addr}
theorem dpAll {α : Type} {f : α → V} {g : α → PyData} (h : ∀ x, Dp K H (f x) (g x)) : ∀ xs : List α, DpAll K H (xs.map f) (xs.map g)
  | [] => .nil
  | x :: xs => .cons (h x) (dpAll h xs)
/-- a list, its depth by its items -/
theorem dp_ints {xs : List Int} (h : H a = some (.lst (xs.map V.int))) : Dp K H (.ref a) (dI xs) := .lst (SqL.of h) (dpAll (fun _ => .int _) xs)
theorem dp_bls {xs : List Bool} (h : H a = some (.lst (xs.map V.bl))) : Dp K H (.ref a) (dB xs) := .lst (SqL.of h) (dpAll (fun _ => .bl _) xs)
end
theorem canAll {α : Type} {g : α → PyData} (h : ∀ x, (g x).canLay0 = true) : ∀ xs : List α, PyData.canLayAll0 (xs.map g) = true
  | [] => rfl
  | x :: xs => by
    show ((g x).canLay0 && PyData.canLayAll0 (xs.map g)) = true
    rw [h x, canAll h xs]; rfl
theorem depthAll {α : Type} {g : α → PyData} {n : Nat} (h : ∀ x, (g x).depth ≤ n) : ∀ xs : List α, PyData.depthAll (xs.map g) ≤ n
  | [] => Nat.zero_le _
  | x :: xs => by
    show max (g x).depth (PyData.depthAll (xs.map g)) ≤ n
    have h1 := h x
    have h2 := depthAll h xs
    omega
/-- data of a depth of at most n, without texts -/
structure Okd (n : Nat) (d : PyData) : Prop where
  can : d.canLay0 = true
  dep : d.depth ≤ n
theorem Okd.sh {d : PyData} (h : Okd 9 d) : SeqAt.shaped d = true := by
  unfold SeqAt.shaped; rw [h.can, decide_eq_true (by have := h.dep; omega)]; rfl
theorem Okd.cn {d : PyData} (h : Okd 9 d) : d.canLay0 = true := h.can
section
variable {n : Nat}
theorem okd_ints (xs : List Int) : Okd (n + 1) (dI xs) := ⟨canAll (fun _ => rfl) xs, Nat.succ_le_succ (Nat.le_trans (depthAll (n := 0) (fun _ => Nat.le_refl _) xs) (Nat.zero_le _))⟩
theorem okd_bls (xs : List Bool) : Okd (n + 1) (dB xs) := ⟨canAll (fun _ => rfl) xs, Nat.succ_le_succ (Nat.le_trans (depthAll (n := 0) (fun _ => Nat.le_refl _) xs) (Nat.zero_le _))⟩
theorem okd_int {i : Int} : Okd n (.int i) := ⟨rfl, Nat.zero_le _⟩
theorem okd_bl {b : Bool} : Okd n (.bool b) := ⟨rfl, Nat.zero_le _⟩
theorem okd_non : Okd n .none := ⟨rfl, Nat.zero_le _⟩
theorem okl_nil : Okd (n + 1) (.list []) := ⟨rfl, Nat.succ_le_succ (Nat.zero_le _)⟩
theorem okl_cons {d : PyData} {ds : List PyData} (h : Okd n d) (h' : Okd (n + 1) (.list ds)) : Okd (n + 1) (.list (d :: ds)) := by
  obtain ⟨c, p⟩ := h; obtain ⟨c', p'⟩ := h'
  have e1 : PyData.canLayAll0 ds = true := c'
  have e2 : PyData.depthAll ds + 1 ≤ n + 1 := p'
  refine ⟨?_, ?_⟩
  · show (d.canLay0 && PyData.canLayAll0 ds) = true
    rw [c, e1]; rfl
  · show max d.depth (PyData.depthAll ds) + 1 ≤ n + 1
    omega
theorem okt_nil : Okd (n + 1) (.tuple []) := ⟨rfl, Nat.succ_le_succ (Nat.zero_le _)⟩
theorem okt_cons {d : PyData} {ds : List PyData} (h : Okd n d) (h' : Okd (n + 1) (.tuple ds)) : Okd (n + 1) (.tuple (d :: ds)) := by
  have q := okl_cons h (show Okd (n + 1) (.list ds) from ⟨h'.can, h'.dep⟩)
  exact ⟨q.can, q.dep⟩
end
section
variable {X : Cx}
/-- == of deep data, the answer told -/
theorem op_eqX (hu : X.A.units + 64 < cLine) : OpR X (compareOp .Eq) (fun x y H Q => ∃ (d e : PyData) (b : Bool), Dp X.K H x d ∧ Dp X.K H y e ∧ SeqAt.shaped d = true ∧ SeqAt.shaped e = true ∧ PyData.eqv d e = b ∧ Q (.bl b) H) := by
  intro pins s σ H x y v u Q I rx ry h
  obtain ⟨d, e, b, h1, h2, h3, h4, rfl, q⟩ := h
  exact op_eqD hu pins s σ H x y v u Q I rx ry ⟨d, e, h1, h2, h3, h4, q⟩
theorem op_neX (hu : X.A.units + 64 < cLine) : OpR X (compareOp .NotEq) (fun x y H Q => ∃ (d e : PyData) (b : Bool), Dp X.K H x d ∧ Dp X.K H y e ∧ SeqAt.shaped d = true ∧ SeqAt.shaped e = true ∧ PyData.eqv d e = b ∧ Q (.bl (!b)) H) := by
  intro pins s σ H x y v u Q I rx ry h
  obtain ⟨d, e, b, h1, h2, h3, h4, rfl, q⟩ := h
  exact op_neD hu pins s σ H x y v u Q I rx ry ⟨d, e, h1, h2, h3, h4, q⟩
end
/-- range(0, m, c), c from 1 on -/
theorem rgc_up {m c : Int} {n : Nat} (h0 : -(2 ^ 40) ≤ m) (h1 : m < 2 ^ 40) (hc : 0 < c) (hc' : c < 100000000) (hn : (n : Int) = if 0 < m then (m - 1) / c + 1 else 0) : RgC 0 m c n := by
  have hs : Builtin.Range.rangeSize 0 m c = n := by
    unfold Builtin.Range.rangeSize
    rw [if_pos (by omega), hn, Int.sub_zero]
  refine ⟨by omega, by omega, ?_, hs⟩
  have e2 : 0 < m → 0 ≤ (m - 1) / c := fun h => Int.ediv_nonneg (by omega) (by omega)
  have e3 : 0 < m → (m - 1) / c ≤ m - 1 := fun h => Int.ediv_le_self _ (by omega)
  unfold Builtin.Range.small
  rw [hs, hn]
  generalize (m - 1) / c = q at *
  simp only [Builtin.Range.rangeFitsLong, Bool.and_eq_true, Bool.or_eq_true, decide_eq_true_eq, beq_iff_eq]
  split
  · rename_i hm
    have := e2 hm
    have := e3 hm
    refine ⟨by omega, .inr ?_⟩
    rw [Bool.and_eq_true, decide_eq_true_eq, decide_eq_true_eq]
    omega
  · refine ⟨by omega, .inl rfl⟩
/-- .. with a step of two -/
theorem rgc2 {m : Int} (h0 : 0 ≤ m) (h1 : m < 2 ^ 40) : RgC 0 m 2 (Int.toNat ((m + 1) / 2)) := by
  refine rgc_up (by omega) h1 (by decide) (by decide) ?_
  split <;> omega
theorem rgc3 {m : Int} (h0 : 0 ≤ m) (h1 : m < 2 ^ 40) : RgC 0 m 3 (Int.toNat ((m + 2) / 3)) := by
  refine rgc_up (by omega) h1 (by decide) (by decide) ?_
  split <;> omega
theorem rgc4 {m : Int} (h0 : 0 ≤ m) (h1 : m < 2 ^ 40) : RgC 0 m 4 (Int.toNat ((m + 3) / 4)) := by
  refine rgc_up (by omega) h1 (by decide) (by decide) ?_
  split <;> omega
theorem rgc5 {m : Int} (h0 : 0 ≤ m) (h1 : m < 2 ^ 40) : RgC 0 m 5 (Int.toNat ((m + 4) / 5)) := by
  refine rgc_up (by omega) h1 (by decide) (by decide) ?_
  split <;> omega
theorem eqvAll_map {α : Type} [DecidableEq α] {g : α → PyData} (h : ∀ x y, PyData.eqv (g x) (g y) = decide (x = y)) : ∀ xs ys : List α, PyData.eqvAll (xs.map g) (ys.map g) = decide (xs = ys)
  | [], [] => rfl
  | [], _ :: _ => rfl
  | _ :: _, [] => rfl
  | x :: xs, y :: ys => by
    show (PyData.eqv (g x) (g y) && PyData.eqvAll (xs.map g) (ys.map g)) = _
    rw [h, eqvAll_map h xs ys]
    by_cases e : x = y
    · subst e
      by_cases e' : xs = ys
      · subst e'; simp
      · simp [e']
    · simp [e]
theorem eqv_ints (xs ys : List Int) : PyData.eqv (dI xs) (dI ys) = decide (xs = ys) :=
  eqvAll_map (fun x y => by show (x == y) = _; exact Bool.beq_eq_decide_eq x y) xs ys
theorem eqv_bls (xs ys : List Bool) : PyData.eqv (dB xs) (dB ys) = decide (xs = ys) :=
  eqvAll_map (fun x y => by show (x == y) = _; cases x <;> cases y <;> rfl) xs ys

/-! list.index of an int that is there -/
theorem flat_ints : ∀ xs : List Int, (xs.map V.int).all flatV = true
  | [] => rfl
  | _ :: xs => flat_ints xs
theorem ix_get {xs : List Int} {y : Int} (h : y ∈ xs) : (xs.map V.int)[xs.idxOf y]? = some (V.int y) := by
  rw [List.getElem?_map, List.getElem?_eq_getElem (List.idxOf_lt_length_of_mem h), List.getElem_idxOf]; rfl
theorem ix_eqv {y : Int} : eqV (V.int y) (V.int y) = true := by show (y == y) = true; exact beq_self_eq_true y
theorem ix_first (xs : List Int) (y : Int) : ∀ (m : Nat) (z : V), m < xs.idxOf y → (xs.map V.int)[m]? = some z → eqV z (V.int y) = false := fun m z hm e => by
  rw [List.getElem?_map] at e
  cases h : xs[m]? with
  | none => rw [h] at e; cases e
  | some w =>
    rw [h] at e; cases (Option.some.inj e)
    show (w == y) = false
    have hl := (List.getElem?_eq_some_iff.mp h)
    obtain ⟨hl, rfl⟩ := hl
    have := List.not_of_lt_findIdx (p := (· == y)) (xs := xs) (i := m) hm
    simpa using this

/-! isinstance of any scalar -/
def is_int : V → Bool
  | .int _ => true
  | .bl _ => true
  | _ => false
def is_bool : V → Bool
  | .bl _ => true
  | _ => false
/-- the scalars -/
def sca : V → Bool
  | .non => true
  | .bl _ => true
  | .int _ => true
  | .str _ => true
  | _ => false
def tyName : V → String
  | .non => "NoneType"
  | .bl _ => "bool"
  | .int _ => "int"
  | _ => "str"
theorem tyx_val {K : PySem.W.Frag} {H : Hp} {x : V} (h : sca x = true) : TyX K H x (.type (tyName x)) := by
  cases x with
  | non => exact .base .non
  | bl b => exact .base (.bl b)
  | int i => exact .base (.int i)
  | str z => exact .base (.str z)
  | byt _ => cases h
  | flt _ => cases h
  | ref _ => cases h
  | ty _ => cases h
theorem kit_int {K : PySem.W.Frag} {x : V} (h : sca x = true) : PySem.W.kitOne K (.type (tyName x)) (.type "int") = some (is_int x) := by
  cases x with
  | non => exact kit_ty (show kitB "NoneType" "int" = some false by decide +kernel)
  | bl b => exact kit_ty (show kitB "bool" "int" = some true by decide +kernel)
  | int i => exact kit_ty (show kitB "int" "int" = some true by decide +kernel)
  | str z => exact kit_ty (show kitB "str" "int" = some false by decide +kernel)
  | byt _ => cases h
  | flt _ => cases h
  | ref _ => cases h
  | ty _ => cases h
theorem kit_bool {K : PySem.W.Frag} {x : V} (h : sca x = true) : PySem.W.kitOne K (.type (tyName x)) (.type "bool") = some (is_bool x) := by
  cases x with
  | non => exact kit_ty (show kitB "NoneType" "bool" = some false by decide +kernel)
  | bl b => exact kit_ty (show kitB "bool" "bool" = some true by decide +kernel)
  | int i => exact kit_ty (show kitB "int" "bool" = some false by decide +kernel)
  | str z => exact kit_ty (show kitB "str" "bool" = some false by decide +kernel)
  | byt _ => cases h
  | flt _ => cases h
  | ref _ => cases h
  | ty _ => cases h
end Rc
namespace Rc
open PySem PySem.Spec PyProof.Rows L2 RT
section
variable {prog : Program} {w : World} {A : Around} {E : Value → Shared → Prop} {s : Shared}
abbrev nilO (c : Nat) : Obj := { cls := .type "list", data := .seq #[] c }
/-- list.extend with a list's reversed iterator, into a new list at S -/
theorem rev_extend {it l S : Addr} {items : Array Value} {R : Result → Shared → Prop} {res : Value} {c0 : Nat} (hh : A.handled = none) (hit : s.heap.IsRevIter it l ((items.size : Int) - 1)) (hl : s.heap.IsList l items) (hne : l ≠ it)
    (hSi : S ≠ it) (hSl : S ≠ l) (hS : s.heap.get? S = some (nilO c0)) (hn : items.size ≤ sizeLine)
    (hR : ∀ h' tk acc c', (∀ b o, b ≠ S → b ≠ it → s.heap.get? b = some o → h'.get? b = some o) → h'.get? S = some { cls := .type "list", dict := none, data := .seq acc c', slots := #[] } →
      ItemsOf (fun i v => items[items.size - 1 - i]? = some v) acc items.size → R (.ok (.ret res)) { s with heap := h', toks := tk }) :
    wpAny (model prog w) A.in1 (Builtin.List.listExtendWith (.ref S) (.ref it) res)
      (fun fin z => match fin with | .done f => R (.ok f) z | .again c => c.quiet = true ∧ codeAny (model prog w) A c R z) (fun e z => R (.error e) z) s := by
  have W := (Walks.listRev (prog := prog) (w := w) (A := A.in1) hh it l hne items).toS
  have hf : S ∉ [it, l] := fun z => by
    rcases List.mem_cons.mp z with z | z
    · exact hSi z
    · exact hSl (List.mem_singleton.mp z)
  have ty : s.TypeIs (.ref it) "list_reverseiterator" := hit.typeIs
  have h1 : Builtin.List.listSameRef (.ref S) (.ref it) = false := by simp [Builtin.List.listSameRef, hSi]
  have h2 : (Value.type "list_reverseiterator" == Value.type "list") = false := by decide
  have h3 : (Value.type "list_reverseiterator" == Value.type "tuple") = false := by decide
  unfold Builtin.List.listExtendWith
  refine wpAny_bind (wpAny_typeOf ty ?_)
  simp only [h1, h2, h3, Bool.or_false, Bool.false_eq_true, if_false]
  refine wpAny_bind (wpAny_pyIter_revIter hit ?_)
  refine wpAny_bind (wpAny_holding ?_); unfold Builtin.List.listLengthHint
  refine wpAny_bind (wpAny_specialOf ty nolen_lri ?_)
  show wpAny _ A.in1 (specialOf (Value.ref it) (Str.ofString "__length_hint__") >>= _) _ _ _
  refine wpAny_bind (wpAny_specialOf ty hint_lri ?_)
  generalize hid : ("list_reverseiterator.__length_hint__" : String) = id0
  wp_delta
  rw [show splitId id0 = some ("list_reverseiterator", "__length_hint__") from by subst hid; decide +kernel]
  subst hid
  refine wpAny_bind (wpAny_isInstance (b := true) ty (by rw [isSubtype_type]; kernel_rfl) ?_)
  refine wpAny_pure ?_; rw [if_neg (by decide)]
  have e0 : ((items.size : Nat) : Int) - 1 - ((0 : Nat) : Int) = (items.size : Int) - 1 := by omega
  refine wpAny_pure ⟨plainId_quiet F.plain_extend_loop _, codeAny_extend_loopS W hn _ hf _ items.size 0 _ _ _ rfl (Nat.zero_le _) ⟨Nat.zero_le _, by rw [e0]; exact hit, hl⟩ hS (ItemsOf.nil _) fun z acc c' hm hz hacc => ?_⟩
  rw [Moved.eq_with hm]
  refine hR z.heap z.toks acc c' (fun b o h1 h2 e => hm.heap b o (fun hmem => ?_) e) hz hacc
  rcases List.mem_cons.mp hmem with q | q
  · exact h1 q
  · exact h2 (List.mem_singleton.mp q)
theorem call_list_rev {it l : Addr} {items : Array Value} {Q : Value → Shared → Prop} (hh : A.handled = none) (hit : s.heap.IsRevIter it l ((items.size : Int) - 1)) (hl : s.heap.IsList l items) (hne : l ≠ it) (hn : items.size ≤ sizeLine)
    (hQ : ∀ h' tk acc c', (∀ b o, b ≠ it → s.heap.get? b = some o → h'.get? b = some o) → h'.get? s.heap.objs.size = some { cls := .type "list", dict := none, data := .seq acc c', slots := #[] } →
      ItemsOf (fun i v => items[items.size - 1 - i]? = some v) acc items.size → Q (.ref s.heap.objs.size) { s with heap := h', toks := tk }) :
    wpAny (model prog w) A (call (.type "list") [.ref it]) Q E s := by
  refine callType_codes (Q₁ := fun obj z => obj = .ref s.heap.objs.size ∧ z = { s with heap := s.heap.push (nilO 0) }) F.called_list (F.typeCall_list_1 _) F.entry_list_init
    (code_list_new _ ⟨rfl, rfl⟩) fun obj z hz => ?_
  obtain ⟨rfl, rfl⟩ := hz
  obtain ⟨oi, hoi, _⟩ := id hit
  obtain ⟨ol, hol, _⟩ := id hl
  have hS : (s.heap.push (nilO 0)).get? s.heap.objs.size = some (nilO 0) := Heap.get?_push_size _ rfl
  have ni : s.heap.objs.size ≠ it := Nat.ne_of_gt (Heap.lt_size hoi)
  have nl : s.heap.objs.size ≠ l := Nat.ne_of_gt (Heap.lt_size hol)
  refine ⟨⟨_, hS, rfl⟩, F.args_list_init_2 _ _, ?_⟩
  show wpAny _ A.in1.in1 (do let old ← Builtin.List.listItems (.ref s.heap.objs.size); Builtin.List.listUpdate (.ref s.heap.objs.size) (fun _ => #[]); letGo old.toList.reverse; Builtin.List.listExtendWith (.ref s.heap.objs.size) (.ref it) .none) _ _ _
  refine wpAny_bind ?_; unfold Builtin.List.listItems
  refine wpAny_bind (wpAny_seqItems hS rfl (wpAny_pure ?_))
  show wpAny _ _ (updateSeq s.heap.objs.size (fun _ => #[]) >>= fun _ => letGo (#[] : Array Value).toList.reverse >>= fun _ => Builtin.List.listExtendWith (.ref s.heap.objs.size) (.ref it) .none) _ _ _
  refine wpAny_bind (wpAny_updateSeq hS rfl ?_)
  have hS2 := Heap.get?_update_self (Obj.mapSeq (fun _ => (#[] : Array Value))) hS rfl
  have oth : ∀ b o, b ≠ s.heap.objs.size → s.heap.get? b = some o → ((s.heap.push (nilO 0)).update s.heap.objs.size (Obj.mapSeq (fun _ => (#[] : Array Value)))).get? b = some o :=
    fun b o hb e => (Heap.get?_update_other _ _ (Ne.symm hb)).trans (Heap.get?_push_of_some _ e)
  refine wpAny_bind (wpAny_letGo ?_)
  refine rev_extend (A := A.in1) (s := { s with heap := _ }) hh (hit.at fun o e => oth _ _ ni.symm e) (hl.at fun o e => oth _ _ nl.symm e) hne ni nl hS2 hn fun h' tk acc c' hk hz hacc => ⟨rfl, ?_⟩
  exact hQ h' tk acc c' (fun b o hb e => hk b o (Nat.ne_of_lt (Heap.lt_size e)) hb (oth b o (Nat.ne_of_lt (Heap.lt_size e)) e)) hz hacc
end
section
variable {X : Cx}
/-- list(reversed(x)), x a list: a new list -/
def tListRev (K : PySem.W.Frag) (te : TE) : TE := fun σ H Q => te σ H fun v H1 => ∃ (a : Addr) (xs : List V), v = .ref a ∧ SqL K H1 a xs ∧ ∀ q, H1 q = none → Q (.ref q) (upd H1 q (.lst xs.reverse))
theorem pe_listRev {e : Expr} {te : TE} {p p2 pos pos2 : Pos} (hc : X.calm = true) (hg : Gl X "list") (hm : X.mg "list" = none) (hg2 : Gl X "reversed") (hm2 : X.mg "reversed" = none) (he : PE X e te)
    (hs : starEach [e] X.env = (false, eval e X.env) :: starEach [] X.env := by rfl)
    (hs2 : starEach [.Call (.Name "reversed" p2) [e] [] pos2] X.env = (false, eval (.Call (.Name "reversed" p2) [e] [] pos2) X.env) :: starEach [] X.env := by rfl) :
    PE X (.Call (.Name "list" p) [.Call (.Name "reversed" p2) [e] [] pos2] [] pos) (tListRev X.K te) := by
  refine ⟨fun pins s σ H Q I h => Call_ (ld_blt I hg hm (show bootBuiltins ("list" : Str) = some (.type "list") by decide +kernel) (PyProof.Rows.callWith_type1 (args_cons (Call_ (ld_blt I hg2 hm2 PyProof.Rows.boot_reversed (PyProof.Rows.callWith_type1 (args_cons (thn (he.run pins s σ H _ I h) fun u s1 ⟨v, H1, I1, r1, q1⟩ => args_nil ?_) hs) hs rfl))) hs2) hs2 rfl))⟩
  obtain ⟨a, xs, ev, hq, q⟩ := q1
  subst ev; obtain rfl : u = Value.ref a := r1
  obtain ⟨its, rv, pl, hz⟩ := I1.list hq
  refine call_reversed_list pl.isList (args_nil ?_)
  have k0 : ∀ b o, s1.heap.get? b = some o → (s1.heap.push (revObj a ((its.toArray.size : Int) - 1))).get? b = some o := fun b o z => Heap.get?_push_of_some _ z
  have I2 : Inv X pins σ H1 { s1 with heap := s1.heap.push (revObj a ((its.toArray.size : Int) - 1)) } := I1.kept (t' := s1.toks) k0
  have hl := pl.isList
  obtain ⟨ol, hol, _⟩ := id hl
  have hne : a ≠ s1.heap.objs.size := Nat.ne_of_lt (Heap.lt_size hol)
  have hn : its.toArray.size ≤ sizeLine := by rw [List.size_toArray, ← rv.length]; exact hz
  have hf := I1.hok.fresh (Nat.le_refl s1.heap.objs.size)
  refine call_list_rev (s := { s1 with heap := s1.heap.push (revObj a ((its.toArray.size : Int) - 1)) }) (I1.ok.hd hc) ⟨_, Heap.get?_push_size _ rfl, rfl, rfl⟩ (hl.push _) hne hn fun h' tk acc c' hk hS hi => ?_
  have hsz : s1.heap.objs.size ≤ (s1.heap.push (revObj a ((its.toArray.size : Int) - 1))).objs.size := by rw [Heap.size_push]; omega
  have kk : ∀ b o, s1.heap.get? b = some o → h'.get? b = some o := fun b o z => hk b o (Nat.ne_of_lt (Heap.lt_size z)) (k0 b o z)
  refine ⟨.ref (s1.heap.push (revObj a ((its.toArray.size : Int) - 1))).objs.size, upd H1 (s1.heap.push (revObj a ((its.toArray.size : Int) - 1))).objs.size (.lst xs.reverse),
    I1.laid kk hsz (show ObjOk X.prog X.w _ _ _ (.lst xs.reverse) from ⟨by rw [List.length_reverse]; exact hz, acc.toList, c', vals_rev rv hi, ?_⟩), rfl, q _ (I1.hok.fresh hsz)⟩
  rw [Array.toArray_toList]
  exact hS
end
end Rc
namespace Rc
def turnedI (marks others : List Bool) (heap other : Int) : Int := if marks.getD heap.toNat false = true then (others.length : Int) - 1 - other else other
def joinedRow (ms os : List Bool) (h n : Nat) : List Bool := (List.range n).map fun g : Nat => ms.getD h false != os.getD (turnedI ms os h g).toNat false
def joinedTo (ms os : List Bool) (n : Nat) : List Bool := (List.range n).flatMap fun h => joinedRow ms os h os.length
def joinedM (ms os : List Bool) : List Bool := joinedTo ms os ms.length
theorem turnedI_bd (ms os : List Bool) (h g : Int) (h0 : 0 ≤ g) (h1 : g < os.length) : 0 ≤ turnedI ms os h g ∧ turnedI ms os h g < os.length := by
  unfold turnedI; split <;> omega
theorem joinedRow_next (ms os : List Bool) (l : List Bool) (h n : Nat) : (l ++ joinedRow ms os h n) ++ [ms.getD h false != os.getD (turnedI ms os h n).toNat false] = l ++ joinedRow ms os h (n + 1) := by
  unfold joinedRow; rw [List.range_succ, List.map_append, List.append_assoc]; rfl
theorem joinedTo_next (ms os : List Bool) (n : Nat) : joinedTo ms os n ++ joinedRow ms os n os.length = joinedTo ms os (n + 1) := by
  unfold joinedTo; rw [List.range_succ, List.flatMap_append]; simp
theorem joinedTo_length (ms os : List Bool) (n : Nat) : (joinedTo ms os n).length = n * os.length := by
  induction n with
  | zero => simp [joinedTo]
  | succ n ih => rw [← joinedTo_next, List.length_append, ih]; simp [joinedRow, Nat.succ_mul]
theorem joined_size {ms os : List Bool} {h n : Nat} (hh : h < ms.length) (hn : n < os.length) (hm : ms.length * os.length ≤ 400) : (joinedTo ms os h ++ joinedRow ms os h n).length < 100000 := by
  rw [List.length_append, joinedTo_length]
  have : (joinedRow ms os h n).length = n := by simp [joinedRow]
  have h2 : (h + 1) * os.length ≤ ms.length * os.length := Nat.mul_le_mul_right _ hh
  rw [Nat.succ_mul] at h2
  omega
def dueRow (m : Bool) (os : List Bool) : List Bool := if m = true then os.reverse else os
def dueTo (ms os : List Bool) (i : Nat) : List Bool := (ms.take i).flatMap fun m => (dueRow m os).map fun o => m != o
theorem take_nx {α : Type} {ns : List α} {i : Nat} {y : α} (h : ns[i]? = some y) : ns.take (i + 1) = ns.take i ++ [y] := by rw [List.take_add_one, h]; rfl
theorem dueTo_next {ms os row : List Bool} {i : Nat} {m : Bool} (hy : ms[i]? = some m) (hj : row = dueRow m os) : dueTo ms os i ++ (row.take row.length).map (fun o => m != o) = dueTo ms os (i + 1) := by
  unfold dueTo; rw [take_nx hy, List.flatMap_append, List.take_length, hj]; simp
theorem dueRow_length (m : Bool) (os : List Bool) : (dueRow m os).length = os.length := by unfold dueRow; split <;> simp
theorem dueTo_length (ms os : List Bool) (i : Nat) (hi : i ≤ ms.length) : (dueTo ms os i).length = i * os.length := by
  induction i with
  | zero => simp [dueTo]
  | succ i ih =>
    have hy : ms[i]? = some ms[i] := List.getElem?_eq_getElem (by omega)
    rw [← dueTo_next hy rfl, List.length_append, ih (by omega), List.length_map, List.take_length, dueRow_length, Nat.succ_mul]
theorem due_size {ms os row : List Bool} {h n : Nat} {m : Bool} (hh : h < ms.length) (hn : n < row.length) (hm : ms.length * os.length ≤ 400) (hj : row = dueRow m os) : (dueTo ms os h).length + (row.take n).length < 100000 := by
  rw [dueTo_length _ _ _ (by omega), List.length_take]
  rw [hj, dueRow_length] at hn ⊢
  have h2 : (h + 1) * os.length ≤ ms.length * os.length := Nat.mul_le_mul_right _ hh
  rw [Nat.succ_mul] at h2
  omega
theorem dueRow_eq (ms os : List Bool) (h : Nat) : joinedRow ms os h os.length = (dueRow (ms.getD h false) os).map fun o => ms.getD h false != o := by
  unfold dueRow joinedRow turnedI
  rw [Int.toNat_natCast]
  generalize ms.getD h false = m
  split
  · rename_i hm
    apply List.ext_getElem
    · simp
    · intro i h1 h2
      have hi : i < os.length := by simpa using h1
      simp only [List.getElem_map, List.getElem_range, List.getElem_reverse]
      have : ((os.length : Int) - 1 - (i : Int)).toNat = os.length - 1 - i := by omega
      rw [this, List.getD_eq_getElem?_getD, List.getElem?_eq_getElem (by omega)]; rfl
  · apply List.ext_getElem
    · simp
    · intro i h1 h2
      have hi : i < os.length := by simpa using h1
      simp only [List.getElem_map, List.getElem_range]
      rw [Int.toNat_natCast, List.getD_eq_getElem?_getD, List.getElem?_eq_getElem (by omega)]; rfl
theorem dueTo_to (ms os : List Bool) (i : Nat) (hi : i ≤ ms.length) : dueTo ms os i = joinedTo ms os i := by
  induction i with
  | zero => rfl
  | succ i ih =>
    have hy : ms[i]? = some ms[i] := List.getElem?_eq_getElem (by omega)
    rw [← dueTo_next hy rfl, ih (by omega), ← joinedTo_next, List.take_length, dueRow_eq]
    have : ms.getD i false = ms[i] := by rw [List.getD_eq_getElem?_getD, hy]; rfl
    rw [this]
theorem dueTo_all (ms os : List Bool) : dueTo ms os ms.length = joinedM ms os := dueTo_to _ _ _ (Nat.le_refl _)
theorem prod20 {a b : Nat} (ha : a ≤ 20) (hb : b ≤ 20) : a * b ≤ 400 := Nat.mul_le_mul ha hb
theorem joinedM_length (ms os : List Bool) : (joinedM ms os).length = ms.length * os.length := joinedTo_length _ _ _
end Rc
namespace Rc
open PySem PySem.Spec PyProof.Rows L2 Evl

local macro_rules | `(tactic| walk_at "side") => `(tactic| first | omega | assumption | (simp only [List.length_map, List.length_append, List.length_cons, List.length_nil] at *; omega) | (simp at *; omega))
local macro_rules | `(tactic| walk_at "size") => `(tactic| first | (refine Evl.sz_lt ?_; simp only [List.length_map, List.length_append, List.length_cons, List.length_nil, List.length_set, List.length_replicate, List.length_reverse]; omega) | (refine Evl.sz_of ?_; simp only [List.length_map, List.length_append, List.length_cons, List.length_nil, List.length_set, List.length_replicate, List.length_reverse]; omega) | (refine Evl.sz_lt ?_; simp; omega) | (refine Evl.sz_of ?_; simp; omega))
local macro_rules | `(tactic| walk_at "csize") => `(tactic| first | (refine Evl.sz_lt ?_; simp only [List.length_map, List.length_take, List.length_range]; omega) | (refine Evl.sz_lt ?_; simp only [List.length_map]; refine Nat.lt_of_le_of_lt (List.length_filter_le _ _) ?_; simp only [List.length_take, List.length_range]; omega))
local macro_rules | `(tactic| walk_at "inv") => `(tactic| first | omega | assumption | rfl | (simp only [List.length_append, List.length_cons, List.length_nil, List.length_set]; omega) | (simp; omega) | simp_all)
local macro_rules | `(tactic| walk_at "post") => `(tactic| first | rfl | assumption | omega | (simp_all; done) | (simp_all; omega))
local macro_rules | `(tactic| walk_at "mul") => `(tactic| first | exact .inl (by omega) | exact .inr (by omega))
local macro_rules | `(tactic| walk_at "div") => `(tactic| exact ⟨by omega, by omega⟩)
local macro_rules | `(tactic| walk_at "widediv") => `(tactic| first | exact ⟨by omega, wl_of (by omega) (by omega)⟩)
local macro_rules | `(tactic| walk_at "rgok") => `(tactic| exact ⟨by omega, by omega, by omega, by omega, by omega⟩)
local macro_rules | `(tactic| walk_at "rgc") => `(tactic| omega)
local macro_rules | `(tactic| walk_at "comp") => `(tactic| first | (simp_all; done) | (simp_all; omega) | grind)
def topS (i : Nat) : Stmt := PySem.Challenge.pw_riftcarry_k31_joined_marks.main.body.getD i (.Pass ⟨0, 0, 0, 0⟩)
abbrev s_law_cell_at : Stmt := topS 4
abbrev s_law_mixed : Stmt := topS 5
abbrev s_law_marks : Stmt := topS 7
abbrev s_law_due : Stmt := topS 10
abbrev s_turned_about : Stmt := topS 1
abbrev s_joined_marks : Stmt := topS 2
abbrev s_law_held : Stmt := topS 11
abbrev s_law : Stmt := topS 12
structure Txt (K : PySem.W.Frag) (mg : Str → Option Value) where
  f_law_cell_at : Addr
  fd_law_cell_at : FuncData
  F_law_cell_at : Fun K "_law_cell_at" "_law_cell_at" s_law_cell_at f_law_cell_at fd_law_cell_at
  g_law_cell_at : mg "_law_cell_at" = some (.ref f_law_cell_at)
  b_law_cell_at : Binds K fd_law_cell_at ["_law_script", "_law_k"] []
  f_law_mixed : Addr
  fd_law_mixed : FuncData
  F_law_mixed : Fun K "_law_mixed" "_law_mixed" s_law_mixed f_law_mixed fd_law_mixed
  g_law_mixed : mg "_law_mixed" = some (.ref f_law_mixed)
  b_law_mixed : Binds K fd_law_mixed ["_law_cell", "_law_k"] []
  f_law_marks : Addr
  fd_law_marks : FuncData
  F_law_marks : Fun K "_law_marks" "_law_marks" s_law_marks f_law_marks fd_law_marks
  g_law_marks : mg "_law_marks" = some (.ref f_law_marks)
  b_law_marks : Binds K fd_law_marks ["_law_cell", "_law_most"] []
  f_law_due : Addr
  fd_law_due : FuncData
  F_law_due : Fun K "_law_due" "_law_due" s_law_due f_law_due fd_law_due
  g_law_due : mg "_law_due" = some (.ref f_law_due)
  b_law_due : Binds K fd_law_due ["_law_marks_here", "_law_others"] []
  f_turned_about : Addr
  fd_turned_about : FuncData
  F_turned_about : Fun K "turned_about" "turned_about" s_turned_about f_turned_about fd_turned_about
  g_turned_about : mg "turned_about" = some (.ref f_turned_about)
  b_turned_about : Binds K fd_turned_about ["marks", "others", "heap", "other"] []
  f_joined_marks : Addr
  fd_joined_marks : FuncData
  F_joined_marks : Fun K "joined_marks" "joined_marks" s_joined_marks f_joined_marks fd_joined_marks
  g_joined_marks : mg "joined_marks" = some (.ref f_joined_marks)
  b_joined_marks : Binds K fd_joined_marks ["marks", "others"] []
  f_law_held : Addr
  fd_law_held : FuncData
  F_law_held : Fun K "_law_held" "_law_held" s_law_held f_law_held fd_law_held
  g_law_held : mg "_law_held" = some (.ref f_law_held)
  b_law_held : Binds K fd_law_held ["_law_marks_here", "_law_others"] []
  f_law : Addr
  fd_law : FuncData
  F_law : Fun K "law" "law" s_law f_law fd_law
  g_law : mg "law" = some (.ref f_law)
  b_law : Binds K fd_law ["_law_script"] []
  m_abs : mg "abs" = none
  m_bool : mg "bool" = none
  m_isinstance : mg "isinstance" = none
  m_len : mg "len" = none
  m_list : mg "list" = none
  m_min : mg "min" = none
  m_range : mg "range" = none
  m_reversed : mg "reversed" = none
section
variable {P : Program} {w : World} {K : PySem.W.Frag} {mg : Str → Option Value} {base : Heap}
def sp_law_cell_at (K : PySem.W.Frag) : Sp := fun vs H Q _ => ∃ (a_script : Addr) (script : List Int) (k : Int), vs = [V.ref a_script, V.int k] ∧ SqL K H a_script (List.map V.int script) ∧ (0 ≤ k) ∧ (∀ (H1 : Hp) (res : Int), (True) → Same H H1 → Q (V.int res) H1)
theorem sc_law_cell_at : FnScope ["_law_script", "_law_k"] ["_law_script", "_law_k"] (defScope s_law_cell_at) := ⟨rfl, rfl, rfl, by decide +kernel, rfl, by decide +kernel, by decide +kernel⟩
theorem ok_law_cell_at (T : Txt K mg) : FnOk P w K mg base CX0 1 T.f_law_cell_at T.fd_law_cell_at ["_law_script", "_law_k"] (sp_law_cell_at K) := by
  refine T.F_law_cell_at.ok sc_law_cell_at (fun vs H Q E h => ?_) (fun cdv A outer s H vs Q E hr h => ?_)
  · obtain ⟨a_script, script, k, rfl, _⟩ := h; rfl
  · obtain ⟨a_script, script, k, rfl, h_script, pre0, q⟩ := h
    have fr := Fr.nil H
    refine ⟨_, (pss_cons (ps_if (pt_cmpR op_ltS (pv 1) (pe_callB call_lenL (by rfl) T.m_len (by decide +kernel) (pa_cons (pv 0) pa_nil)) (nomark _)) (pss_one (ps_ret (pe_ix ix_list (pv 0) (pv 1) (fun _ _ => rfl)))) pss_nil)
          (pss_one (ps_ret pe_int))), ?_⟩
    refine ⟨_, rfl, _, rfl, _, _, _, rfl, (fr.same.seq h_script), (List.length_map _), _, _, rfl, rfl, ?_, ?_⟩
    · intro h1
      refine ⟨_, rfl, ?_⟩
      refine iteT ?_
      refine ⟨_, rfl, _, rfl, _, _, _, _, rfl, rfl, (fr.same.seq h_script), (atD 0 ?_ ?_), ?_⟩
      · walk_at "side"
      · walk_at "side"
      exact q _ ((List.getD script (Int.toNat k) 0)) (by trivial) fr.same
    · intro h1
      refine ⟨_, rfl, ?_⟩
      refine iteF ?_
      exact q _ 0 (by trivial) fr.same
def sp_law_mixed (K : PySem.W.Frag) : Sp := fun vs H Q _ => ∃ (cell : Int) (k : Int), vs = [V.int cell, V.int k] ∧ (0 ≤ k ∧ k < 1000) ∧ (∀ (H1 : Hp) (res : Int), (0 ≤ res ∧ res < 2147483647) → Same H H1 → Q (V.int res) H1)
theorem sc_law_mixed : FnScope ["_law_cell", "_law_k", "_law_number"] ["_law_cell", "_law_k"] (defScope s_law_mixed) := ⟨rfl, rfl, rfl, by decide +kernel, rfl, by decide +kernel, by decide +kernel⟩
theorem ok_law_mixed (T : Txt K mg) : FnOk P w K mg base CX0 1 T.f_law_mixed T.fd_law_mixed ["_law_cell", "_law_k"] (sp_law_mixed K) := by
  refine T.F_law_mixed.ok sc_law_mixed (fun vs H Q E h => ?_) (fun cdv A outer s H vs Q E hr h => ?_)
  · obtain ⟨cell, k, rfl, _⟩ := h; rfl
  · obtain ⟨cell, k, rfl, pre0, q⟩ := h
    have fr := Fr.nil H
    refine ⟨_, (pss_cons (ps_set (i := 2) sc_law_mixed.nd rfl (Or.inl rfl) (pe_op op_mod (pe_op op_mul (pe_op op_add (pe_op op_add (pe_op op_mod (pe_callB call_absI (by rfl) T.m_abs (by decide +kernel) (pa_cons (pv 0) pa_nil)) pe_int) (pe_op op_mul pe_int (pv 1))) pe_int) (pe_op op_add pe_int (pe_op op_mul (pv 1) (pv 1)))) pe_int))
          (pss_one (ps_ret (pe_op op_mod (pe_op op_mul (pv 2) pe_int) pe_int)))), ?_⟩
    refine ⟨_, rfl, _, rfl, _, _, rfl, rfl, (show (0 : Int) < _ by decide), _, rfl, _, _, rfl, rfl, (.inl (by decide)), _, _, rfl, rfl, _, _, rfl, rfl, _, rfl, _, rfl, _, _, rfl, rfl, ?_, _, _, rfl, rfl, _, _, rfl, rfl, ?_, _, _, rfl, rfl, (show (0 : Int) < _ by decide), ?_⟩
    · walk_at "mul"
    · walk_at "mul"
    refine ⟨_, rfl, _, _, rfl, rfl, (.inr (by decide)), _, _, rfl, rfl, (show (0 : Int) < _ by decide), ?_⟩
    exact q _ (((((((((cell.natAbs : Int) % 2147483647) + (97 * k)) + 13) * (16807 + (k * k))) % 2147483647) * 48271) % 2147483647)) (by exact ⟨Int.emod_nonneg _ (by decide), Int.emod_lt_of_pos _ (by decide)⟩) fr.same
def sp_law_marks (K : PySem.W.Frag) : Sp := fun vs H Q _ => ∃ (cell : Int) (most : Int), vs = [V.int cell, V.int most] ∧ (1 ≤ most ∧ most ≤ 400) ∧ (∀ (H1 : Hp) (r : Addr) (res : List Bool), (1 ≤ res.length ∧ (res.length : Int) ≤ most) → Same H H1 → H r = none → H1 r = some (.lst (List.map V.bl res)) → Q (V.ref r) H1)
theorem sc_law_marks : FnScope ["_law_cell", "_law_most", "_law_many", "_law_rest", "_law_marks_here", "_law_k", "_law_bit"] ["_law_cell", "_law_most"] (defScope s_law_marks) := ⟨rfl, rfl, rfl, by decide +kernel, rfl, by decide +kernel, by decide +kernel⟩
theorem ok_law_marks (T : Txt K mg) : FnOk P w K mg base CX0 2 T.f_law_marks T.fd_law_marks ["_law_cell", "_law_most"] (sp_law_marks K) := by
  refine T.F_law_marks.ok sc_law_marks (fun vs H Q E h => ?_) (fun cdv A outer s H vs Q E hr h => ?_)
  · obtain ⟨cell, most, rfl, _⟩ := h; rfl
  · obtain ⟨cell, most, rfl, pre0, q⟩ := h
    have fr := Fr.nil H
    refine ⟨_, (pss_cons (ps_set (i := 2) sc_law_marks.nd rfl (Or.inl rfl) (pe_op op_add pe_int (pe_op op_mod (pv 0) (pv 1))))
          (pss_cons (ps_set (i := 3) sc_law_marks.nd rfl (Or.inl rfl) (pe_op op_fdiv (pv 0) (pv 1)))
          (pss_cons (ps_set (i := 4) sc_law_marks.nd rfl (Or.inl rfl) (pe_lst pa_nil))
          (pss_cons (ps_for PassesOwn.never rfl (pi_range1 (by rfl) T.m_range (pa_cons (pv 2) pa_nil)) (pg_name (i := 5) sc_law_marks.nd rfl (Or.inl rfl)) (pss_cons (ps_set (i := 6) sc_law_marks.nd rfl (Or.inl rfl) (pe_op op_mod (pv 3) pe_int))
          (pss_cons (ps_set (i := 3) sc_law_marks.nd rfl (Or.inl rfl) (pe_op op_fdiv (pv 3) pe_int))
          (pss_cons (ps_if (pt_cmpR op_ltS (pe_callB call_absI (by rfl) T.m_abs (by decide +kernel) (pa_cons (pv 0) pa_nil)) (pe_op op_powL pe_int pe_int) (nomark _)) (pss_one (ps_set (i := 6) sc_law_marks.nd rfl (Or.inl rfl) (pe_op op_mod (pe_op op_fdiv (pe_call (ok_law_mixed T) (hr.mono (by decide)) (by rfl) T.g_law_mixed T.F_law_mixed.kp T.b_law_mixed .nil pass0 (pa_cons (pv 0) (pa_cons (pe_op op_add (pv 5) pe_int) pa_nil))) pe_int) pe_int))) pss_nil)
          (pss_one (ps_expr (pe_bm PySem.F.plainAttrs_list PySem.F.slot_list_append PySem.F.type_list_append mt_append (pv 4) (pa_cons (pe_cmp (pc_eqI (pv 6) pe_int)) pa_nil))))))))
          (pss_one (ps_ret (pv 4))))))), ?_⟩
    refine ⟨_, rfl, _, rfl, _, _, rfl, rfl, ?_, _, _, rfl, rfl, ?_⟩
    · walk_at "side"
    dsimp only
    generalize e_law_many_2 : ((1 + (cell % most)) : Int) = many_1
    have hm1 := Int.emod_nonneg cell (show most ≠ 0 by omega); have hm2 := Int.emod_lt_of_pos cell (show 0 < most by omega)
    refine ⟨_, rfl, _, rfl, _, _, rfl, rfl, ?_, ?_⟩
    · walk_at "div"
    refine ⟨(Evl.sz_of (show 0 ≤ 100000 by decide)), fun l_3 nl_4 => ?_⟩
    have fr : Fr H _ [(l_3, (.lst [] : HO))] := fr.new nl_4
    have fr : Fr H _ [(l_3, (.lst (List.map V.bl ([])) : HO))] := fr
    refine ⟨_, rfl, _, rfl, ?_, ?_, ?_⟩
    · walk_at "side"
    · walk_at "side"
    refine for_it (walkR (n := (Int.toNat many_1))) (fun (i : Nat) σ H1 => ∃ (rest_5 : Int) (marks_6 : List Bool) (y_7 : Option V) (y_8 : Option V), σ = [some (V.int cell), some (V.int most), some (V.int many_1), some (V.int rest_5), some (V.ref l_3), y_7, y_8] ∧ Fr H H1 [(l_3, (.lst (List.map V.bl marks_6) : HO))] ∧ (marks_6.length = i)) ?_ ?_ ?_ ?_
    · refine ⟨(cell / most), [], _, _, rfl, fr, ?_⟩
      · walk_at "inv"
    · rintro i σ H1 hi ⟨rest_5, marks_6, y_7, y_8, rfl, fr, hl⟩
      exact trivial
    · rintro i_9 x_11 s_14 H_12 H_13 hi_10 ⟨rest_5, marks_6, y_7, y_8, rfl, fr, hl⟩ ⟨rfl, rfl⟩
      refine ⟨_, rfl, _, _, rfl, rfl, (show (0 : Int) < _ by decide), ?_⟩
      refine ⟨_, rfl, _, _, rfl, rfl, ⟨by decide, by decide⟩, ?_⟩
      refine ⟨_, rfl, _, rfl, _, _, 1000000000000000000, rfl, rfl, ⟨by decide, by decide, by decide⟩, (by decide), _, _, rfl, rfl, ?_, ?_⟩
      · intro h15
        refine ⟨_, rfl, ?_⟩
        refine iteT ?_
        refine ⟨_, rfl, _, rfl, _, _, rfl, rfl, cell, (((i_9 : Int) + 200)), rfl, ?_, fun H_16 mixed_17 hp_19 sm_18 => ?_⟩
        · walk_at "side"
        have fr : Fr H _ [(l_3, (.lst (List.map V.bl marks_6) : HO))] := fr.call sm_18
        refine ⟨_, _, rfl, rfl, ⟨by decide, by decide⟩, _, _, rfl, rfl, (show (0 : Int) < _ by decide), ?_⟩
        refine ⟨_, rfl, (.inl ⟨rfl, _, (SqL.of fr.at0)⟩), _, rfl, _, _, rfl, rfl, _, _, _, rfl, rfl, fr.at0, ?_, ?_⟩
        · walk_at "size"
        have fr : Fr H _ [(l_3, (.lst (List.map V.bl ((marks_6 ++ [decide (((mixed_17 / 7) % 2) = 1)]))) : HO))] := (Fr.wr fr).cast (lst_app _ _ _)
        refine ⟨(rest_5 / 2), (marks_6 ++ [decide (((mixed_17 / 7) % 2) = 1)]), _, _, rfl, fr, ?_⟩
        · walk_at "inv"
      · intro h15
        refine ⟨_, rfl, ?_⟩
        refine iteF ?_
        refine ⟨_, rfl, (.inl ⟨rfl, _, (SqL.of fr.at0)⟩), _, rfl, _, _, rfl, rfl, _, _, _, rfl, rfl, fr.at0, ?_, ?_⟩
        · walk_at "size"
        have fr : Fr H _ [(l_3, (.lst (List.map V.bl ((marks_6 ++ [decide ((rest_5 % 2) = 1)]))) : HO))] := (Fr.wr fr).cast (lst_app _ _ _)
        refine ⟨(rest_5 / 2), (marks_6 ++ [decide ((rest_5 % 2) = 1)]), _, _, rfl, fr, ?_⟩
        · walk_at "inv"
    rintro s_21 H_20 ⟨rest_5, marks_6, y_7, y_8, rfl, fr, hl⟩
    refine ⟨_, rfl, ?_⟩
    exact q _ _ marks_6 (by walk_at "post") fr.same fr.n0 fr.at0
def sp_law_due (K : PySem.W.Frag) : Sp := fun vs H Q _ => ∃ (a_marks : Addr) (marks : List Bool) (a_others : Addr) (others : List Bool), vs = [V.ref a_marks, V.ref a_others] ∧ H a_marks = some (.lst (List.map V.bl marks)) ∧ H a_others = some (.lst (List.map V.bl others)) ∧ (marks.length ≤ 400 ∧ others.length ≤ 400 ∧ marks.length * others.length ≤ 400) ∧ (∀ (H1 : Hp) (r : Addr) (res : List Bool), (res = joinedM marks others) → Same H H1 → H r = none → H1 r = some (.lst (List.map V.bl res)) → Q (V.ref r) H1)
theorem sc_law_due : FnScope ["_law_marks_here", "_law_others", "_law_due_here", "_law_mark", "_law_row", "_law_other"] ["_law_marks_here", "_law_others"] (defScope s_law_due) := ⟨rfl, rfl, rfl, by decide +kernel, rfl, by decide +kernel, by decide +kernel⟩
theorem ok_law_due (T : Txt K mg) : FnOk P w K mg base CX0 1 T.f_law_due T.fd_law_due ["_law_marks_here", "_law_others"] (sp_law_due K) := by
  refine T.F_law_due.ok sc_law_due (fun vs H Q E h => ?_) (fun cdv A outer s H vs Q E hr h => ?_)
  · obtain ⟨a_marks, marks, a_others, others, rfl, _⟩ := h; rfl
  · obtain ⟨a_marks, marks, a_others, others, rfl, h_marks, h_others, pre0, q⟩ := h
    have fr := Fr.nil H
    refine ⟨_, (pss_cons (ps_set (i := 2) sc_law_due.nd rfl (Or.inl rfl) (pe_lst pa_nil))
          (pss_cons (ps_for PassesOwn.never rfl (pi_list (pv 0)) (pg_name (i := 3) sc_law_due.nd rfl (Or.inl rfl)) (pss_cons (ps_set (i := 4) sc_law_due.nd rfl (Or.inl rfl) (pe_callTy call_list_of (by rfl) T.m_list (by decide +kernel) (pa_cons (pv 1) pa_nil)))
          (pss_cut (ps_if (pt_valS (pv 3)) (pss_one (ps_set (i := 4) sc_law_due.nd rfl (Or.inl rfl) (pe_listRev rfl (by rfl) T.m_list (by rfl) T.m_reversed (pv 1)))) pss_nil)
          (pss_one (ps_for PassesOwn.never rfl (pi_list (pv 4)) (pg_name (i := 5) sc_law_due.nd rfl (Or.inl rfl)) (pss_one (ps_expr (pe_bm PySem.F.plainAttrs_list PySem.F.slot_list_append PySem.F.type_list_append mt_append (pv 2) (pa_cons (pe_cmpR op_neB (pv 3) (pv 5) (nomark _)) pa_nil)))))))))
          (pss_one (ps_ret (pv 2))))), ?_⟩
    refine ⟨(Evl.sz_of (show 0 ≤ 100000 by decide)), fun l_1 nl_2 => ?_⟩
    have fr : Fr H _ [(l_1, (.lst [] : HO))] := fr.new nl_2
    have fr : Fr H _ [(l_1, (.lst (List.map V.bl ([])) : HO))] := fr
    refine ⟨_, rfl, _, rfl, ⟨_, (SqL.of (fr.same _ _ h_marks))⟩, ?_⟩
    refine for_it (walkL V.bl marks) (fun (i : Nat) σ H1 => ∃ (due_3 : List Bool) (y_4 : Option V) (y_5 : Option V) (y_6 : Option V), σ = [some (V.ref a_marks), some (V.ref a_others), some (V.ref l_1), y_4, y_5, y_6] ∧ Fr H H1 [(l_1, (.lst (List.map V.bl due_3) : HO))] ∧ (due_3 = dueTo marks others i)) ?_ ?_ ?_ ?_
    · refine ⟨[], _, _, _, rfl, fr, ?_⟩
      · rfl
    · rintro i σ H1 hi ⟨due_3, y_4, y_5, y_6, rfl, fr, hrow⟩
      exact (fr.same _ _ h_marks)
    · rintro i_7 x_9 s_12 H_10 H_11 hi_8 ⟨due_3, y_4, y_5, y_6, rfl, fr, hrow⟩ ⟨rfl, y_13, hy_14, rfl⟩
      refine ⟨_, rfl, _, _, rfl, (.inl (SqL.of (fr.same _ _ h_others))), fun l_15 nl_16 => ?_⟩
      have fr : Fr H _ [(l_15, (.lst (List.map V.bl others) : HO)), (l_1, (.lst (List.map V.bl due_3) : HO))] := fr.new nl_16
      refine ⟨fun σ H1 => ∃ (a_law_row_17 : Addr) (row_18 : List Bool), σ = [some (V.ref a_marks), some (V.ref a_others), some (V.ref l_1), some (V.bl y_13), some (V.ref a_law_row_17), y_6] ∧ Fr H H1 [(a_law_row_17, (.lst (List.map V.bl row_18) : HO)), (l_1, (.lst (List.map V.bl due_3) : HO))] ∧ (row_18 = dueRow y_13 others), ?_, ?_⟩
      · refine ⟨_, rfl, _, rfl, ?_, ?_⟩
        · intro h19
          refine iteT ?_
          refine ⟨_, rfl, _, _, rfl, (SqL.of (fr.same _ _ h_others)), fun l_20 nl_21 => ?_⟩
          have fr : Fr H _ [(l_20, (.lst (List.map V.bl ((List.reverse others))) : HO)), (l_15, (.lst (List.map V.bl others) : HO)), (l_1, (.lst (List.map V.bl due_3) : HO))] := (fr.new nl_21).cast (lst_rev _ _)
          have fr := Fr.d1 fr
          refine ⟨l_20, (List.reverse others), rfl, fr, ?_⟩
          · simp_all [dueRow]
        · intro h19
          refine iteF ?_
          refine ⟨l_15, others, rfl, fr, ?_⟩
          · simp_all [dueRow]
      rintro s_23 H_22 ⟨a_law_row_17, row_18, rfl, fr, hj⟩
      refine ⟨_, rfl, _, rfl, ⟨_, (SqL.of fr.at0)⟩, ?_⟩
      refine for_it (walkL V.bl row_18) (fun (i : Nat) σ H1 => ∃ (due_24 : List Bool) (y_25 : Option V), σ = [some (V.ref a_marks), some (V.ref a_others), some (V.ref l_1), some (V.bl y_13), some (V.ref a_law_row_17), y_25] ∧ Fr H H1 [(a_law_row_17, (.lst (List.map V.bl row_18) : HO)), (l_1, (.lst (List.map V.bl due_24) : HO))] ∧ (due_24 = dueTo marks others i_7 ++ (row_18.take i).map fun o => y_13 != o)) ?_ ?_ ?_ ?_
      · refine ⟨due_3, _, rfl, fr, ?_⟩
        · rw [hrow]; simp
      · rintro i σ H1 hi ⟨due_24, y_25, rfl, fr, hrow⟩
        exact fr.at0
      · rintro i_26 x_28 s_31 H_29 H_30 hi_27 ⟨due_24, y_25, rfl, fr, hrow⟩ ⟨rfl, y_32, hy_33, rfl⟩
        refine ⟨_, rfl, (.inl ⟨rfl, _, (SqL.of fr.at1)⟩), _, rfl, _, rfl, _, _, rfl, rfl, _, _, _, rfl, rfl, fr.at1, ?_, ?_⟩
        · rw [hrow, List.length_map, List.length_append, List.length_map]; exact Evl.sz_lt (due_size hi_8 hi_27 pre0.2.2 hj)
        have fr : Fr H _ [(a_law_row_17, (.lst (List.map V.bl row_18) : HO)), (l_1, (.lst (List.map V.bl ((due_24 ++ [(y_13 != y_32)]))) : HO))] := (Fr.wr1 fr).cs1 (lst_app _ _ _)
        refine ⟨(due_24 ++ [(y_13 != y_32)]), _, rfl, fr, ?_⟩
        · rw [hrow, take_next hy_33]; simp
      rintro s_35 H_34 ⟨due_24, y_25, rfl, fr, hrow⟩
      have fr := Fr.d0 fr
      refine ⟨due_24, _, _, _, rfl, fr, ?_⟩
      · rw [hrow]; exact dueTo_next hy_14 hj
    rintro s_37 H_36 ⟨due_3, y_4, y_5, y_6, rfl, fr, hrow⟩
    refine ⟨_, rfl, ?_⟩
    exact q _ _ due_3 (by rw [hrow]; exact dueTo_all _ _) fr.same fr.n0 fr.at0
def sp_turned_about (K : PySem.W.Frag) : Sp := fun vs H Q _ => ∃ (a_marks : Addr) (marks : List Bool) (a_others : Addr) (others : List Bool) (heap : Int) (other : Int), vs = [V.ref a_marks, V.ref a_others, V.int heap, V.int other] ∧ H a_marks = some (.lst (List.map V.bl marks)) ∧ H a_others = some (.lst (List.map V.bl others)) ∧ (0 ≤ heap ∧ heap < (marks.length : Int)) ∧ (∀ (H1 : Hp) (res : Int), (res = turnedI marks others heap other) → Same H H1 → Q (V.int res) H1)
theorem sc_turned_about : FnScope ["marks", "others", "heap", "other"] ["marks", "others", "heap", "other"] (defScope s_turned_about) := ⟨rfl, rfl, rfl, by decide +kernel, rfl, by decide +kernel, by decide +kernel⟩
theorem ok_turned_about (T : Txt K mg) : FnOk P w K mg base CX0 1 T.f_turned_about T.fd_turned_about ["marks", "others", "heap", "other"] (sp_turned_about K) := by
  refine T.F_turned_about.ok sc_turned_about (fun vs H Q E h => ?_) (fun cdv A outer s H vs Q E hr h => ?_)
  · obtain ⟨a_marks, marks, a_others, others, heap, other, rfl, _⟩ := h; rfl
  · obtain ⟨a_marks, marks, a_others, others, heap, other, rfl, h_marks, h_others, pre0, q⟩ := h
    have fr := Fr.nil H
    refine ⟨_, (pss_cons (ps_if (pt_valS (pe_ix ix_list (pv 0) (pv 2) (fun _ _ => rfl))) (pss_one (ps_ret (pe_op op_sub (pe_op op_sub (pe_callB call_lenL (by rfl) T.m_len (by decide +kernel) (pa_cons (pv 1) pa_nil)) pe_int) (pv 3)))) pss_nil)
          (pss_one (ps_ret (pv 3)))), ?_⟩
    refine ⟨_, rfl, _, rfl, _, _, _, _, rfl, rfl, (SqL.of (fr.same _ _ h_marks)), (atD false ?_ ?_), _, rfl, ?_, ?_⟩
    · walk_at "side"
    · walk_at "side"
    · intro h1
      refine iteT ?_
      refine ⟨_, rfl, _, _, _, rfl, (SqL.of (fr.same _ _ h_others)), (List.length_map _), _, _, rfl, rfl, _, rfl, _, _, rfl, rfl, ?_⟩
      exact q _ ((((others.length : Int) - 1) - other)) (by simp_all [turnedI]) fr.same
    · intro h1
      refine iteF ?_
      refine ⟨_, rfl, ?_⟩
      exact q _ other (by simp_all [turnedI]) fr.same
def sp_joined_marks (K : PySem.W.Frag) : Sp := fun vs H Q _ => ∃ (a_marks : Addr) (marks : List Bool) (a_others : Addr) (others : List Bool), vs = [V.ref a_marks, V.ref a_others] ∧ H a_marks = some (.lst (List.map V.bl marks)) ∧ H a_others = some (.lst (List.map V.bl others)) ∧ (marks.length ≤ 400 ∧ others.length ≤ 400 ∧ marks.length * others.length ≤ 400) ∧ (∀ (H1 : Hp) (r : Addr) (res : List Bool), (res = joinedM marks others) → Same H H1 → H r = none → H1 r = some (.lst (List.map V.bl res)) → Q (V.ref r) H1)
theorem sc_joined_marks : FnScope ["marks", "others", "row", "heap", "other"] ["marks", "others"] (defScope s_joined_marks) := ⟨rfl, rfl, rfl, by decide +kernel, rfl, by decide +kernel, by decide +kernel⟩
theorem ok_joined_marks (T : Txt K mg) : FnOk P w K mg base CX0 2 T.f_joined_marks T.fd_joined_marks ["marks", "others"] (sp_joined_marks K) := by
  refine T.F_joined_marks.ok sc_joined_marks (fun vs H Q E h => ?_) (fun cdv A outer s H vs Q E hr h => ?_)
  · obtain ⟨a_marks, marks, a_others, others, rfl, _⟩ := h; rfl
  · obtain ⟨a_marks, marks, a_others, others, rfl, h_marks, h_others, pre0, q⟩ := h
    have fr := Fr.nil H
    refine ⟨_, (pss_cons (ps_set (i := 2) sc_joined_marks.nd rfl (Or.inl rfl) (pe_lst pa_nil))
          (pss_cons (ps_for PassesOwn.never rfl (pi_range1 (by rfl) T.m_range (pa_cons (pe_callB call_lenL (by rfl) T.m_len (by decide +kernel) (pa_cons (pv 0) pa_nil)) pa_nil)) (pg_name (i := 3) sc_joined_marks.nd rfl (Or.inl rfl)) (pss_one (ps_for PassesOwn.never rfl (pi_range1 (by rfl) T.m_range (pa_cons (pe_callB call_lenL (by rfl) T.m_len (by decide +kernel) (pa_cons (pv 1) pa_nil)) pa_nil)) (pg_name (i := 4) sc_joined_marks.nd rfl (Or.inl rfl)) (pss_one (ps_expr (pe_bm PySem.F.plainAttrs_list PySem.F.slot_list_append PySem.F.type_list_append mt_append (pv 2) (pa_cons (pe_cmpR op_neB (pe_ix ix_list (pv 0) (pv 3) (fun _ _ => rfl)) (pe_ix ix_list (pv 1) (pe_call (ok_turned_about T) (hr.mono (by decide)) (by rfl) T.g_turned_about T.F_turned_about.kp T.b_turned_about .nil pass0 (pa_cons (pv 0) (pa_cons (pv 1) (pa_cons (pv 3) (pa_cons (pv 4) pa_nil))))) (fun _ _ => rfl)) (nomark _)) pa_nil)))))))
          (pss_one (ps_ret (pv 2))))), ?_⟩
    refine ⟨(Evl.sz_of (show 0 ≤ 100000 by decide)), fun l_1 nl_2 => ?_⟩
    have fr : Fr H _ [(l_1, (.lst [] : HO))] := fr.new nl_2
    have fr : Fr H _ [(l_1, (.lst (List.map V.bl ([])) : HO))] := fr
    refine ⟨_, rfl, _, _, _, rfl, (SqL.of (fr.same _ _ h_marks)), (List.length_map _), _, rfl, ?_, ?_, ?_⟩
    · walk_at "side"
    · walk_at "side"
    refine for_it (walkR (n := marks.length)) (fun (i : Nat) σ H1 => ∃ (row_3 : List Bool) (y_4 : Option V) (y_5 : Option V), σ = [some (V.ref a_marks), some (V.ref a_others), some (V.ref l_1), y_4, y_5] ∧ Fr H H1 [(l_1, (.lst (List.map V.bl row_3) : HO))] ∧ (row_3 = joinedTo marks others i)) ?_ ?_ ?_ ?_
    · refine ⟨[], _, _, rfl, fr, ?_⟩
      · rfl
    · rintro i σ H1 hi ⟨row_3, y_4, y_5, rfl, fr, hrow⟩
      exact trivial
    · rintro i_6 x_8 s_11 H_9 H_10 hi_7 ⟨row_3, y_4, y_5, rfl, fr, hrow⟩ ⟨rfl, rfl⟩
      refine ⟨_, rfl, _, _, _, rfl, (SqL.of (fr.same _ _ h_others)), (List.length_map _), _, rfl, ?_, ?_, ?_⟩
      · walk_at "side"
      · walk_at "side"
      refine for_it (walkR (n := others.length)) (fun (i : Nat) σ H1 => ∃ (row_12 : List Bool) (y_13 : Option V), σ = [some (V.ref a_marks), some (V.ref a_others), some (V.ref l_1), some (V.int ((i_6 : Int))), y_13] ∧ Fr H H1 [(l_1, (.lst (List.map V.bl row_12) : HO))] ∧ (row_12 = joinedTo marks others i_6 ++ joinedRow marks others i_6 i)) ?_ ?_ ?_ ?_
      · refine ⟨row_3, _, rfl, fr, ?_⟩
        · rw [hrow]; simp [joinedRow]
      · rintro i σ H1 hi ⟨row_12, y_13, rfl, fr, hrow⟩
        exact trivial
      · rintro i_14 x_16 s_19 H_17 H_18 hi_15 ⟨row_12, y_13, rfl, fr, hrow⟩ ⟨rfl, rfl⟩
        refine ⟨_, rfl, (.inl ⟨rfl, _, (SqL.of fr.at0)⟩), _, rfl, _, rfl, _, _, _, _, rfl, rfl, (SqL.of (fr.same _ _ h_marks)), (atD false ?_ ?_), _, rfl, _, rfl, _, rfl, _, rfl, _, rfl, a_marks, marks, a_others, others, ((i_6 : Int)), ((i_14 : Int)), rfl, (fr.same _ _ h_marks), (fr.same _ _ h_others), ?_, fun H_20 turned_about_21 hp_23 sm_22 => ?_⟩
        · walk_at "side"
        · walk_at "side"
        · omega
        have fr : Fr H _ [(l_1, (.lst (List.map V.bl row_12) : HO))] := fr.call sm_22
        subst hp_23
        refine ⟨_, _, _, _, rfl, rfl, (SqL.of (fr.same _ _ h_others)), (atD false ?_ ?_), _, _, rfl, rfl, _, _, _, rfl, rfl, fr.at0, ?_, ?_⟩
        · have := turnedI_bd marks others ((i_6 : Int)) ((i_14 : Int)) (by omega) (by omega); omega
        · have := turnedI_bd marks others ((i_6 : Int)) ((i_14 : Int)) (by omega) (by omega); omega
        · rw [hrow]; exact Evl.sz_lt (by rw [List.length_map]; exact joined_size hi_7 hi_15 pre0.2.2)
        have fr : Fr H _ [(l_1, (.lst (List.map V.bl ((row_12 ++ [((List.getD marks (Int.toNat ((i_6 : Int))) false) != (List.getD others (Int.toNat (((turnedI marks others ((i_6 : Int)) ((i_14 : Int)))))) false))]))) : HO))] := (Fr.wr fr).cast (lst_app _ _ _)
        refine ⟨(row_12 ++ [((List.getD marks (Int.toNat ((i_6 : Int))) false) != (List.getD others (Int.toNat (((turnedI marks others ((i_6 : Int)) ((i_14 : Int)))))) false))]), _, rfl, fr, ?_⟩
        · rw [hrow]; exact joinedRow_next _ _ _ _ _
      rintro s_25 H_24 ⟨row_12, y_13, rfl, fr, hrow⟩
      refine ⟨row_12, _, _, rfl, fr, ?_⟩
      · rw [hrow]; exact joinedTo_next _ _ _
    rintro s_27 H_26 ⟨row_3, y_4, y_5, rfl, fr, hrow⟩
    refine ⟨_, rfl, ?_⟩
    exact q _ _ row_3 (by first | assumption | rfl) fr.same fr.n0 fr.at0
def sp_law_held (K : PySem.W.Frag) : Sp := fun vs H Q _ => ∃ (a_marks : Addr) (marks : List Bool) (a_others : Addr) (others : List Bool), vs = [V.ref a_marks, V.ref a_others] ∧ H a_marks = some (.lst (List.map V.bl marks)) ∧ H a_others = some (.lst (List.map V.bl others)) ∧ (marks.length ≤ 400 ∧ others.length ≤ 400 ∧ marks.length * others.length ≤ 400) ∧ (∀ (H1 : Hp) (res : Bool), (res = true) → Same H H1 → Q (V.bl res) H1)
theorem sc_law_held : FnScope ["_law_marks_here", "_law_others", "_law_due_here", "_law_handed", "_law_turn", "_law_said", "_law_k"] ["_law_marks_here", "_law_others"] (defScope s_law_held) := ⟨rfl, rfl, rfl, by decide +kernel, rfl, by decide +kernel, by decide +kernel⟩
theorem ok_law_held (T : Txt K mg) : FnOk P w K mg base CX0 3 T.f_law_held T.fd_law_held ["_law_marks_here", "_law_others"] (sp_law_held K) := by
  refine T.F_law_held.ok sc_law_held (fun vs H Q E h => ?_) (fun cdv A outer s H vs Q E hr h => ?_)
  · obtain ⟨a_marks, marks, a_others, others, rfl, _⟩ := h; rfl
  · obtain ⟨a_marks, marks, a_others, others, rfl, h_marks, h_others, pre0, q⟩ := h
    have fr := Fr.nil H
    refine ⟨_, (pss_cons (ps_set (i := 2) sc_law_held.nd rfl (Or.inl rfl) (pe_call (ok_law_due T) (hr.mono (by decide)) (by rfl) T.g_law_due T.F_law_due.kp T.b_law_due .nil pass0 (pa_cons (pv 0) (pa_cons (pv 1) pa_nil))))
          (pss_cons (ps_set (i := 3) sc_law_held.nd rfl (Or.inl rfl) (pe_lst (pa_cons (pe_callTy call_list_of (by rfl) T.m_list (by decide +kernel) (pa_cons (pv 0) pa_nil)) (pa_cons (pe_callTy call_list_of (by rfl) T.m_list (by decide +kernel) (pa_cons (pv 1) pa_nil)) pa_nil))))
          (pss_cons (ps_for PassesOwn.never rfl (pi_range1 (by rfl) T.m_range (pa_cons pe_int pa_nil)) (pg_name (i := 4) sc_law_held.nd rfl (Or.inl rfl)) (pss_cons (ps_set (i := 5) sc_law_held.nd rfl (Or.inl rfl) (pe_call (ok_joined_marks T) (hr.mono (by decide)) (by rfl) T.g_joined_marks T.F_joined_marks.kp T.b_joined_marks .nil pass0 (pa_cons (pe_ix ix_list (pv 3) pe_int (fun _ _ => rfl)) (pa_cons (pe_ix ix_list (pv 3) pe_int (fun _ _ => rfl)) pa_nil))))
          (pss_cons (ps_if (PW.pt (pw_or (pt_not (pt_valS (pe_callB call_isi (by rfl) T.m_isinstance (by decide +kernel) (pa_cons (pv 5) (pa_cons (pe_bltn (v := .ty "list") (by rfl) T.m_list (by decide +kernel) rfl) pa_nil))))) (pw_or (pt_cmpR op_neS (pe_callB call_lenL (by rfl) T.m_len (by decide +kernel) (pa_cons (pv 5) pa_nil)) (pe_callB call_lenL (by rfl) T.m_len (by decide +kernel) (pa_cons (pv 2) pa_nil)) (nomark _)) (pw_or1 (pt_cmpR (opS (op_neX (hu64 hr))) (pv 3) (pe_lst (pa_cons (pv 0) (pa_cons (pv 1) pa_nil))) (nomark _)))))) (pss_one (ps_ret pe_bl)) pss_nil)
          (pss_cons (ps_for PassesOwn.never rfl (pi_range1 (by rfl) T.m_range (pa_cons (pe_callB call_lenL (by rfl) T.m_len (by decide +kernel) (pa_cons (pv 2) pa_nil)) pa_nil)) (pg_name (i := 6) sc_law_held.nd rfl (Or.inl rfl)) (pss_one (ps_if (PW.pt (pw_or (pt_not (pt_valS (pe_callB call_isi (by rfl) T.m_isinstance (by decide +kernel) (pa_cons (pe_ix ix_list (pv 5) (pv 6) (fun _ _ => rfl)) (pa_cons (pe_bltn (v := .ty "bool") (by rfl) T.m_bool (by decide +kernel) rfl) pa_nil))))) (pw_or1 (pt_cmpR (opS op_neB) (pe_ix ix_list (pv 5) (pv 6) (fun _ _ => rfl)) (pe_ix ix_list (pv 2) (pv 6) (fun _ _ => rfl)) (nomark _))))) (pss_one (ps_ret pe_bl)) pss_nil)))
          (pss_one (ps_expr (pe_bm PySem.F.plainAttrs_list PySem.F.slot_list_append PySem.F.type_list_append mt_append (pv 5) (pa_cons pe_bl pa_nil))))))))
          (pss_one (ps_ret pe_bl))))), ?_⟩
    refine ⟨_, rfl, _, rfl, a_marks, marks, a_others, others, rfl, (fr.same _ _ h_marks), (fr.same _ _ h_others), ?_, fun H_1 p_5 due_2 hp_4 sm_3 np_6 ep_7 => ?_⟩
    · exact pre0
    have fr : Fr H _ [(p_5, (.lst (List.map V.bl due_2) : HO))] := fr.cnew sm_3 np_6 ep_7
    subst hp_4
    have hlen := joinedM_length marks others
    refine ⟨_, rfl, _, _, rfl, (.inl (SqL.of (fr.same _ _ h_marks))), fun l_8 nl_9 => ?_⟩
    have fr : Fr H _ [(l_8, (.lst (List.map V.bl marks) : HO)), (p_5, (.lst (List.map V.bl (((joinedM marks others)))) : HO))] := fr.new nl_9
    refine ⟨_, rfl, _, _, rfl, (.inl (SqL.of (fr.same _ _ h_others))), fun l_10 nl_11 => ?_⟩
    have fr : Fr H _ [(l_10, (.lst (List.map V.bl others) : HO)), (l_8, (.lst (List.map V.bl marks) : HO)), (p_5, (.lst (List.map V.bl (((joinedM marks others)))) : HO))] := fr.new nl_11
    refine ⟨(Evl.sz_of (show 2 ≤ 100000 by decide)), fun l_12 nl_13 => ?_⟩
    have fr : Fr H _ [(l_12, (.lst (List.map (fun r => V.ref r.1) ([(l_8, marks), (l_10, others)])) : HO)), (l_10, (.lst (List.map V.bl others) : HO)), (l_8, (.lst (List.map V.bl marks) : HO)), (p_5, (.lst (List.map V.bl (((joinedM marks others)))) : HO))] := fr.new nl_13
    refine ⟨_, rfl, ?_, ?_, ?_⟩
    · walk_at "side"
    · walk_at "side"
    refine for_it (walkR (n := (Int.toNat 2))) (fun (i : Nat) σ H1 => ∃ (y_14 : Option V) (y_15 : Option V) (y_16 : Option V), σ = [some (V.ref a_marks), some (V.ref a_others), some (V.ref p_5), some (V.ref l_12), y_14, y_15, y_16] ∧ Fr H H1 [(l_12, (.lst (List.map (fun r => V.ref r.1) ([(l_8, marks), (l_10, others)])) : HO)), (l_10, (.lst (List.map V.bl others) : HO)), (l_8, (.lst (List.map V.bl marks) : HO)), (p_5, (.lst (List.map V.bl (((joinedM marks others)))) : HO))]) ?_ ?_ ?_ ?_
    · refine ⟨_, _, _, rfl, fr⟩
    · rintro i σ H1 hi ⟨y_14, y_15, y_16, rfl, fr⟩
      exact trivial
    · rintro i_17 x_19 s_22 H_20 H_21 hi_18 ⟨y_14, y_15, y_16, rfl, fr⟩ ⟨rfl, rfl⟩
      refine ⟨_, rfl, _, _, _, _, rfl, rfl, (SqL.of fr.at0), (atI_nat (j := 0) rfl), _, rfl, _, _, _, _, rfl, rfl, (SqL.of fr.at0), (atI_nat (j := 1) rfl), l_8, marks, l_10, others, rfl, fr.at2, fr.at1, ?_, fun H_23 p_27 joined_marks_24 hp_26 sm_25 np_28 ep_29 => ?_⟩
      · exact pre0
      have fr : Fr H _ [(p_27, (.lst (List.map V.bl joined_marks_24) : HO)), (l_12, (.lst (List.map (fun r => V.ref r.1) ([(l_8, marks), (l_10, others)])) : HO)), (l_10, (.lst (List.map V.bl others) : HO)), (l_8, (.lst (List.map V.bl marks) : HO)), (p_5, (.lst (List.map V.bl (((joinedM marks others)))) : HO))] := fr.cnew sm_25 np_28 ep_29
      subst hp_26
      refine ⟨_, rfl, _, _, _, _, _, rfl, (ClsV.ty _), (.base (.lst fr.at0)), (kit_ty (r := true) (by decide +kernel)), _, rfl, fun _ => ?_, (fun h => nomatch h)⟩
      refine iteF ?_
      refine ⟨_, rfl, _, _, _, rfl, (SqL.of fr.at0), (List.length_map _), _, rfl, _, _, _, rfl, (SqL.of fr.at4), (List.length_map _), _, _, rfl, rfl, ?_, ?_⟩
      · intro h30
        exfalso
        exact h30 rfl
      · intro h30
        refine ⟨_, rfl, ?_⟩
        refine iteF ?_
        refine ⟨_, rfl, _, rfl, _, rfl, (Evl.sz_of (show 2 ≤ 100000 by decide)), fun l_31 nl_32 => ?_⟩
        have fr : Fr H _ [(l_31, (.lst (List.map (fun r => V.ref r.1) ([(a_marks, marks), (a_others, others)])) : HO)), (p_27, (.lst (List.map V.bl (((joinedM marks others)))) : HO)), (l_12, (.lst (List.map (fun r => V.ref r.1) ([(l_8, marks), (l_10, others)])) : HO)), (l_10, (.lst (List.map V.bl others) : HO)), (l_8, (.lst (List.map V.bl marks) : HO)), (p_5, (.lst (List.map V.bl (((joinedM marks others)))) : HO))] := fr.new nl_32
        refine ⟨_, _, true, (Dp.lst (SqL.of fr.at2) (DpAll.cons (dp_bls fr.at4) (DpAll.cons (dp_bls fr.at3) DpAll.nil))), (Dp.lst (SqL.of fr.at0) (DpAll.cons (dp_bls (fr.same _ _ h_marks)) (DpAll.cons (dp_bls (fr.same _ _ h_others)) DpAll.nil))), (Okd.sh (okl_cons (okd_bls _) (okl_cons (okd_bls _) okl_nil))), (Okd.sh (okl_cons (okd_bls _) (okl_cons (okd_bls _) okl_nil))), (PySem.SeqAt.eqv_refl _ (Okd.cn (okl_cons (okd_bls _) (okl_cons (okd_bls _) okl_nil)))), _, rfl, (fun h => nomatch h), fun _ => ?_⟩
        refine ⟨_, rfl, ?_⟩
        refine iteF ?_
        have fr := Fr.d0 fr
        refine ⟨_, rfl, _, _, _, rfl, (SqL.of fr.at4), (List.length_map _), _, rfl, ?_, ?_, ?_⟩
        · walk_at "side"
        · walk_at "side"
        refine for_it (walkR (n := (((joinedM marks others))).length)) (fun (i : Nat) σ H1 => ∃ (y_33 : Option V), σ = [some (V.ref a_marks), some (V.ref a_others), some (V.ref p_5), some (V.ref l_12), some (V.int ((i_17 : Int))), some (V.ref p_27), y_33] ∧ Fr H H1 [(p_27, (.lst (List.map V.bl (((joinedM marks others)))) : HO)), (l_12, (.lst (List.map (fun r => V.ref r.1) ([(l_8, marks), (l_10, others)])) : HO)), (l_10, (.lst (List.map V.bl others) : HO)), (l_8, (.lst (List.map V.bl marks) : HO)), (p_5, (.lst (List.map V.bl (((joinedM marks others)))) : HO))]) ?_ ?_ ?_ ?_
        · refine ⟨_, rfl, fr⟩
        · rintro i σ H1 hi ⟨y_33, rfl, fr⟩
          exact trivial
        · rintro i_34 x_36 s_39 H_37 H_38 hi_35 ⟨y_33, rfl, fr⟩ ⟨rfl, rfl⟩
          refine ⟨_, rfl, _, rfl, _, _, _, _, rfl, rfl, (SqL.of fr.at0), (atD false ?_ ?_), _, _, _, _, _, rfl, (ClsV.ty _), (.base (.bl _)), (kit_ty (r := true) (by decide +kernel)), _, rfl, fun _ => ?_, (fun h => nomatch h)⟩
          · walk_at "side"
          · walk_at "side"
          refine iteF ?_
          refine ⟨_, rfl, _, rfl, _, _, _, _, rfl, rfl, (SqL.of fr.at0), (atD false ?_ ?_), _, rfl, _, rfl, _, _, _, _, rfl, rfl, (SqL.of fr.at4), (atD false ?_ ?_), _, _, rfl, rfl, ?_⟩
          · walk_at "side"
          · walk_at "side"
          · walk_at "side"
          · walk_at "side"
          rw [show ((List.getD (((joinedM marks others))) (Int.toNat ((i_34 : Int))) false) != (List.getD (((joinedM marks others))) (Int.toNat ((i_34 : Int))) false)) = false from by simp]
          refine ⟨_, rfl, (fun h => nomatch h), fun _ => ?_⟩
          refine ⟨_, rfl, ?_⟩
          refine iteF ?_
          refine ⟨_, rfl, fr⟩
        rintro s_41 H_40 ⟨y_33, rfl, fr⟩
        refine ⟨_, rfl, (.inl ⟨rfl, _, (SqL.of fr.at0)⟩), _, _, _, rfl, rfl, fr.at0, ?_, ?_⟩
        · walk_at "size"
        have fr : Fr H _ [(p_27, (.lst (List.map V.bl ((((joinedM marks others)) ++ [true]))) : HO)), (l_12, (.lst (List.map (fun r => V.ref r.1) ([(l_8, marks), (l_10, others)])) : HO)), (l_10, (.lst (List.map V.bl others) : HO)), (l_8, (.lst (List.map V.bl marks) : HO)), (p_5, (.lst (List.map V.bl (((joinedM marks others)))) : HO))] := (Fr.wr fr).cast (lst_app _ _ _)
        have fr := Fr.d0 fr
        refine ⟨_, _, _, rfl, fr⟩
    rintro s_43 H_42 ⟨y_14, y_15, y_16, rfl, fr⟩
    exact q _ true (by rfl) fr.same
def sp_law (K : PySem.W.Frag) : Sp := fun vs H Q _ => ∃ (a_script : Addr) (script : List Int), vs = [V.ref a_script] ∧ SqL K H a_script (List.map V.int script) ∧ (script.length ≤ 63) ∧ (∀ (H1 : Hp) (res : Bool), (res = true) → Same H H1 → Q (V.bl res) H1)
theorem sc_law : FnScope ["_law_script", "_law_k", "_law_cell", "_law_other", "_law_marks_here", "_law_others"] ["_law_script"] (defScope s_law) := ⟨rfl, rfl, rfl, by decide +kernel, rfl, by decide +kernel, by decide +kernel⟩
theorem ok_law (T : Txt K mg) : FnOk P w K mg base CX0 4 T.f_law T.fd_law ["_law_script"] (sp_law K) := by
  refine T.F_law.ok sc_law (fun vs H Q E h => ?_) (fun cdv A outer s H vs Q E hr h => ?_)
  · obtain ⟨a_script, script, rfl, _⟩ := h; rfl
  · obtain ⟨a_script, script, rfl, h_script, pre0, q⟩ := h
    have fr := Fr.nil H
    refine ⟨_, (pss_cons (ps_for PassesOwn.never rfl (pi_range3 (by rfl) T.m_range (pa_cons pe_int (pa_cons (pe_op op_add (pe_callB (call_minI rfl) (by rfl) T.m_min (by decide +kernel) (pa_cons pe_int (pa_cons (pe_callB call_lenL (by rfl) T.m_len (by decide +kernel) (pa_cons (pv 0) pa_nil)) pa_nil))) pe_int) (pa_cons pe_int pa_nil)))) (pg_name (i := 1) sc_law.nd rfl (Or.inl rfl)) (pss_cons (ps_set (i := 2) sc_law.nd rfl (Or.inl rfl) (pe_call (ok_law_cell_at T) (hr.mono (by decide)) (by rfl) T.g_law_cell_at T.F_law_cell_at.kp T.b_law_cell_at .nil pass0 (pa_cons (pv 0) (pa_cons (pv 1) pa_nil))))
          (pss_cons (ps_set (i := 3) sc_law.nd rfl (Or.inl rfl) (pe_call (ok_law_cell_at T) (hr.mono (by decide)) (by rfl) T.g_law_cell_at T.F_law_cell_at.kp T.b_law_cell_at .nil pass0 (pa_cons (pv 0) (pa_cons (pe_op op_add (pv 1) pe_int) pa_nil))))
          (pss_cons (ps_set (i := 4) sc_law.nd rfl (Or.inl rfl) (pe_call (ok_law_marks T) (hr.mono (by decide)) (by rfl) T.g_law_marks T.F_law_marks.kp T.b_law_marks .nil pass0 (pa_cons (pe_op op_fdiv (pv 2) pe_int) (pa_cons pe_int pa_nil))))
          (pss_cons (ps_set (i := 5) sc_law.nd rfl (Or.inl rfl) (pe_call (ok_law_marks T) (hr.mono (by decide)) (by rfl) T.g_law_marks T.F_law_marks.kp T.b_law_marks .nil pass0 (pa_cons (pv 3) (pa_cons pe_int pa_nil))))
          (pss_cons (ps_if (pt_cmpR op_eqS (pe_op op_mod (pv 2) pe_int) pe_int (nomark _)) (pss_cons (ps_set (i := 4) sc_law.nd rfl (Or.inl rfl) (pe_call (ok_law_marks T) (hr.mono (by decide)) (by rfl) T.g_law_marks T.F_law_marks.kp T.b_law_marks .nil pass0 (pa_cons (pe_op op_fdiv (pv 2) pe_int) (pa_cons pe_int pa_nil))))
          (pss_one (ps_set (i := 5) sc_law.nd rfl (Or.inl rfl) (pe_lst (pa_cons (pe_cmp (pc_eqI (pe_op op_mod (pv 3) pe_int) pe_int)) pa_nil))))) pss_nil)
          (pss_one (ps_if (PW.pt (pw_or (pt_not (pt_valS (pe_call (ok_law_held T) (hr.mono (by decide)) (by rfl) T.g_law_held T.F_law_held.kp T.b_law_held .nil pass0 (pa_cons (pv 4) (pa_cons (pv 5) pa_nil))))) (pw_or1 (pt_not (pt_valS (pe_call (ok_law_held T) (hr.mono (by decide)) (by rfl) T.g_law_held T.F_law_held.kp T.b_law_held .nil pass0 (pa_cons (pv 5) (pa_cons (pv 4) pa_nil)))))))) (pss_one (ps_ret pe_bl)) pss_nil))))))))
          (pss_one (ps_ret pe_bl))), ?_⟩
    refine ⟨_, rfl, _, _, _, rfl, (fr.same.seq h_script), (List.length_map _), _, _, rfl, _, _, rfl, rfl, _, _, _, (Int.toNat ((((min 30 ((script.length : Int))) + 1) + 1) / 2)), rfl, (rgc2 ?_ ?_), ?_⟩
    · walk_at "side"
    · walk_at "side"
    refine for_it (walk_rangeC (lo := 0) (c := 2) (n := (Int.toNat ((((min 30 ((script.length : Int))) + 1) + 1) / 2)))) (fun (i : Nat) σ H1 => ∃ (y_1 : Option V) (y_2 : Option V) (y_3 : Option V) (y_4 : Option V) (y_5 : Option V), σ = [some (V.ref a_script), y_1, y_2, y_3, y_4, y_5] ∧ Fr H H1 []) ?_ ?_ ?_ ?_
    · refine ⟨_, _, _, _, _, rfl, fr⟩
    · rintro i σ H1 hi ⟨y_1, y_2, y_3, y_4, y_5, rfl, fr⟩
      exact trivial
    · rintro i_6 x_8 s_11 H_9 H_10 hi_7 ⟨y_1, y_2, y_3, y_4, y_5, rfl, fr⟩ ⟨rfl, rfl⟩
      refine ⟨_, rfl, _, rfl, a_script, script, ((0 + (i_6 : Int) * 2)), rfl, (fr.same.seq h_script), ?_, fun H_12 cell_at_13 hp_15 sm_14 => ?_⟩
      · walk_at "side"
      have fr : Fr H _ [] := fr.call sm_14
      refine ⟨_, rfl, _, rfl, _, _, rfl, rfl, a_script, script, (((0 + (i_6 : Int) * 2) + 1)), rfl, (fr.same.seq h_script), ?_, fun H_16 cell_at_17 hp_19 sm_18 => ?_⟩
      · walk_at "side"
      have fr : Fr H _ [] := fr.call sm_18
      refine ⟨_, rfl, _, _, rfl, rfl, ⟨by decide, by decide⟩, ((cell_at_13 / 8)), 20, rfl, ?_, fun H_20 p_24 marks_21 hp_23 sm_22 np_25 ep_26 => ?_⟩
      · walk_at "side"
      have fr : Fr H _ [(p_24, (.lst (List.map V.bl marks_21) : HO))] := fr.cnew sm_22 np_25 ep_26
      refine ⟨_, rfl, cell_at_17, 20, rfl, ?_, fun H_27 p_31 marks_28 hp_30 sm_29 np_32 ep_33 => ?_⟩
      · walk_at "side"
      have fr : Fr H _ [(p_31, (.lst (List.map V.bl marks_28) : HO)), (p_24, (.lst (List.map V.bl marks_21) : HO))] := fr.cnew sm_29 np_32 ep_33
      refine ⟨_, rfl, _, _, rfl, rfl, (show (0 : Int) < _ by decide), _, _, rfl, rfl, ?_, ?_⟩
      · intro h34
        refine ⟨_, rfl, ?_⟩
        refine iteT ?_
        refine ⟨_, rfl, _, _, rfl, rfl, ⟨by decide, by decide⟩, ((cell_at_13 / 8)), 400, rfl, ?_, fun H_35 p_39 marks_36 hp_38 sm_37 np_40 ep_41 => ?_⟩
        · walk_at "side"
        have fr : Fr H _ [(p_39, (.lst (List.map V.bl marks_36) : HO)), (p_31, (.lst (List.map V.bl marks_28) : HO)), (p_24, (.lst (List.map V.bl marks_21) : HO))] := fr.cnew sm_37 np_40 ep_41
        have fr := Fr.d2 fr
        refine ⟨_, rfl, _, _, rfl, rfl, (show (0 : Int) < _ by decide), _, _, rfl, rfl, (Evl.sz_of (show 1 ≤ 100000 by decide)), fun l_42 nl_43 => ?_⟩
        have fr : Fr H _ [(l_42, (.lst (List.map V.bl ([decide ((cell_at_17 % 2) = 1)])) : HO)), (p_39, (.lst (List.map V.bl marks_36) : HO)), (p_31, (.lst (List.map V.bl marks_28) : HO))] := fr.new nl_43
        have fr := Fr.d2 fr
        refine ⟨_, rfl, _, rfl, p_39, marks_36, l_42, ([decide ((cell_at_17 % 2) = 1)]), rfl, fr.at1, fr.at0, ?_, fun H_44 held_45 hp_47 sm_46 => ?_⟩
        · first | exact ⟨by omega, by omega, prod20 (by omega) (by omega)⟩ | (simp; omega)
        have fr : Fr H _ [(l_42, (.lst (List.map V.bl ([decide ((cell_at_17 % 2) = 1)])) : HO)), (p_39, (.lst (List.map V.bl marks_36) : HO))] := fr.call sm_46
        subst hp_47
        refine ⟨_, rfl, fun _ => ?_, (fun h => nomatch h)⟩
        refine iteF ?_
        refine ⟨_, rfl, _, rfl, l_42, ([decide ((cell_at_17 % 2) = 1)]), p_39, marks_36, rfl, fr.at0, fr.at1, ?_, fun H_48 held_49 hp_51 sm_50 => ?_⟩
        · first | exact ⟨by omega, by omega, prod20 (by omega) (by omega)⟩ | (simp; omega)
        have fr : Fr H _ [(l_42, (.lst (List.map V.bl ([decide ((cell_at_17 % 2) = 1)])) : HO)), (p_39, (.lst (List.map V.bl marks_36) : HO))] := fr.call sm_50
        subst hp_51
        refine ⟨_, rfl, fun _ => ?_, (fun h => nomatch h)⟩
        refine iteF ?_
        have fr := Fr.d0 fr
        have fr := Fr.d0 fr
        refine ⟨_, _, _, _, _, rfl, fr⟩
      · intro h34
        refine ⟨_, rfl, ?_⟩
        refine iteF ?_
        refine ⟨_, rfl, _, rfl, p_24, marks_21, p_31, marks_28, rfl, fr.at1, fr.at0, ?_, fun H_52 held_53 hp_55 sm_54 => ?_⟩
        · first | exact ⟨by omega, by omega, prod20 (by omega) (by omega)⟩ | (simp; omega)
        have fr : Fr H _ [(p_31, (.lst (List.map V.bl marks_28) : HO)), (p_24, (.lst (List.map V.bl marks_21) : HO))] := fr.call sm_54
        subst hp_55
        refine ⟨_, rfl, fun _ => ?_, (fun h => nomatch h)⟩
        refine iteF ?_
        refine ⟨_, rfl, _, rfl, p_31, marks_28, p_24, marks_21, rfl, fr.at0, fr.at1, ?_, fun H_56 held_57 hp_59 sm_58 => ?_⟩
        · first | exact ⟨by omega, by omega, prod20 (by omega) (by omega)⟩ | (simp; omega)
        have fr : Fr H _ [(p_31, (.lst (List.map V.bl marks_28) : HO)), (p_24, (.lst (List.map V.bl marks_21) : HO))] := fr.call sm_58
        subst hp_59
        refine ⟨_, rfl, fun _ => ?_, (fun h => nomatch h)⟩
        refine iteF ?_
        have fr := Fr.d0 fr
        have fr := Fr.d0 fr
        refine ⟨_, _, _, _, _, rfl, fr⟩
    rintro s_61 H_60 ⟨y_1, y_2, y_3, y_4, y_5, rfl, fr⟩
    exact q _ true (by rfl) fr.same
end
theorem all_mk {l : PySem.W.OpenLaw} {w : World} {K : PySem.W.Frag} {h : Heap} {mg : Str → Option Value} {fa : Addr} {flaw_cell_at : Addr} {odlaw_cell_at anlaw_cell_at : Option Addr} {sllaw_cell_at : Array (Option Value)} {oclaw_cell_at kVlaw_cell_at dclaw_cell_at pmlaw_cell_at cdlaw_cell_at ctlaw_cell_at : Value} {flaw_mixed : Addr} {odlaw_mixed anlaw_mixed : Option Addr} {sllaw_mixed : Array (Option Value)} {oclaw_mixed kVlaw_mixed dclaw_mixed pmlaw_mixed cdlaw_mixed ctlaw_mixed : Value} {flaw_marks : Addr} {odlaw_marks anlaw_marks : Option Addr} {sllaw_marks : Array (Option Value)} {oclaw_marks kVlaw_marks dclaw_marks pmlaw_marks cdlaw_marks ctlaw_marks : Value} {flaw_due : Addr} {odlaw_due anlaw_due : Option Addr} {sllaw_due : Array (Option Value)} {oclaw_due kVlaw_due dclaw_due pmlaw_due cdlaw_due ctlaw_due : Value} {fturned_about : Addr} {odturned_about anturned_about : Option Addr} {slturned_about : Array (Option Value)} {octurned_about kVturned_about dcturned_about pmturned_about cdturned_about ctturned_about : Value} {fjoined_marks : Addr} {odjoined_marks anjoined_marks : Option Addr} {sljoined_marks : Array (Option Value)} {ocjoined_marks kVjoined_marks dcjoined_marks pmjoined_marks cdjoined_marks ctjoined_marks : Value} {flaw_held : Addr} {odlaw_held anlaw_held : Option Addr} {sllaw_held : Array (Option Value)} {oclaw_held kVlaw_held dclaw_held pmlaw_held cdlaw_held ctlaw_held : Value} {flaw : Addr} {odlaw anlaw : Option Addr} {sllaw : Array (Option Value)} {oclaw kVlaw dclaw pmlaw cdlaw ctlaw : Value} (X : K.In h) (G : h.Ns mainGlobals mg) (hfa : mg "law" = some (.ref fa))
    (alaw_cell_at : PySem.W.nsIn K mainGlobals "_law_cell_at" = some (some (.ref flaw_cell_at))) (llaw_cell_at : K.lookup flaw_cell_at = some ⟨oclaw_cell_at, odlaw_cell_at, .func (PySem.W.fnOf "_law_cell_at" "_law_cell_at" (defArgs s_law_cell_at) (defBody s_law_cell_at) (defScope s_law_cell_at) .none kVlaw_cell_at dclaw_cell_at pmlaw_cell_at anlaw_cell_at cdlaw_cell_at ctlaw_cell_at), sllaw_cell_at⟩) (claw_cell_at : PySem.W.codeIn K cdlaw_cell_at "_law_cell_at" = true) (klaw_cell_at : PySem.W.keepIn K (.ref flaw_cell_at) = true)
    (alaw_mixed : PySem.W.nsIn K mainGlobals "_law_mixed" = some (some (.ref flaw_mixed))) (llaw_mixed : K.lookup flaw_mixed = some ⟨oclaw_mixed, odlaw_mixed, .func (PySem.W.fnOf "_law_mixed" "_law_mixed" (defArgs s_law_mixed) (defBody s_law_mixed) (defScope s_law_mixed) .none kVlaw_mixed dclaw_mixed pmlaw_mixed anlaw_mixed cdlaw_mixed ctlaw_mixed), sllaw_mixed⟩) (claw_mixed : PySem.W.codeIn K cdlaw_mixed "_law_mixed" = true) (klaw_mixed : PySem.W.keepIn K (.ref flaw_mixed) = true)
    (alaw_marks : PySem.W.nsIn K mainGlobals "_law_marks" = some (some (.ref flaw_marks))) (llaw_marks : K.lookup flaw_marks = some ⟨oclaw_marks, odlaw_marks, .func (PySem.W.fnOf "_law_marks" "_law_marks" (defArgs s_law_marks) (defBody s_law_marks) (defScope s_law_marks) .none kVlaw_marks dclaw_marks pmlaw_marks anlaw_marks cdlaw_marks ctlaw_marks), sllaw_marks⟩) (claw_marks : PySem.W.codeIn K cdlaw_marks "_law_marks" = true) (klaw_marks : PySem.W.keepIn K (.ref flaw_marks) = true)
    (alaw_due : PySem.W.nsIn K mainGlobals "_law_due" = some (some (.ref flaw_due))) (llaw_due : K.lookup flaw_due = some ⟨oclaw_due, odlaw_due, .func (PySem.W.fnOf "_law_due" "_law_due" (defArgs s_law_due) (defBody s_law_due) (defScope s_law_due) .none kVlaw_due dclaw_due pmlaw_due anlaw_due cdlaw_due ctlaw_due), sllaw_due⟩) (claw_due : PySem.W.codeIn K cdlaw_due "_law_due" = true) (klaw_due : PySem.W.keepIn K (.ref flaw_due) = true)
    (aturned_about : PySem.W.nsIn K mainGlobals "turned_about" = some (some (.ref fturned_about))) (lturned_about : K.lookup fturned_about = some ⟨octurned_about, odturned_about, .func (PySem.W.fnOf "turned_about" "turned_about" (defArgs s_turned_about) (defBody s_turned_about) (defScope s_turned_about) .none kVturned_about dcturned_about pmturned_about anturned_about cdturned_about ctturned_about), slturned_about⟩) (cturned_about : PySem.W.codeIn K cdturned_about "turned_about" = true) (kturned_about : PySem.W.keepIn K (.ref fturned_about) = true)
    (ajoined_marks : PySem.W.nsIn K mainGlobals "joined_marks" = some (some (.ref fjoined_marks))) (ljoined_marks : K.lookup fjoined_marks = some ⟨ocjoined_marks, odjoined_marks, .func (PySem.W.fnOf "joined_marks" "joined_marks" (defArgs s_joined_marks) (defBody s_joined_marks) (defScope s_joined_marks) .none kVjoined_marks dcjoined_marks pmjoined_marks anjoined_marks cdjoined_marks ctjoined_marks), sljoined_marks⟩) (cjoined_marks : PySem.W.codeIn K cdjoined_marks "joined_marks" = true) (kjoined_marks : PySem.W.keepIn K (.ref fjoined_marks) = true)
    (alaw_held : PySem.W.nsIn K mainGlobals "_law_held" = some (some (.ref flaw_held))) (llaw_held : K.lookup flaw_held = some ⟨oclaw_held, odlaw_held, .func (PySem.W.fnOf "_law_held" "_law_held" (defArgs s_law_held) (defBody s_law_held) (defScope s_law_held) .none kVlaw_held dclaw_held pmlaw_held anlaw_held cdlaw_held ctlaw_held), sllaw_held⟩) (claw_held : PySem.W.codeIn K cdlaw_held "_law_held" = true) (klaw_held : PySem.W.keepIn K (.ref flaw_held) = true)
    (alaw : PySem.W.nsIn K mainGlobals "law" = some (some (.ref flaw))) (llaw : K.lookup flaw = some ⟨oclaw, odlaw, .func (PySem.W.fnOf "law" "law" (defArgs s_law) (defBody s_law) (defScope s_law) .none kVlaw dclaw pmlaw anlaw cdlaw ctlaw), sllaw⟩) (claw : PySem.W.codeIn K cdlaw "law" = true) (klaw : PySem.W.keepIn K (.ref flaw) = true)
    (z_abs : PySem.W.nsIn K mainGlobals "abs" = some none)
    (z_bool : PySem.W.nsIn K mainGlobals "bool" = some none)
    (z_isinstance : PySem.W.nsIn K mainGlobals "isinstance" = some none)
    (z_len : PySem.W.nsIn K mainGlobals "len" = some none)
    (z_list : PySem.W.nsIn K mainGlobals "list" = some none)
    (z_min : PySem.W.nsIn K mainGlobals "min" = some none)
    (z_range : PySem.W.nsIn K mainGlobals "range" = some none)
    (z_reversed : PySem.W.nsIn K mainGlobals "reversed" = some none) :
    ∃ fd : FuncData, (∀ (s : Shared) (v : Value), BindsTo s fd ⟨[v], []⟩ [("_law_script", v)]) ∧ ∀ base : Heap, K.In base → base.Ns mainGlobals mg → FnOk l.prog w K mg base CX0 4 fa fd ["_law_script"] (sp_law K) := by
  have e := hfa.symm.trans (PySem.W.mg_of X G alaw)
  cases e
  exact ⟨PySem.W.fnOf "law" "law" (defArgs s_law) (defBody s_law) (defScope s_law) .none kVlaw dclaw pmlaw anlaw cdlaw ctlaw, fun s v => .of_eq rfl, fun base _ _ => ok_law (P := l.prog) (w := w) (base := base) (K := K) (mg := mg) { f_law_cell_at := flaw_cell_at, fd_law_cell_at := _, F_law_cell_at := fun_mk (st := s_law_cell_at) llaw_cell_at claw_cell_at klaw_cell_at, g_law_cell_at := PySem.W.mg_of X G alaw_cell_at, b_law_cell_at := ((fun_mk (st := s_law_cell_at) llaw_cell_at claw_cell_at klaw_cell_at).binds (ps := ["_law_script", "_law_k"]) (fun _ _ _ _ _ _ us hl => match us, hl with | [_, _], _ => rfl)), f_law_mixed := flaw_mixed, fd_law_mixed := _, F_law_mixed := fun_mk (st := s_law_mixed) llaw_mixed claw_mixed klaw_mixed, g_law_mixed := PySem.W.mg_of X G alaw_mixed, b_law_mixed := ((fun_mk (st := s_law_mixed) llaw_mixed claw_mixed klaw_mixed).binds (ps := ["_law_cell", "_law_k"]) (fun _ _ _ _ _ _ us hl => match us, hl with | [_, _], _ => rfl)), f_law_marks := flaw_marks, fd_law_marks := _, F_law_marks := fun_mk (st := s_law_marks) llaw_marks claw_marks klaw_marks, g_law_marks := PySem.W.mg_of X G alaw_marks, b_law_marks := ((fun_mk (st := s_law_marks) llaw_marks claw_marks klaw_marks).binds (ps := ["_law_cell", "_law_most"]) (fun _ _ _ _ _ _ us hl => match us, hl with | [_, _], _ => rfl)), f_law_due := flaw_due, fd_law_due := _, F_law_due := fun_mk (st := s_law_due) llaw_due claw_due klaw_due, g_law_due := PySem.W.mg_of X G alaw_due, b_law_due := ((fun_mk (st := s_law_due) llaw_due claw_due klaw_due).binds (ps := ["_law_marks_here", "_law_others"]) (fun _ _ _ _ _ _ us hl => match us, hl with | [_, _], _ => rfl)), f_turned_about := fturned_about, fd_turned_about := _, F_turned_about := fun_mk (st := s_turned_about) lturned_about cturned_about kturned_about, g_turned_about := PySem.W.mg_of X G aturned_about, b_turned_about := ((fun_mk (st := s_turned_about) lturned_about cturned_about kturned_about).binds (ps := ["marks", "others", "heap", "other"]) (fun _ _ _ _ _ _ us hl => match us, hl with | [_, _, _, _], _ => rfl)), f_joined_marks := fjoined_marks, fd_joined_marks := _, F_joined_marks := fun_mk (st := s_joined_marks) ljoined_marks cjoined_marks kjoined_marks, g_joined_marks := PySem.W.mg_of X G ajoined_marks, b_joined_marks := ((fun_mk (st := s_joined_marks) ljoined_marks cjoined_marks kjoined_marks).binds (ps := ["marks", "others"]) (fun _ _ _ _ _ _ us hl => match us, hl with | [_, _], _ => rfl)), f_law_held := flaw_held, fd_law_held := _, F_law_held := fun_mk (st := s_law_held) llaw_held claw_held klaw_held, g_law_held := PySem.W.mg_of X G alaw_held, b_law_held := ((fun_mk (st := s_law_held) llaw_held claw_held klaw_held).binds (ps := ["_law_marks_here", "_law_others"]) (fun _ _ _ _ _ _ us hl => match us, hl with | [_, _], _ => rfl)), f_law := fa, fd_law := _, F_law := fun_mk (st := s_law) llaw claw klaw, g_law := PySem.W.mg_of X G alaw, b_law := ((fun_mk (st := s_law) llaw claw klaw).binds (ps := ["_law_script"]) (fun _ _ _ _ _ _ us hl => match us, hl with | [_], _ => rfl)), m_abs := PySem.W.mg_none_of X G z_abs, m_bool := PySem.W.mg_none_of X G z_bool, m_isinstance := PySem.W.mg_none_of X G z_isinstance, m_len := PySem.W.mg_none_of X G z_len, m_list := PySem.W.mg_none_of X G z_list, m_min := PySem.W.mg_none_of X G z_min, m_range := PySem.W.mg_none_of X G z_range, m_reversed := PySem.W.mg_none_of X G z_reversed }⟩
end Rc
open PySem PySem.W PyProof.Rows
set_option maxHeartbeats 0 in
theorem PySem.Challenge.cw_riftcarry_k31_joined_marks_holds : PySem.Challenge.rw_riftcarry_k31_joined_marks.Holds := by
  w_on; o_law; k_head; (case hw => w_witness2)
  k_fill
  refine L2.walk_of (l := PySem.Challenge.rw_riftcarry_k31_joined_marks) (n := 63) (k := 4) (x := "_law_script") (CX := fun _ => L2.CX0) (sp := fun w => Rc.sp_law _) rfl (by decide) rfl ⟨rfl, by decide, by decide⟩ (fun w h Y => PySem.W.kIn_of Y) ?F (fun _ _ a ns hl _ hS => ⟨a, ns, rfl, hS, hl, fun _ _ e _ => by rw [e]⟩) (fun _ _ _ _ _ h => h)
  case F =>
    intro w mg fa h KX G hmg
    refine' Rc.all_mk KX G hmg ?alaw_cell_at ?llaw_cell_at ?claw_cell_at ?klaw_cell_at ?alaw_mixed ?llaw_mixed ?claw_mixed ?klaw_mixed ?alaw_marks ?llaw_marks ?claw_marks ?klaw_marks ?alaw_due ?llaw_due ?claw_due ?klaw_due ?aturned_about ?lturned_about ?cturned_about ?kturned_about ?ajoined_marks ?ljoined_marks ?cjoined_marks ?kjoined_marks ?alaw_held ?llaw_held ?claw_held ?klaw_held ?alaw ?llaw ?claw ?klaw ?z_abs ?z_bool ?z_isinstance ?z_len ?z_list ?z_min ?z_range ?z_reversed
    (case alaw_cell_at => k_is); (case llaw_cell_at => k_is); (case claw_cell_at => k_is); (case klaw_cell_at => k_is); (case alaw_mixed => k_is); (case llaw_mixed => k_is); (case claw_mixed => k_is); (case klaw_mixed => k_is); (case alaw_marks => k_is); (case llaw_marks => k_is); (case claw_marks => k_is); (case klaw_marks => k_is); (case alaw_due => k_is); (case llaw_due => k_is); (case claw_due => k_is); (case klaw_due => k_is); (case aturned_about => k_is); (case lturned_about => k_is); (case cturned_about => k_is); (case kturned_about => k_is); (case ajoined_marks => k_is); (case ljoined_marks => k_is); (case cjoined_marks => k_is); (case kjoined_marks => k_is); (case alaw_held => k_is); (case llaw_held => k_is); (case claw_held => k_is); (case klaw_held => k_is); (case alaw => k_is); (case llaw => k_is); (case claw => k_is); (case klaw => k_is); (case z_abs => k_is); (case z_bool => k_is); (case z_isinstance => k_is); (case z_len => k_is); (case z_list => k_is); (case z_min => k_is); (case z_range => k_is); (case z_reversed => k_is)
