import PyProof.Rows.All
import Wide.All
import OpenK.AllK
import Wide.FinOn
import HandS.ForMost
import HandS.IsInst
import HandS.Conv
import HandS.Wide
import HandS.WideBits
import HandS.Evl
import HandS.Walk
import HandS.SortInts
import HandS.SetFor
import HandS.Style
import HandS.Rev
import HandS.RevTup
import PySem.Challenge.RW_riftcarry_k03_falls_and_runs
set_option Elab.async false
set_option linter.all false
set_option maxRecDepth 100000
set_option maxHeartbeats 4000000
namespace Rc
open PySem PySem.Spec PyProof.Rows L2

/-! frames: H grew out of H0; own lists the objects that are new since then -/
structure Fr (H0 H : Hp) (own : List (Addr × HO)) : Prop where
  same : Same H0 H
  frs : ∀ p ∈ own, H0 p.1 = none ∧ H p.1 = some p.2
  nd : (own.map (·.1)).Nodup

section
variable {H0 H H' : Hp} {own : List (Addr × HO)} {p q r t : Addr} {o o' u v x : HO}
theorem same_new (h : H p = none) : Same H (upd H p o) := fun b x e => by
  rw [upd_ne (ne_of_none e h)]; exact e
theorem Fr.nil (H : Hp) : Fr H H [] := ⟨Same.refl H, (fun _ h => nomatch h), List.nodup_nil⟩
theorem Fr.fresh (f : Fr H0 H own) (h : H p = none) : H0 p = none := f.same.free h
theorem Fr.notin (f : Fr H0 H own) (h : H p = none) : p ∉ own.map (·.1) := fun hm => by
  obtain ⟨z, hz, rfl⟩ := List.mem_map.mp hm
  rw [(f.frs z hz).2] at h; cases h
theorem Fr.call (f : Fr H0 H own) (s : Same H H') : Fr H0 H' own :=
  ⟨f.same.trans s, fun z hz => ⟨(f.frs z hz).1, s _ _ (f.frs z hz).2⟩, f.nd⟩
theorem Fr.cnew (f : Fr H0 H own) (s : Same H H') (h : H p = none) (e : H' p = some o) : Fr H0 H' ((p, o) :: own) :=
  ⟨f.same.trans s, fun z hz => by
    rcases List.mem_cons.mp hz with rfl | hz
    · exact ⟨f.fresh h, e⟩
    · exact ⟨(f.frs z hz).1, s _ _ (f.frs z hz).2⟩, List.nodup_cons.mpr ⟨f.notin h, f.nd⟩⟩
theorem Fr.new (f : Fr H0 H own) (h : H p = none) : Fr H0 (upd H p o) ((p, o) :: own) := f.cnew (same_new h) h upd_same
theorem Fr.tmp (f : Fr H0 H own) (h : H p = none) : Fr H0 (upd H p o) own := f.call (same_new h)
theorem Fr.sub {own' : List (Addr × HO)} (f : Fr H0 H own) (h : own'.Sublist own) : Fr H0 H own' :=
  ⟨f.same, fun z hz => f.frs z (h.subset hz), f.nd.sublist (h.map _)⟩
theorem Fr.perm {own' : List (Addr × HO)} (f : Fr H0 H own) (h : own.Perm own') : Fr H0 H own' :=
  ⟨f.same, fun z hz => f.frs z (h.mem_iff.mpr hz), (h.map _).nodup_iff.mp f.nd⟩
theorem Fr.mem (f : Fr H0 H own) (h : (p, o) ∈ own) : H p = some o := (f.frs _ h).2
theorem Fr.wr (f : Fr H0 H ((p, o) :: own)) : Fr H0 (upd H p o') ((p, o') :: own) := by
  have hn := List.nodup_cons.mp f.nd
  refine ⟨fun b z e => ?_, fun z hz => ?_, f.nd⟩
  · have : b ≠ p := fun h => by subst h; rw [(f.frs (b, o) List.mem_cons_self).1] at e; cases e
    rw [upd_ne this]; exact f.same _ _ e
  · rcases List.mem_cons.mp hz with rfl | hz
    · exact ⟨(f.frs (p, o) List.mem_cons_self).1, upd_same⟩
    · have : z.1 ≠ p := fun h => hn.1 (List.mem_map.mpr ⟨z, hz, h⟩)
      rw [upd_ne this]
      exact f.frs z (List.mem_cons_of_mem _ hz)
theorem Fr.cast (f : Fr H0 H ((p, o) :: own)) (e : o = o') : Fr H0 H ((p, o') :: own) := e ▸ f
/-- bring the k-th to the front, and back -/
theorem Fr.up1 {a b : Addr × HO} (f : Fr H0 H (a :: b :: own)) : Fr H0 H (b :: a :: own) := f.perm (List.Perm.swap _ _ _)
theorem Fr.up2 {a b c : Addr × HO} (f : Fr H0 H (a :: b :: c :: own)) : Fr H0 H (c :: a :: b :: own) :=
  f.perm ((List.Perm.swap c b own).cons a |>.trans (List.Perm.swap c a (b :: own)))
theorem Fr.up3 {a b c d : Addr × HO} (f : Fr H0 H (a :: b :: c :: d :: own)) : Fr H0 H (d :: a :: b :: c :: own) :=
  f.perm (((List.Perm.swap d c own).cons b |>.trans (List.Perm.swap d b (c :: own))).cons a |>.trans (List.Perm.swap d a (b :: c :: own)))
theorem Fr.dn1 {a b : Addr × HO} (f : Fr H0 H (b :: a :: own)) : Fr H0 H (a :: b :: own) := f.up1
theorem Fr.dn2 {a b c : Addr × HO} (f : Fr H0 H (c :: a :: b :: own)) : Fr H0 H (a :: b :: c :: own) := f.up1.perm ((List.Perm.swap _ _ _).cons _)
theorem Fr.dn3 {a b c d : Addr × HO} (f : Fr H0 H (d :: a :: b :: c :: own)) : Fr H0 H (a :: b :: c :: d :: own) :=
  f.up1.perm (((List.Perm.swap _ _ _).trans ((List.Perm.swap _ _ _).cons _)).cons _)
theorem Fr.at0 (f : Fr H0 H ((p, o) :: own)) : H p = some o := f.mem List.mem_cons_self
theorem Fr.at1 {a : Addr × HO} (f : Fr H0 H (a :: (p, o) :: own)) : H p = some o := f.up1.at0
theorem Fr.at2 {a b : Addr × HO} (f : Fr H0 H (a :: b :: (p, o) :: own)) : H p = some o := f.up2.at0
theorem Fr.at3 {a b c : Addr × HO} (f : Fr H0 H (a :: b :: c :: (p, o) :: own)) : H p = some o := f.up3.at0
theorem Fr.at4 {a b c d : Addr × HO} (f : Fr H0 H (a :: b :: c :: d :: (p, o) :: own)) : H p = some o := (f.sub (List.sublist_cons_self _ _)).at3
theorem Fr.at5 {a b c d e : Addr × HO} (f : Fr H0 H (a :: b :: c :: d :: e :: (p, o) :: own)) : H p = some o := (f.sub (List.sublist_cons_self _ _)).at4
theorem Fr.d0 {a : Addr × HO} (f : Fr H0 H (a :: own)) : Fr H0 H own := f.sub (List.sublist_cons_self _ _)
theorem Fr.d1 {a b : Addr × HO} (f : Fr H0 H (a :: b :: own)) : Fr H0 H (a :: own) := f.up1.d0
theorem Fr.d2 {a b c : Addr × HO} (f : Fr H0 H (a :: b :: c :: own)) : Fr H0 H (a :: b :: own) := f.up2.d0
theorem Fr.d3 {a b c d : Addr × HO} (f : Fr H0 H (a :: b :: c :: d :: own)) : Fr H0 H (a :: b :: c :: own) := f.up3.d0
theorem Fr.wr1 {a : Addr × HO} (f : Fr H0 H (a :: (p, o) :: own)) : Fr H0 (upd H p o') (a :: (p, o') :: own) := f.up1.wr.dn1
theorem Fr.wr2 {a b : Addr × HO} (f : Fr H0 H (a :: b :: (p, o) :: own)) : Fr H0 (upd H p o') (a :: b :: (p, o') :: own) := f.up2.wr.dn2
theorem Fr.wr3 {a b c : Addr × HO} (f : Fr H0 H (a :: b :: c :: (p, o) :: own)) : Fr H0 (upd H p o') (a :: b :: c :: (p, o') :: own) := f.up3.wr.dn3
theorem Fr.cs1 {a : Addr × HO} (f : Fr H0 H (a :: (p, o) :: own)) (e : o = o') : Fr H0 H (a :: (p, o') :: own) := e ▸ f
theorem Fr.cs2 {a b : Addr × HO} (f : Fr H0 H (a :: b :: (p, o) :: own)) (e : o = o') : Fr H0 H (a :: b :: (p, o') :: own) := e ▸ f
theorem Fr.cs3 {a b c : Addr × HO} (f : Fr H0 H (a :: b :: c :: (p, o) :: own)) (e : o = o') : Fr H0 H (a :: b :: c :: (p, o') :: own) := e ▸ f
end

/-! contents -/
theorem app_map {α β : Type} (f : α → β) (xs : List α) (y : α) : xs.map f ++ [f y] = (xs ++ [y]).map f := by simp
theorem set_map' {α β : Type} (f : α → β) (xs : List α) (j : Nat) (y : α) : (xs.map f).set j (f y) = (xs.set j y).map f := by rw [List.map_set]
theorem lst_app {α : Type} (f : α → V) (xs : List α) (y : α) : HO.lst (xs.map f ++ [f y]) = .lst ((xs ++ [y]).map f) := by rw [app_map]
theorem lst_set {α : Type} (f : α → V) (xs : List α) (j : Nat) (y : α) : HO.lst ((xs.map f).set j (f y)) = .lst ((xs.set j y).map f) := by rw [set_map']
theorem lst_rev {α : Type} (f : α → V) (xs : List α) : HO.lst ((xs.map f).reverse) = .lst (xs.reverse.map f) := by rw [List.map_reverse]
theorem lst_cat {α : Type} (f : α → V) (xs ys : List α) : HO.lst (xs.map f ++ ys.map f) = .lst ((xs ++ ys).map f) := by rw [List.map_append]
theorem lst_rep {α : Type} (f : α → V) (xs : List α) (k : Nat) : HO.lst (List.replicate k (xs.map f)).flatten = .lst ((List.replicate k xs).flatten.map f) := by
  rw [List.map_flatten, List.map_replicate]
theorem erase_map' {α β : Type} (f : α → β) : ∀ (xs : List α) (k : Nat), (xs.map f).eraseIdx k = (xs.eraseIdx k).map f
  | [], _ => rfl
  | _ :: _, 0 => rfl
  | x :: xs, k + 1 => by
    show f x :: (xs.map f).eraseIdx k = f x :: (xs.eraseIdx k).map f
    rw [erase_map' f xs k]
theorem lst_erase {α : Type} (f : α → V) (xs : List α) (k : Nat) : HO.lst ((xs.map f).eraseIdx k) = .lst ((xs.eraseIdx k).map f) := by rw [erase_map']
theorem lst_dl {α : Type} (f : α → V) (xs : List α) : HO.lst ((xs.map f).dropLast) = .lst (xs.dropLast.map f) := by rw [List.map_dropLast]
theorem lst_rep1 {α : Type} (f : α → V) (x : α) (k : Nat) : HO.lst (List.replicate k [f x]).flatten = .lst ((List.replicate k x).map f) := by
  rw [List.map_replicate]; congr 1
  induction k with
  | zero => rfl
  | succ k ih => rw [List.replicate_succ, List.flatten_cons, ih]; rfl
/-- a slice with step one -/
def cutL {α : Type} (xs : List α) (lo hi : Option Int) : List α :=
  (xs.drop (HT.sIx xs.length 0 lo)).take (HT.sIx xs.length xs.length hi - HT.sIx xs.length 0 lo)
theorem lst_cut {α : Type} (f : α → V) (xs : List α) (lo hi : Option Int) : HO.lst (cutV (xs.map f) lo hi) = .lst ((cutL xs lo hi).map f) := by
  unfold cutV cutL; rw [List.length_map, List.map_take, List.map_drop]
theorem rgV_eq (a b : Int) : rgV a b = ((List.range (b - a).toNat).map fun i : Nat => a + (i : Int)).map V.int := by
  unfold rgV; rw [List.map_map]; rfl
def rangeI (n : Int) : List Int := (List.range n.toNat).map fun i : Nat => (i : Int)
theorem lst_rng (n : Int) : HO.lst (rgV 0 n) = .lst ((rangeI n).map V.int) := by
  rw [rgV_eq]; unfold rangeI; congr 2; simp
theorem atD {α : Type} {f : α → V} {xs : List α} {i : Int} (d : α) (h0 : 0 ≤ i) (h1 : i < (xs.length : Int)) : atI (xs.map f) i = some (f (xs.getD i.toNat d)) := by
  obtain ⟨n, rfl⟩ := Int.eq_ofNat_of_zero_le h0
  have hn : n < xs.length := by omega
  refine atI_nat ?_
  rw [List.getElem?_map, List.getElem?_eq_getElem hn]
  simp [List.getD, hn]
theorem ixD {n : Nat} {i : Int} (h0 : 0 ≤ i) (h1 : i < (n : Int)) : ixN n i = some i.toNat := by
  unfold ixN; rw [if_pos h0, if_pos h1]
theorem atLast {α : Type} {f : α → V} {xs : List α} (d : α) (h : 0 < xs.length) : atI (xs.map f) (-1) = some (f (xs.getLastD d)) := by
  have hne : xs ≠ [] := fun z => by subst z; cases h
  have e : xs.map f = xs.dropLast.map f ++ [f (xs.getLast hne)] := by
    rw [← List.map_singleton, ← List.map_append, List.dropLast_concat_getLast]
  rw [e, atI_last, List.getLastD_eq_getLast?, List.getLast?_eq_some_getLast hne]; rfl
theorem getD_mem {α : Type} {xs : List α} {i : Nat} {d : α} (h : i < xs.length) : xs.getD i d ∈ xs := by
  simp [List.getD, h]

/-! tests -/
theorem iteD {c : Prop} [Decidable c] {A B : Prop} (h1 : c → A) (h2 : ¬ c → B) : if decide c = true then A else B := by
  by_cases h : c
  · rw [if_pos (decide_eq_true h)]; exact h1 h
  · rw [if_neg (by rw [decide_eq_false h]; exact Bool.false_ne_true)]; exact h2 h
theorem iteN {c : Prop} [Decidable c] {A B : Prop} (h1 : ¬ c → A) (h2 : c → B) : if (!decide c) = true then A else B := by
  by_cases h : c
  · rw [if_neg (by rw [decide_eq_true h]; exact Bool.false_ne_true)]; exact h2 h
  · rw [if_pos (by rw [decide_eq_false h]; rfl)]; exact h1 h
theorem iteB {b : Bool} {A B : Prop} (h1 : b = true → A) (h2 : b = false → B) : if b = true then A else B := by
  cases b with
  | true => exact iteT (h1 rfl)
  | false => exact iteF (h2 rfl)
theorem iteBT {b : Bool} {A B : Prop} (h : b = true) (h1 : A) : if b = true then A else B := by subst h; exact iteT h1
theorem iteBF {b : Bool} {A B : Prop} (h : b = false) (h1 : B) : if b = true then A else B := by subst h; exact iteF h1

/-! operators by values, in handy forms -/
section
variable {X : Cx}
theorem op_eqB : OpR X (compareOp .Eq) (fun x y H Q => ∃ a b : Bool, x = .bl a ∧ y = .bl b ∧ Q (.bl (a == b)) H) := by
  intro pins s σ H x y v u Q I rx ry h
  obtain ⟨a, b, rfl, rfl, q⟩ := h
  refine op_eq pins s σ H _ _ v u Q I rx ry ⟨rfl, ?_⟩
  have : decide (V.bl a = V.bl b) = (a == b) := by cases a <;> cases b <;> rfl
  rw [this]; exact q
theorem op_neB : OpR X (compareOp .NotEq) (fun x y H Q => ∃ a b : Bool, x = .bl a ∧ y = .bl b ∧ Q (.bl (a != b)) H) := by
  intro pins s σ H x y v u Q I rx ry h
  obtain ⟨a, b, rfl, rfl, q⟩ := h
  refine op_ne pins s σ H _ _ v u Q I rx ry ⟨rfl, ?_⟩
  have : (!decide (V.bl a = V.bl b)) = (a != b) := by cases a <;> cases b <;> rfl
  rw [this]; exact q
def rLenL (K : PySem.W.Frag) : List V → Hp → VK → Prop := fun xs H Q => ∃ p n ys, xs = [.ref p] ∧ SqL K H p ys ∧ ys.length = n ∧ Q (.int (n : Nat)) H
theorem call_lenL : CallR X (.builtin "len") (rLenL X.K) := by
  intro pins s σ H xs us Q I r h
  obtain ⟨p, n, ys, rfl, hp, rfl, q⟩ := h
  exact call_len_seq pins s σ H _ us Q I r ⟨p, ys, rfl, .inl hp, q⟩
def rListL (K : PySem.W.Frag) : List V → Hp → VK → Prop := fun xs H Q => ∃ p ys, xs = [.ref p] ∧ (SqL K H p ys ∨ SqT K H p ys) ∧ ∀ l, H l = none → Q (.ref l) (upd H l (.lst ys))
theorem call_listL : CallR X (.type "list") (rListL X.K) := call_list_of
theorem call_minI (hc : X.calm = true) : CallR X (.builtin "min") (fun xs H Q => ∃ i j : Int, xs = [.int i, .int j] ∧ Q (.int (min i j)) H) := by
  intro pins s σ H xs us Q I r h
  obtain ⟨i, j, rfl, q⟩ := h
  refine call_min2 hc pins s σ H _ us Q I r ⟨i, j, rfl, ?_⟩
  have : (if j < i then j else i) = min i j := by
    by_cases h : j < i
    · rw [if_pos h]; omega
    · rw [if_neg h]; omega
  rw [this]; exact q
theorem call_maxI (hc : X.calm = true) : CallR X (.builtin "max") (fun xs H Q => ∃ i j : Int, xs = [.int i, .int j] ∧ Q (.int (max i j)) H) := by
  intro pins s σ H xs us Q I r h
  obtain ⟨i, j, rfl, q⟩ := h
  refine call_max2 hc pins s σ H _ us Q I r ⟨i, j, rfl, ?_⟩
  have : (if j > i then j else i) = max i j := by
    by_cases h : j > i
    · rw [if_pos h]; omega
    · rw [if_neg h]; omega
  rw [this]; exact q
theorem call_absI : CallR X (.builtin "abs") (fun xs H Q => ∃ i : Int, xs = [.int i] ∧ Q (.int (i.natAbs : Nat)) H) := by
  intro pins s σ H xs us Q I r h
  obtain ⟨i, rfl, q⟩ := h
  refine call_abs pins s σ H _ us Q I r ⟨i, rfl, ?_⟩
  have : (if i < 0 then -i else i) = (i.natAbs : Int) := by
    by_cases h : i < 0
    · rw [if_pos h]; omega
    · rw [if_neg h]; omega
  rw [this]; exact q
theorem pe_bmK {K : PySem.W.Frag} {e : Expr} {T : String} {r : V → List V → Hp → VK → Prop} {to : TE} {t : TA} (h : PE X e (tBM X.K T r to t)) (hk : X.K = K := by rfl) : PE X e (tBM K T r to t) := by subst hk; exact h
/-- comparisons, told in two ways -/
theorem op_ltS : OpR X (compareOp .Lt) (fun x y H Q => ∃ i j : Int, x = .int i ∧ y = .int j ∧ (i < j → Q (.bl true) H) ∧ (¬ i < j → Q (.bl false) H)) := by
  intro pins s σ H x y v u Q I rx ry h
  obtain ⟨i, j, rfl, rfl, q1, q2⟩ := h
  refine op_lt pins s σ H _ _ v u Q I rx ry ⟨i, j, rfl, rfl, ?_⟩
  show Q (V.bl (decide (i < j))) H
  by_cases h : i < j
  · rw [decide_eq_true h]; exact q1 h
  · rw [decide_eq_false h]; exact q2 h
theorem op_leS : OpR X (compareOp .LtE) (fun x y H Q => ∃ i j : Int, x = .int i ∧ y = .int j ∧ (i ≤ j → Q (.bl true) H) ∧ (¬ i ≤ j → Q (.bl false) H)) := by
  intro pins s σ H x y v u Q I rx ry h
  obtain ⟨i, j, rfl, rfl, q1, q2⟩ := h
  refine op_le pins s σ H _ _ v u Q I rx ry ⟨i, j, rfl, rfl, ?_⟩
  show Q (V.bl (decide (i ≤ j))) H
  by_cases h : i ≤ j
  · rw [decide_eq_true h]; exact q1 h
  · rw [decide_eq_false h]; exact q2 h
theorem op_gtS : OpR X (compareOp .Gt) (fun x y H Q => ∃ i j : Int, x = .int i ∧ y = .int j ∧ (j < i → Q (.bl true) H) ∧ (¬ j < i → Q (.bl false) H)) := by
  intro pins s σ H x y v u Q I rx ry h
  obtain ⟨i, j, rfl, rfl, q1, q2⟩ := h
  refine op_gt pins s σ H _ _ v u Q I rx ry ⟨i, j, rfl, rfl, ?_⟩
  show Q (V.bl (decide (j < i))) H
  by_cases h : j < i
  · rw [decide_eq_true h]; exact q1 h
  · rw [decide_eq_false h]; exact q2 h
theorem op_geS : OpR X (compareOp .GtE) (fun x y H Q => ∃ i j : Int, x = .int i ∧ y = .int j ∧ (j ≤ i → Q (.bl true) H) ∧ (¬ j ≤ i → Q (.bl false) H)) := by
  intro pins s σ H x y v u Q I rx ry h
  obtain ⟨i, j, rfl, rfl, q1, q2⟩ := h
  refine op_ge pins s σ H _ _ v u Q I rx ry ⟨i, j, rfl, rfl, ?_⟩
  show Q (V.bl (decide (j ≤ i))) H
  by_cases h : j ≤ i
  · rw [decide_eq_true h]; exact q1 h
  · rw [decide_eq_false h]; exact q2 h
theorem int_dec {i j : Int} : decide (V.int i = V.int j) = decide (i = j) := by
  by_cases h : i = j
  · subst h; rw [decide_eq_true rfl, decide_eq_true rfl]
  · rw [decide_eq_false h, decide_eq_false fun z => h (V.int.inj z)]
theorem op_eqS : OpR X (compareOp .Eq) (fun x y H Q => ∃ i j : Int, x = .int i ∧ y = .int j ∧ (i = j → Q (.bl true) H) ∧ (¬ i = j → Q (.bl false) H)) := by
  intro pins s σ H x y v u Q I rx ry h
  obtain ⟨i, j, rfl, rfl, q1, q2⟩ := h
  refine op_eq pins s σ H _ _ v u Q I rx ry ⟨rfl, ?_⟩
  rw [int_dec]
  by_cases h : i = j
  · rw [decide_eq_true h]; exact q1 h
  · rw [decide_eq_false h]; exact q2 h
theorem op_neS : OpR X (compareOp .NotEq) (fun x y H Q => ∃ i j : Int, x = .int i ∧ y = .int j ∧ (¬ i = j → Q (.bl true) H) ∧ (i = j → Q (.bl false) H)) := by
  intro pins s σ H x y v u Q I rx ry h
  obtain ⟨i, j, rfl, rfl, q1, q2⟩ := h
  refine op_ne pins s σ H _ _ v u Q I rx ry ⟨rfl, ?_⟩
  rw [int_dec]
  by_cases h : i = j
  · rw [decide_eq_true h]; exact q2 h
  · rw [decide_eq_false h]; exact q1 h
/-- a truth, told in two ways: as a test, as a value -/
def tBS (t : TE) : TT := fun σ H Q => t σ H fun x H1 => ∃ b, x = .bl b ∧ (b = true → Q true H1) ∧ (b = false → Q false H1)
theorem pt_valS {e : Expr} {t : TE} (h : PE X e t) (he : ∀ whole, isTrue e X.env whole = (do let v ← whole; standAt e.pos; holding [v] (truthy v)) := by intro _; rfl) : PT X e (tBS t) := by
  refine ⟨fun pins s σ H Q I hw => ?_⟩
  refine isTrue_plain (thn (h.run pins s σ H _ I hw) fun v s1 ⟨x, H1, I1, r1, q1⟩ => ?_) (he _)
  obtain ⟨d, rfl, q1, q2⟩ := q1
  cases r1
  refine wpAny_truthy_bool ⟨H1, I1, ?_⟩
  cases d with
  | true => exact q1 rfl
  | false => exact q2 rfl
/-- an operator whose answer is a truth, told in two ways -/
theorem opS {f : Value → Value → Sem Value} {r : R2} (h : OpR X f r) : OpR X f (fun x y H Q => r x y H fun z H1 => ∃ b, z = .bl b ∧ (b = true → Q (.bl true) H1) ∧ (b = false → Q (.bl false) H1)) := by
  intro pins s σ H x y v u Q I rx ry q
  refine thn (h pins s σ H x y v u _ I rx ry q) fun w s1 ⟨z, H1, I1, r1, q1⟩ => ?_
  obtain ⟨d, rfl, q1, q2⟩ := q1
  refine ⟨.bl d, H1, I1, r1, ?_⟩
  cases d with
  | true => exact q1 rfl
  | false => exact q2 rfl
/-- and, or, not as values, of truths told in two ways -/
def tSplE (t : TE) : TE := fun σ H Q => t σ H fun x H1 => ∃ b, x = .bl b ∧ (b = true → Q (.bl true) H1) ∧ (b = false → Q (.bl false) H1)
theorem pe_splS {e : Expr} {t : TE} (h : PE X e t) : PE X e (tSplE t) := by
  refine ⟨fun pins s σ H Q I hw => thn (h.run pins s σ H _ I hw) fun v s1 ⟨x, H1, I1, r1, q1⟩ => ?_⟩
  obtain ⟨d, rfl, q1, q2⟩ := q1
  refine ⟨.bl d, H1, I1, r1, ?_⟩
  cases d with
  | true => exact q1 rfl
  | false => exact q2 rfl
/-- a power of written numbers, told as a number -/
theorem op_powL : OpR X (binaryOp .Pow) (fun x y H Q => ∃ i j k : Int, x = .int i ∧ y = .int j ∧ CPow i j ∧ i ^ j.toNat = k ∧ Q (.int k) H) := by
  intro pins s σ H x y v u Q I rx ry h
  obtain ⟨i, j, k, rfl, rfl, hc, rfl, q⟩ := h
  exact op_pow pins s σ H _ _ v u Q I rx ry ⟨i, j, rfl, rfl, hc, q⟩
/-- xs[i], read for an augmented store -/
theorem get_list : PGet X (rIxL X.K) := by
  intro pins s σ H o i ov iv Q I ro ri h
  obtain ⟨p, xs, k, z, rfl, rfl, hq, he, q⟩ := h
  cases ro
  obtain ⟨tk, rfl⟩ := ri
  obtain ⟨its, vr, pl, hz⟩ := I.list hq
  obtain ⟨j, h1, h2, h3, h4, h5⟩ := atI_get he
  obtain ⟨w, ew, rw'⟩ := vr.get h2
  have hl := vr.length
  have hn := line63
  have fin : EP X pins σ Q w s := ⟨z, H, I, rw', q⟩
  by_cases h0 : 0 ≤ k
  · have hj : k.toNat = j := by
      rw [seqIndex_of h0 h5] at h1; exact Option.some.inj h1
    exact wpAny_mono (wpAny_getItem_list (Q := fun r s' => r = w ∧ EP X pins σ Q r s') pl.isList h0 (by omega) (by rw [hj]; simpa using ew) ⟨rfl, fin⟩) (fun _ _ z => z.2) fun _ _ z => z
  · have hj : (k + (its.toArray.size : Int)).toNat = j := by
      rw [seqIndex_neg (by omega) h4] at h1
      rw [List.size_toArray, ← hl]; exact Option.some.inj h1
    exact wpAny_mono (wpAny_getItem_list_neg (Q := fun r s' => r = w ∧ EP X pins σ Q r s') pl.isList (by omega) (by rw [List.size_toArray] <;> omega) (by omega) (by rw [hj]; simpa using ew) ⟨rfl, fin⟩) (fun _ _ z => z.2) fun _ _ z => z
end
end Rc
namespace Rc
open PySem PySem.Spec PyProof.Rows L2

section
variable {H0 H H' : Hp} {own : List (Addr × HO)} {p : Addr} {o : HO}
theorem Fr.n0 (f : Fr H0 H ((p, o) :: own)) : H0 p = none := (f.frs _ List.mem_cons_self).1
theorem Fr.n1 {a : Addr × HO} (f : Fr H0 H (a :: (p, o) :: own)) : H0 p = none := f.up1.n0
theorem Fr.n2 {a b : Addr × HO} (f : Fr H0 H (a :: b :: (p, o) :: own)) : H0 p = none := f.up2.n0
end
theorem ndT {c : Prop} [Decidable c] (h : ¬ c) : (!decide c) = true := by rw [decide_eq_false h]; rfl
theorem ndF {c : Prop} [Decidable c] (h : c) : (!decide c) = false := by rw [decide_eq_true h]; rfl
theorem of_nd {c : Prop} [Decidable c] (h : (!decide c) = false) : c := by
  by_cases z : c
  · exact z
  · rw [decide_eq_false z] at h; cases h
theorem not_of_nd {c : Prop} [Decidable c] (h : (!decide c) = true) : ¬ c := fun z => by rw [decide_eq_true z] at h; cases h
theorem bnotT {b : Bool} (h : (!b) = true) : b = false := by cases b with | true => cases h | false => rfl
theorem bnotF {b : Bool} (h : (!b) = false) : b = true := by cases b with | true => rfl | false => cases h
theorem iteBN {b : Bool} {A B : Prop} (h1 : b = false → A) (h2 : b = true → B) : if (!b) = true then A else B := by
  cases b with
  | false => exact iteT (h1 rfl)
  | true => exact iteF (h2 rfl)
theorem hu64 {A : Around} {k : Nat} (hr : Room k A) : A.units + 64 < cLine := by have := hr.un; omega

/-! what is walked, with typed contents -/
section
variable {α β : Type} {K : PySem.W.Frag} {a b : Addr}
theorem walkR {n : Nat} : Walk (Itr 0 n) n (fun _ => True) (fun i H x H' => H' = H ∧ x = .int (i : Nat)) :=
  walk_range.mono (fun _ h => h) fun i H x H' _ _ y => ⟨y.1, by rw [y.2]; exact congrArg V.int (Int.zero_add _)⟩
theorem walkL (f : α → V) (ns : List α) : Walk (Itl K a) ns.length (fun H => H a = some (.lst (ns.map f))) (fun i H x H' => H' = H ∧ ∃ y, ns[i]? = some y ∧ x = f y) := by
  have w := walk_list (K := K) (a := a) (xs := ns.map f)
  rw [List.length_map] at w
  refine w.mono (fun H h => SqL.of h) fun i H x H' _ _ y => ⟨y.1, ?_⟩
  have e := y.2
  rw [List.getElem?_map] at e
  cases h : ns[i]? with
  | none => rw [h] at e; cases e
  | some z => rw [h] at e; exact ⟨z, rfl, (Option.some.inj e).symm⟩
theorem walkV (ns : List V) : Walk (Itl K a) ns.length (fun H => H a = some (.lst ns)) (fun i H x H' => H' = H ∧ ns[i]? = some x) :=
  walk_list.mono (fun H h => SqL.of h) fun i H x H' _ _ y => y
theorem walkRv (f : α → V) (ns : List α) : Walk (Itv K a (ns.map f).length) ns.length (fun H => H a = some (.lst (ns.map f))) (fun i H x H' => H' = H ∧ ∃ y, ns[ns.length - 1 - i]? = some y ∧ x = f y) := by
  have w := walk_rev (K := K) (a := a) (xs := ns.map f)
  rw [List.length_map] at w ⊢
  refine w.mono (fun H h => SqL.of h) fun i H x H' _ _ y => ⟨y.1, ?_⟩
  have e := y.2
  rw [List.getElem?_map] at e
  cases h : ns[ns.length - 1 - i]? with
  | none => rw [h] at e; cases e
  | some z => rw [h] at e; exact ⟨z, rfl, (Option.some.inj e).symm⟩
theorem walkE (f : α → V) (ns : List α) : Walk (Ite K a) ns.length (fun H => H a = some (.lst (ns.map f)))
    (fun i H x H' => ∃ T y, x = .ref T ∧ H T = none ∧ H' = upd H T (.tup [.int (i : Nat), f y]) ∧ ns[i]? = some y) := by
  have w := walk_enum (K := K) (a := a) (xs := ns.map f)
  rw [List.length_map] at w
  refine w.mono (fun H h => SqL.of h) fun i H x H' _ _ y => ?_
  obtain ⟨T, u, v, h1, h2, h3, h4, h5⟩ := y
  cases h4
  replace h5 : (ns.map f)[i]? = some v := h5
  rw [List.getElem?_map] at h5
  cases h : ns[i]? with
  | none => rw [h] at h5; cases h5
  | some z => rw [h] at h5; cases (Option.some.inj h5); exact ⟨T, z, h1, h2, h3, rfl⟩
theorem walkZ (f : α → V) (g : β → V) (ns : List α) (ms : List β) : Walk (Itz K a b) (min ns.length ms.length) (fun H => H a = some (.lst (ns.map f)) ∧ H b = some (.lst (ms.map g)))
    (fun i H x H' => ∃ T y z, x = .ref T ∧ H T = none ∧ H' = upd H T (.tup [f y, g z]) ∧ ns[i]? = some y ∧ ms[i]? = some z) := by
  have w := walk_zip (K := K) (a := a) (b := b) (xs := ns.map f) (ys := ms.map g) (n := min ns.length ms.length) (by rw [List.length_map, List.length_map])
  refine w.mono (fun H h => ⟨SqL.of h.1, SqL.of h.2⟩) fun i H x H' _ _ y => ?_
  obtain ⟨T, u, v, h1, h2, h3, h4, h5⟩ := y
  replace h4 : (ns.map f)[i]? = some u := h4
  replace h5 : (ms.map g)[i]? = some v := h5
  rw [List.getElem?_map] at h4 h5
  cases h : ns[i]? with
  | none => rw [h] at h4; cases h4
  | some z =>
    cases h' : ms[i]? with
    | none => rw [h'] at h5; cases h5
    | some z' =>
      rw [h] at h4; rw [h'] at h5
      cases (Option.some.inj h4); cases (Option.some.inj h5)
      exact ⟨T, z, z', h1, h2, h3, rfl, rfl⟩
end

/-! comprehensions: one turn -/
section
variable {α β : Type} {enc : β → V} {f : α → β} {ns : List α} {i : Nat} {y : α}
theorem take_next (h : ns[i]? = some y) : ns.take (i + 1) = ns.take i ++ [y] := by rw [List.take_add_one, h]; rfl
theorem lc_l (h : ns[i]? = some y) : HO.lst ((((ns.take i).map f).map enc) ++ [enc (f y)]) = .lst (((ns.take (i + 1)).map f).map enc) := by
  rw [take_next h, List.map_append, List.map_append]; rfl
theorem lc_l_t {p : α → Bool} (h : ns[i]? = some y) (hp : p y = true) : HO.lst (((((ns.take i).filter p).map f).map enc) ++ [enc (f y)]) = .lst ((((ns.take (i + 1)).filter p).map f).map enc) := by
  rw [take_next h, List.filter_append, List.map_append, List.map_append, List.filter_cons_of_pos hp]; rfl
theorem lc_l_f {p : α → Bool} (h : ns[i]? = some y) (hp : p y = false) : HO.lst ((((ns.take i).filter p).map f).map enc) = .lst ((((ns.take (i + 1)).filter p).map f).map enc) := by
  rw [take_next h, List.filter_append, List.filter_cons_of_neg (by rw [hp]; exact Bool.false_ne_true)]; simp
theorem lc_r (f : Nat → β) (i : Nat) : HO.lst ((((List.range i).map f).map enc) ++ [enc (f i)]) = .lst (((List.range (i + 1)).map f).map enc) := by
  rw [List.range_succ, List.map_append, List.map_append]; rfl
theorem lc_r_t {f : Nat → β} {p : Nat → Bool} (hp : p i = true) : HO.lst (((((List.range i).filter p).map f).map enc) ++ [enc (f i)]) = .lst ((((List.range (i + 1)).filter p).map f).map enc) := by
  rw [List.range_succ, List.filter_append, List.map_append, List.map_append, List.filter_cons_of_pos hp]; rfl
theorem lc_r_f {f : Nat → β} {p : Nat → Bool} (hp : p i = false) : HO.lst ((((List.range i).filter p).map f).map enc) = .lst ((((List.range (i + 1)).filter p).map f).map enc) := by
  rw [List.range_succ, List.filter_append, List.filter_cons_of_neg (by rw [hp]; exact Bool.false_ne_true)]; simp
end

/-! whiles by a measure -/
theorem while_m {c : TT} {tb : TS} {D : Ends} {σ : L2.St} {H : Hp} (W : Nat → L2.St → Hp → Prop) (h0 : ∃ m, W m σ H)
    (hs : ∀ m σ H, W m σ H → c σ H fun b H1 => if b = true then ∃ N : L2.St → Hp → Prop, (∀ σ' H', N σ' H' → ∃ m', m' < m ∧ W m' σ' H') ∧ tb { D with nx := N, ct := N, bk := D.nx } σ H1 else D.nx σ H1) : tWhile c tb D σ H := ⟨W, h0, hs⟩

/-! pop(i) -/
theorem popix {n : Nat} {i : Int} (h0 : 0 ≤ i) (h1 : i < (n : Int)) {α β : Type} {f : α → β} {xs : List α} (hn : n = xs.length := by rfl) : seqIndex? i (xs.map f).length = some i.toNat := by
  subst hn; rw [List.length_map]; exact seqIndex_of h0 h1
theorem popat {α : Type} {f : α → V} {xs : List α} {k : Nat} (d : α) (h : k < xs.length) : (xs.map f)[k]? = some (f (xs.getD k d)) := by
  rw [List.getElem?_map, List.getElem?_eq_getElem h]; simp [List.getD, h]
theorem ixDm {α β : Type} {f : α → β} {xs : List α} {i : Int} (h0 : 0 ≤ i) (h1 : i < (xs.length : Int)) : ixN (xs.map f).length i = some i.toNat := by
  rw [List.length_map]; exact ixD h0 h1
theorem atV {xs : List V} {i : Int} (d : V) (h0 : 0 ≤ i) (h1 : i < (xs.length : Int)) : atI xs i = some (xs.getD i.toNat d) := by
  have := atD (f := fun v : V => v) d h0 h1
  rwa [List.map_id'] at this

/-! deep data -/
def dI (xs : List Int) : PyData := .list (xs.map PyData.int)
def dB (xs : List Bool) : PyData := .list (xs.map PyData.bool)
section
variable {K : PySem.W.Frag} {H : Hp} {a : Addr}
theorem dpAll {α : Type} {f : α → V} {g : α → PyData} (h : ∀ x, Dp K H (f x) (g x)) : ∀ xs : List α, DpAll K H (xs.map f) (xs.map g)
  | [] => .nil
  | x :: xs => .cons (h x) (dpAll h xs)
/-- a list, its depth by its items -/
theorem dp_ints {xs : List Int} (h : H a = some (.lst (xs.map V.int))) : Dp K H (.ref a) (dI xs) := .lst (SqL.of h) (dpAll (fun _ => .int _) xs)
theorem dp_bls {xs : List Bool} (h : H a = some (.lst (xs.map V.bl))) : Dp K H (.ref a) (dB xs) := .lst (SqL.of h) (dpAll (fun _ => .bl _) xs)
end
theorem canAll {α : Type} {g : α → PyData} (h : ∀ x, (g x).canLay0 = true) : ∀ xs : List α, PyData.canLayAll0 (xs.map g) = true
  | [] => rfl
  | x :: xs => by
    show ((g x).canLay0 && PyData.canLayAll0 (xs.map g)) = true
    rw [h x, canAll h xs]; rfl
theorem depthAll {α : Type} {g : α → PyData} {n : Nat} (h : ∀ x, (g x).depth ≤ n) : ∀ xs : List α, PyData.depthAll (xs.map g) ≤ n
  | [] => Nat.zero_le _
  | x :: xs => by
    show max (g x).depth (PyData.depthAll (xs.map g)) ≤ n
    have h1 := h x
    have h2 := depthAll h xs
    omega
/-- data of a depth of at most n, without texts -/
structure Okd (n : Nat) (d : PyData) : Prop where
  can : d.canLay0 = true
  dep : d.depth ≤ n
theorem Okd.sh {d : PyData} (h : Okd 9 d) : SeqAt.shaped d = true := by
  unfold SeqAt.shaped; rw [h.can, decide_eq_true (by have := h.dep; omega)]; rfl
theorem Okd.cn {d : PyData} (h : Okd 9 d) : d.canLay0 = true := h.can
section
variable {n : Nat}
theorem okd_ints (xs : List Int) : Okd (n + 1) (dI xs) := ⟨canAll (fun _ => rfl) xs, Nat.succ_le_succ (Nat.le_trans (depthAll (n := 0) (fun _ => Nat.le_refl _) xs) (Nat.zero_le _))⟩
theorem okd_bls (xs : List Bool) : Okd (n + 1) (dB xs) := ⟨canAll (fun _ => rfl) xs, Nat.succ_le_succ (Nat.le_trans (depthAll (n := 0) (fun _ => Nat.le_refl _) xs) (Nat.zero_le _))⟩
theorem okd_int {i : Int} : Okd n (.int i) := ⟨rfl, Nat.zero_le _⟩
theorem okd_bl {b : Bool} : Okd n (.bool b) := ⟨rfl, Nat.zero_le _⟩
theorem okd_non : Okd n .none := ⟨rfl, Nat.zero_le _⟩
theorem okl_nil : Okd (n + 1) (.list []) := ⟨rfl, Nat.succ_le_succ (Nat.zero_le _)⟩
theorem okl_cons {d : PyData} {ds : List PyData} (h : Okd n d) (h' : Okd (n + 1) (.list ds)) : Okd (n + 1) (.list (d :: ds)) := by
  obtain ⟨c, p⟩ := h; obtain ⟨c', p'⟩ := h'
  have e1 : PyData.canLayAll0 ds = true := c'
  have e2 : PyData.depthAll ds + 1 ≤ n + 1 := p'
  refine ⟨?_, ?_⟩
  · show (d.canLay0 && PyData.canLayAll0 ds) = true
    rw [c, e1]; rfl
  · show max d.depth (PyData.depthAll ds) + 1 ≤ n + 1
    omega
theorem okt_nil : Okd (n + 1) (.tuple []) := ⟨rfl, Nat.succ_le_succ (Nat.zero_le _)⟩
theorem okt_cons {d : PyData} {ds : List PyData} (h : Okd n d) (h' : Okd (n + 1) (.tuple ds)) : Okd (n + 1) (.tuple (d :: ds)) := by
  have q := okl_cons h (show Okd (n + 1) (.list ds) from ⟨h'.can, h'.dep⟩)
  exact ⟨q.can, q.dep⟩
end
section
variable {X : Cx}
/-- == of deep data, the answer told -/
def rEqX (K : PySem.W.Frag) : R2 := fun x y H Q => ∃ (d e : PyData) (b : Bool), Dp K H x d ∧ Dp K H y e ∧ SeqAt.shaped d = true ∧ SeqAt.shaped e = true ∧ PyData.eqv d e = b ∧ Q (.bl b) H
def rNeX (K : PySem.W.Frag) : R2 := fun x y H Q => ∃ (d e : PyData) (b : Bool), Dp K H x d ∧ Dp K H y e ∧ SeqAt.shaped d = true ∧ SeqAt.shaped e = true ∧ PyData.eqv d e = b ∧ Q (.bl (!b)) H
theorem op_eqX (hu : X.A.units + 64 < cLine) : OpR X (compareOp .Eq) (rEqX X.K) := by
  intro pins s σ H x y v u Q I rx ry h
  obtain ⟨d, e, b, h1, h2, h3, h4, rfl, q⟩ := h
  exact op_eqD hu pins s σ H x y v u Q I rx ry ⟨d, e, h1, h2, h3, h4, q⟩
theorem op_neX (hu : X.A.units + 64 < cLine) : OpR X (compareOp .NotEq) (rNeX X.K) := by
  intro pins s σ H x y v u Q I rx ry h
  obtain ⟨d, e, b, h1, h2, h3, h4, rfl, q⟩ := h
  exact op_neD hu pins s σ H x y v u Q I rx ry ⟨d, e, h1, h2, h3, h4, q⟩
end
/-- range(0, m, c), c from 1 on -/
theorem rgc_up {m c : Int} {n : Nat} (h0 : -(2 ^ 40) ≤ m) (h1 : m < 2 ^ 40) (hc : 0 < c) (hc' : c < 100000000) (hn : (n : Int) = if 0 < m then (m - 1) / c + 1 else 0) : RgC 0 m c n := by
  have hs : Builtin.Range.rangeSize 0 m c = n := by
    unfold Builtin.Range.rangeSize
    rw [if_pos (by omega), hn, Int.sub_zero]
  refine ⟨by omega, by omega, ?_, hs⟩
  have e2 : 0 < m → 0 ≤ (m - 1) / c := fun h => Int.ediv_nonneg (by omega) (by omega)
  have e3 : 0 < m → (m - 1) / c ≤ m - 1 := fun h => Int.ediv_le_self _ (by omega)
  unfold Builtin.Range.small
  rw [hs, hn]
  generalize (m - 1) / c = q at *
  simp only [Builtin.Range.rangeFitsLong, Bool.and_eq_true, Bool.or_eq_true, decide_eq_true_eq, beq_iff_eq]
  split
  · rename_i hm
    have := e2 hm
    have := e3 hm
    refine ⟨by omega, .inr ?_⟩
    rw [Bool.and_eq_true, decide_eq_true_eq, decide_eq_true_eq]
    omega
  · refine ⟨by omega, .inl rfl⟩
/-- .. with a step of two -/
theorem rgc2 {m : Int} (h0 : 0 ≤ m) (h1 : m < 2 ^ 40) : RgC 0 m 2 (Int.toNat ((m + 1) / 2)) := by
  refine rgc_up (by omega) h1 (by decide) (by decide) ?_
  split <;> omega
theorem rgc3 {m : Int} (h0 : 0 ≤ m) (h1 : m < 2 ^ 40) : RgC 0 m 3 (Int.toNat ((m + 2) / 3)) := by
  refine rgc_up (by omega) h1 (by decide) (by decide) ?_
  split <;> omega
theorem rgc4 {m : Int} (h0 : 0 ≤ m) (h1 : m < 2 ^ 40) : RgC 0 m 4 (Int.toNat ((m + 3) / 4)) := by
  refine rgc_up (by omega) h1 (by decide) (by decide) ?_
  split <;> omega
theorem rgc5 {m : Int} (h0 : 0 ≤ m) (h1 : m < 2 ^ 40) : RgC 0 m 5 (Int.toNat ((m + 4) / 5)) := by
  refine rgc_up (by omega) h1 (by decide) (by decide) ?_
  split <;> omega
theorem eqvAll_map {α : Type} [DecidableEq α] {g : α → PyData} (h : ∀ x y, PyData.eqv (g x) (g y) = decide (x = y)) : ∀ xs ys : List α, PyData.eqvAll (xs.map g) (ys.map g) = decide (xs = ys)
  | [], [] => rfl
  | [], _ :: _ => rfl
  | _ :: _, [] => rfl
  | x :: xs, y :: ys => by
    show (PyData.eqv (g x) (g y) && PyData.eqvAll (xs.map g) (ys.map g)) = _
    rw [h, eqvAll_map h xs ys]
    by_cases e : x = y
    · subst e
      by_cases e' : xs = ys
      · subst e'; simp
      · simp [e']
    · simp [e]
theorem eqv_ints (xs ys : List Int) : PyData.eqv (dI xs) (dI ys) = decide (xs = ys) :=
  eqvAll_map (fun x y => by show (x == y) = _; exact Bool.beq_eq_decide_eq x y) xs ys
theorem eqv_bls (xs ys : List Bool) : PyData.eqv (dB xs) (dB ys) = decide (xs = ys) :=
  eqvAll_map (fun x y => by show (x == y) = _; cases x <;> cases y <;> rfl) xs ys

/-! list.index of an int that is there -/
theorem flat_ints : ∀ xs : List Int, (xs.map V.int).all flatV = true
  | [] => rfl
  | _ :: xs => flat_ints xs
theorem ix_get {xs : List Int} {y : Int} (h : y ∈ xs) : (xs.map V.int)[xs.idxOf y]? = some (V.int y) := by
  rw [List.getElem?_map, List.getElem?_eq_getElem (List.idxOf_lt_length_of_mem h), List.getElem_idxOf]; rfl
theorem ix_eqv {y : Int} : eqV (V.int y) (V.int y) = true := by show (y == y) = true; exact beq_self_eq_true y
theorem ix_first (xs : List Int) (y : Int) : ∀ (m : Nat) (z : V), m < xs.idxOf y → (xs.map V.int)[m]? = some z → eqV z (V.int y) = false := fun m z hm e => by
  rw [List.getElem?_map] at e
  cases h : xs[m]? with
  | none => rw [h] at e; cases e
  | some w =>
    rw [h] at e; cases (Option.some.inj e)
    show (w == y) = false
    have hl := (List.getElem?_eq_some_iff.mp h)
    obtain ⟨hl, rfl⟩ := hl
    have := List.not_of_lt_findIdx (p := (· == y)) (xs := xs) (i := m) hm
    simpa using this

/-! isinstance of any scalar -/
def is_int : V → Bool
  | .int _ => true
  | .bl _ => true
  | _ => false
def is_bool : V → Bool
  | .bl _ => true
  | _ => false
/-- the scalars -/
def sca : V → Bool
  | .non => true
  | .bl _ => true
  | .int _ => true
  | .str _ => true
  | _ => false
def tyName : V → String
  | .non => "NoneType"
  | .bl _ => "bool"
  | .int _ => "int"
  | _ => "str"
theorem tyx_val {K : PySem.W.Frag} {H : Hp} {x : V} (h : sca x = true) : TyX K H x (.type (tyName x)) := by
  cases x with
  | non => exact .base .non
  | bl b => exact .base (.bl b)
  | int i => exact .base (.int i)
  | str z => exact .base (.str z)
  | byt _ => cases h
  | flt _ => cases h
  | ref _ => cases h
  | ty _ => cases h
theorem kit_int {K : PySem.W.Frag} {x : V} (h : sca x = true) : PySem.W.kitOne K (.type (tyName x)) (.type "int") = some (is_int x) := by
  cases x with
  | non => exact kit_ty (show kitB "NoneType" "int" = some false by decide +kernel)
  | bl b => exact kit_ty (show kitB "bool" "int" = some true by decide +kernel)
  | int i => exact kit_ty (show kitB "int" "int" = some true by decide +kernel)
  | str z => exact kit_ty (show kitB "str" "int" = some false by decide +kernel)
  | byt _ => cases h
  | flt _ => cases h
  | ref _ => cases h
  | ty _ => cases h
theorem kit_bool {K : PySem.W.Frag} {x : V} (h : sca x = true) : PySem.W.kitOne K (.type (tyName x)) (.type "bool") = some (is_bool x) := by
  cases x with
  | non => exact kit_ty (show kitB "NoneType" "bool" = some false by decide +kernel)
  | bl b => exact kit_ty (show kitB "bool" "bool" = some true by decide +kernel)
  | int i => exact kit_ty (show kitB "int" "bool" = some false by decide +kernel)
  | str z => exact kit_ty (show kitB "str" "bool" = some false by decide +kernel)
  | byt _ => cases h
  | flt _ => cases h
  | ref _ => cases h
  | ty _ => cases h
end Rc
namespace Rc
open PySem PySem.Spec PyProof.Rows L2 RT
section
variable {prog : Program} {w : World} {A : Around} {E : Value → Shared → Prop} {s : Shared}
abbrev nilO (c : Nat) : Obj := { cls := .type "list", data := .seq #[] c }
/-- list.extend with a list's reversed iterator, into a new list at S -/
theorem rev_extend {it l S : Addr} {items : Array Value} {R : Result → Shared → Prop} {res : Value} {c0 : Nat} (hh : A.handled = none) (hit : s.heap.IsRevIter it l ((items.size : Int) - 1)) (hl : s.heap.IsList l items) (hne : l ≠ it)
    (hSi : S ≠ it) (hSl : S ≠ l) (hS : s.heap.get? S = some (nilO c0)) (hn : items.size ≤ sizeLine)
    (hR : ∀ h' tk acc c', (∀ b o, b ≠ S → b ≠ it → s.heap.get? b = some o → h'.get? b = some o) → h'.get? S = some { cls := .type "list", dict := none, data := .seq acc c', slots := #[] } →
      ItemsOf (fun i v => items[items.size - 1 - i]? = some v) acc items.size → R (.ok (.ret res)) { s with heap := h', toks := tk }) :
    wpAny (model prog w) A.in1 (Builtin.List.listExtendWith (.ref S) (.ref it) res)
      (fun fin z => match fin with | .done f => R (.ok f) z | .again c => c.quiet = true ∧ codeAny (model prog w) A c R z) (fun e z => R (.error e) z) s := by
  have W := (Walks.listRev (prog := prog) (w := w) (A := A.in1) hh it l hne items).toS
  have hf : S ∉ [it, l] := fun z => by
    rcases List.mem_cons.mp z with z | z
    · exact hSi z
    · exact hSl (List.mem_singleton.mp z)
  have ty : s.TypeIs (.ref it) "list_reverseiterator" := hit.typeIs
  have h1 : Builtin.List.listSameRef (.ref S) (.ref it) = false := by simp [Builtin.List.listSameRef, hSi]
  have h2 : (Value.type "list_reverseiterator" == Value.type "list") = false := by decide
  have h3 : (Value.type "list_reverseiterator" == Value.type "tuple") = false := by decide
  unfold Builtin.List.listExtendWith
  refine wpAny_bind (wpAny_typeOf ty ?_)
  simp only [h1, h2, h3, Bool.or_false, Bool.false_eq_true, if_false]
  refine wpAny_bind (wpAny_pyIter_revIter hit ?_)
  refine wpAny_bind (wpAny_holding ?_); unfold Builtin.List.listLengthHint
  refine wpAny_bind (wpAny_specialOf ty nolen_lri ?_)
  show wpAny _ A.in1 (specialOf (Value.ref it) (Str.ofString "__length_hint__") >>= _) _ _ _
  refine wpAny_bind (wpAny_specialOf ty hint_lri ?_)
  generalize hid : ("list_reverseiterator.__length_hint__" : String) = id0
  wp_delta
  rw [show splitId id0 = some ("list_reverseiterator", "__length_hint__") from by subst hid; decide +kernel]
  subst hid
  refine wpAny_bind (wpAny_isInstance (b := true) ty (by rw [isSubtype_type]; kernel_rfl) ?_)
  refine wpAny_pure ?_; rw [if_neg (by decide)]
  have e0 : ((items.size : Nat) : Int) - 1 - ((0 : Nat) : Int) = (items.size : Int) - 1 := by omega
  refine wpAny_pure ⟨plainId_quiet F.plain_extend_loop _, codeAny_extend_loopS W hn _ hf _ items.size 0 _ _ _ rfl (Nat.zero_le _) ⟨Nat.zero_le _, by rw [e0]; exact hit, hl⟩ hS (ItemsOf.nil _) fun z acc c' hm hz hacc => ?_⟩
  rw [Moved.eq_with hm]
  refine hR z.heap z.toks acc c' (fun b o h1 h2 e => hm.heap b o (fun hmem => ?_) e) hz hacc
  rcases List.mem_cons.mp hmem with q | q
  · exact h1 q
  · exact h2 (List.mem_singleton.mp q)
theorem call_list_rev {it l : Addr} {items : Array Value} {Q : Value → Shared → Prop} (hh : A.handled = none) (hit : s.heap.IsRevIter it l ((items.size : Int) - 1)) (hl : s.heap.IsList l items) (hne : l ≠ it) (hn : items.size ≤ sizeLine)
    (hQ : ∀ h' tk acc c', (∀ b o, b ≠ it → s.heap.get? b = some o → h'.get? b = some o) → h'.get? s.heap.objs.size = some { cls := .type "list", dict := none, data := .seq acc c', slots := #[] } →
      ItemsOf (fun i v => items[items.size - 1 - i]? = some v) acc items.size → Q (.ref s.heap.objs.size) { s with heap := h', toks := tk }) :
    wpAny (model prog w) A (call (.type "list") [.ref it]) Q E s := by
  refine callType_codes (Q₁ := fun obj z => obj = .ref s.heap.objs.size ∧ z = { s with heap := s.heap.push (nilO 0) }) F.called_list (F.typeCall_list_1 _) F.entry_list_init
    (code_list_new _ ⟨rfl, rfl⟩) fun obj z hz => ?_
  obtain ⟨rfl, rfl⟩ := hz
  obtain ⟨oi, hoi, _⟩ := id hit
  obtain ⟨ol, hol, _⟩ := id hl
  have hS : (s.heap.push (nilO 0)).get? s.heap.objs.size = some (nilO 0) := Heap.get?_push_size _ rfl
  have ni : s.heap.objs.size ≠ it := Nat.ne_of_gt (Heap.lt_size hoi)
  have nl : s.heap.objs.size ≠ l := Nat.ne_of_gt (Heap.lt_size hol)
  refine ⟨⟨_, hS, rfl⟩, F.args_list_init_2 _ _, ?_⟩
  show wpAny _ A.in1.in1 (do let old ← Builtin.List.listItems (.ref s.heap.objs.size); Builtin.List.listUpdate (.ref s.heap.objs.size) (fun _ => #[]); letGo old.toList.reverse; Builtin.List.listExtendWith (.ref s.heap.objs.size) (.ref it) .none) _ _ _
  refine wpAny_bind ?_; unfold Builtin.List.listItems
  refine wpAny_bind (wpAny_seqItems hS rfl (wpAny_pure ?_))
  show wpAny _ _ (updateSeq s.heap.objs.size (fun _ => #[]) >>= fun _ => letGo (#[] : Array Value).toList.reverse >>= fun _ => Builtin.List.listExtendWith (.ref s.heap.objs.size) (.ref it) .none) _ _ _
  refine wpAny_bind (wpAny_updateSeq hS rfl ?_)
  have hS2 := Heap.get?_update_self (Obj.mapSeq (fun _ => (#[] : Array Value))) hS rfl
  have oth : ∀ b o, b ≠ s.heap.objs.size → s.heap.get? b = some o → ((s.heap.push (nilO 0)).update s.heap.objs.size (Obj.mapSeq (fun _ => (#[] : Array Value)))).get? b = some o :=
    fun b o hb e => (Heap.get?_update_other _ _ (Ne.symm hb)).trans (Heap.get?_push_of_some _ e)
  refine wpAny_bind (wpAny_letGo ?_)
  refine rev_extend (A := A.in1) (s := { s with heap := _ }) hh (hit.at fun o e => oth _ _ ni.symm e) (hl.at fun o e => oth _ _ nl.symm e) hne ni nl hS2 hn fun h' tk acc c' hk hz hacc => ⟨rfl, ?_⟩
  exact hQ h' tk acc c' (fun b o hb e => hk b o (Nat.ne_of_lt (Heap.lt_size e)) hb (oth b o (Nat.ne_of_lt (Heap.lt_size e)) e)) hz hacc
end
section
variable {X : Cx}
/-- list(reversed(x)), x a list: a new list -/
def tListRev (K : PySem.W.Frag) (te : TE) : TE := fun σ H Q => te σ H fun v H1 => ∃ (a : Addr) (xs : List V), v = .ref a ∧ SqL K H1 a xs ∧ ∀ q, H1 q = none → Q (.ref q) (upd H1 q (.lst xs.reverse))
theorem pe_listRev {e : Expr} {te : TE} {p p2 pos pos2 : Pos} (hc : X.calm = true) (hg : Gl X "list") (hm : X.mg "list" = none) (hg2 : Gl X "reversed") (hm2 : X.mg "reversed" = none) (he : PE X e te)
    (hs : starEach [e] X.env = (false, eval e X.env) :: starEach [] X.env := by rfl)
    (hs2 : starEach [.Call (.Name "reversed" p2) [e] [] pos2] X.env = (false, eval (.Call (.Name "reversed" p2) [e] [] pos2) X.env) :: starEach [] X.env := by rfl) :
    PE X (.Call (.Name "list" p) [.Call (.Name "reversed" p2) [e] [] pos2] [] pos) (tListRev X.K te) := by
  refine ⟨fun pins s σ H Q I h => Call_ (ld_blt I hg hm (show bootBuiltins ("list" : Str) = some (.type "list") by decide +kernel) (PyProof.Rows.callWith_type1 (args_cons (Call_ (ld_blt I hg2 hm2 PyProof.Rows.boot_reversed (PyProof.Rows.callWith_type1 (args_cons (thn (he.run pins s σ H _ I h) fun u s1 ⟨v, H1, I1, r1, q1⟩ => args_nil ?_) hs) hs rfl))) hs2) hs2 rfl))⟩
  obtain ⟨a, xs, ev, hq, q⟩ := q1
  subst ev; obtain rfl : u = Value.ref a := r1
  obtain ⟨its, rv, pl, hz⟩ := I1.list hq
  refine call_reversed_list pl.isList (args_nil ?_)
  have k0 : ∀ b o, s1.heap.get? b = some o → (s1.heap.push (revObj a ((its.toArray.size : Int) - 1))).get? b = some o := fun b o z => Heap.get?_push_of_some _ z
  have I2 : Inv X pins σ H1 { s1 with heap := s1.heap.push (revObj a ((its.toArray.size : Int) - 1)) } := I1.kept (t' := s1.toks) k0
  have hl := pl.isList
  obtain ⟨ol, hol, _⟩ := id hl
  have hne : a ≠ s1.heap.objs.size := Nat.ne_of_lt (Heap.lt_size hol)
  have hn : its.toArray.size ≤ sizeLine := by rw [List.size_toArray, ← rv.length]; exact hz
  have hf := I1.hok.fresh (Nat.le_refl s1.heap.objs.size)
  refine call_list_rev (s := { s1 with heap := s1.heap.push (revObj a ((its.toArray.size : Int) - 1)) }) (I1.ok.hd hc) ⟨_, Heap.get?_push_size _ rfl, rfl, rfl⟩ (hl.push _) hne hn fun h' tk acc c' hk hS hi => ?_
  have hsz : s1.heap.objs.size ≤ (s1.heap.push (revObj a ((its.toArray.size : Int) - 1))).objs.size := by rw [Heap.size_push]; omega
  have kk : ∀ b o, s1.heap.get? b = some o → h'.get? b = some o := fun b o z => hk b o (Nat.ne_of_lt (Heap.lt_size z)) (k0 b o z)
  refine ⟨.ref (s1.heap.push (revObj a ((its.toArray.size : Int) - 1))).objs.size, upd H1 (s1.heap.push (revObj a ((its.toArray.size : Int) - 1))).objs.size (.lst xs.reverse),
    I1.laid kk hsz (show ObjOk X.prog X.w _ _ _ (.lst xs.reverse) from ⟨by rw [List.length_reverse]; exact hz, acc.toList, c', vals_rev rv hi, ?_⟩), rfl, q _ (I1.hok.fresh hsz)⟩
  rw [Array.toArray_toList]
  exact hS
end
end Rc
namespace Rc
theorem pick60 (c : Int) : 1 ≤ ([60, 12] : List Int).getD (Int.toNat (min 1 (c % 8))) 0 ∧ ([60, 12] : List Int).getD (Int.toNat (min 1 (c % 8))) 0 ≤ 60 := by
  have h : min 1 (c % 8) = 0 ∨ min 1 (c % 8) = 1 := by omega
  rcases h with h | h <;> rw [h] <;> decide
def upto (n : Nat) : List Int := (List.range n).map fun i : Nat => (i : Int)
@[simp] theorem upto_length (n : Nat) : (upto n).length = n := by simp [upto]
theorem upto_succ (n : Nat) : upto (n + 1) = upto n ++ [(n : Int)] := by simp [upto, List.range_succ]
theorem mem_upto {n : Nat} {x : Int} : x ∈ upto n ↔ 0 ≤ x ∧ x < n := by
  unfold upto
  rw [List.mem_map]
  constructor
  · rintro ⟨i, hi, rfl⟩
    have := List.mem_range.mp hi
    omega
  · rintro ⟨h0, h1⟩
    exact ⟨x.toNat, List.mem_range.mpr (by omega), by omega⟩
theorem upto_nodup (n : Nat) : (upto n).Nodup := by
  unfold upto
  rw [List.nodup_iff_pairwise_ne, List.pairwise_map]
  exact (List.nodup_range (n := n)).imp fun h e => h (Int.ofNat.inj e)
theorem upto_getElem? {n i : Nat} (h : i < n) : (upto n)[i]? = some (i : Int) := by
  unfold upto; rw [List.getElem?_map, List.getElem?_range h]; rfl
theorem upto_getElem {n i : Nat} (h : i < (upto n).length) : (upto n)[i] = (i : Int) := by simp [upto]
/-- an order of its cards -/
def IsOrd (xs : List Int) : Prop := xs.Perm (upto xs.length)
theorem IsOrd.nodup {xs : List Int} (h : IsOrd xs) : xs.Nodup := h.nodup_iff.mpr (upto_nodup _)
theorem IsOrd.mem {xs : List Int} (h : IsOrd xs) {x : Int} : x ∈ xs ↔ 0 ≤ x ∧ x < xs.length := by rw [List.Perm.mem_iff h, mem_upto]
theorem IsOrd.bd {xs : List Int} (h : IsOrd xs) {i : Nat} {x : Int} (e : xs[i]? = some x) : 0 ≤ x ∧ x < xs.length := h.mem.mp (List.mem_of_getElem? e)
theorem isOrd_upto (n : Nat) : IsOrd (upto n) := by unfold IsOrd; rw [upto_length]
theorem isOrd_of {xs : List Int} {n : Nat} (h : xs.Perm (upto n)) : IsOrd xs := by
  have := h.length_eq
  rw [upto_length] at this
  unfold IsOrd; rwa [this]
theorem perm_of_nodup : ∀ {xs ys : List Int}, xs.Nodup → (∀ x ∈ xs, x ∈ ys) → ys.length ≤ xs.length → xs.Perm ys
  | [], ys, _, _, hl => by
    have : ys = [] := List.eq_nil_of_length_eq_zero (by simpa using hl)
    subst this; exact List.Perm.refl _
  | x :: xs, ys, hn, hs, hl => by
    have hx : x ∈ ys := hs x List.mem_cons_self
    have h1 := List.perm_cons_erase hx
    have hlen : (ys.erase x).length = ys.length - 1 := List.length_erase_of_mem hx
    have hn' := List.nodup_cons.mp hn
    have ih := perm_of_nodup (ys := ys.erase x) hn'.2 (fun y hy => by
      have hne : y ≠ x := fun e => hn'.1 (e ▸ hy)
      exact (List.mem_erase_of_ne hne).mpr (hs y (List.mem_cons_of_mem _ hy))) (by
        rw [List.length_cons] at hl; omega)
    exact (ih.cons x).trans h1.symm
theorem eraseIdx_perm {α : Type} : ∀ {ls : List α} {k : Nat} (h : k < ls.length), (ls[k] :: ls.eraseIdx k).Perm ls
  | [], _, h => by simp at h
  | _ :: _, 0, _ => List.Perm.refl _
  | x :: ls, k + 1, h => by
    have hk : k < ls.length := by simpa using h
    have ih := eraseIdx_perm hk
    show (ls[k] :: x :: ls.eraseIdx k).Perm (x :: ls)
    exact (List.Perm.swap _ _ _).trans (ih.cons x)
/-- as many different cards below their number -/
theorem isOrd_of_nodup {xs : List Int} (hn : xs.Nodup) (hb : ∀ x ∈ xs, 0 ≤ x ∧ x < xs.length) : IsOrd xs := by
  exact perm_of_nodup hn (fun x hx => mem_upto.mpr (hb x hx)) (by rw [upto_length]; exact Nat.le_refl _)
/-- a card taken out of what is left -/
theorem take_perm {os ls : List Int} {n k : Nat} (h : (os ++ ls).Perm (upto n)) (hk : k < ls.length) : ((os ++ [ls.getD k 0]) ++ ls.eraseIdx k).Perm (upto n) := by
  have e : ls.getD k 0 = ls[k] := by simp [List.getD, hk]
  have h1 : (ls[k] :: ls.eraseIdx k).Perm ls := eraseIdx_perm hk
  refine List.Perm.trans ?_ h
  rw [e, List.append_assoc]
  exact List.Perm.append_left _ h1
def placesI (o : List Int) : List Int := (List.range o.length).map fun c : Nat => (o.idxOf (c : Int) : Int)
def laidI (one other : List Int) : List Int := other.map fun p => one.getD p.toNat 0
@[simp] theorem placesI_length (o : List Int) : (placesI o).length = o.length := by simp [placesI]
@[simp] theorem laidI_length (one other : List Int) : (laidI one other).length = other.length := by simp [laidI]
theorem idxOf_lt {o : List Int} (h : IsOrd o) {c : Nat} (hc : c < o.length) : o.idxOf (c : Int) < o.length := List.idxOf_lt_length_of_mem (h.mem.mpr ⟨by omega, by omega⟩)
theorem idxOf_at {o : List Int} (h : o.Nodup) {i : Nat} {x : Int} (e : o[i]? = some x) : o.idxOf x = i := by
  obtain ⟨hi, rfl⟩ := List.getElem?_eq_some_iff.mp e
  exact h.idxOf_getElem i hi
theorem at_idxOf {o : List Int} {x : Int} (h : x ∈ o) : o.getD (o.idxOf x) 0 = x := by
  have hl := List.idxOf_lt_length_of_mem h
  rw [List.getD_eq_getElem?_getD, List.getElem?_eq_getElem hl, List.getElem_idxOf]; rfl
theorem placesI_getD {o : List Int} {c : Nat} (hc : c < o.length) : (placesI o).getD c 0 = (o.idxOf (c : Int) : Int) := by
  rw [List.getD_eq_getElem?_getD]; simp [placesI, hc]
theorem isOrd_placesI {o : List Int} (h : IsOrd o) : IsOrd (placesI o) := by
  refine isOrd_of_nodup ?_ ?_
  · unfold placesI
    rw [List.nodup_iff_pairwise_ne, List.pairwise_map]
    refine List.Pairwise.imp_of_mem ?_ (List.nodup_range (n := o.length))
    intro a b ha hb hne e
    have ha' := List.mem_range.mp ha
    have hb' := List.mem_range.mp hb
    have e1 : o.idxOf (a : Int) = o.idxOf (b : Int) := by omega
    have h1 := at_idxOf (h.mem.mpr ⟨show (0 : Int) ≤ (a : Int) by omega, show (a : Int) < o.length by omega⟩)
    have h2 := at_idxOf (h.mem.mpr ⟨show (0 : Int) ≤ (b : Int) by omega, show (b : Int) < o.length by omega⟩)
    rw [e1, h2] at h1
    omega
  · intro x hx
    obtain ⟨c, hc, rfl⟩ := List.mem_map.mp hx
    have := idxOf_lt h (List.mem_range.mp hc)
    rw [placesI_length]
    omega
theorem placesI_idxOf {o : List Int} (h : IsOrd o) {i : Nat} {x : Int} (e : o[i]? = some x) : (placesI o).idxOf (i : Int) = x.toNat := by
  have hb := h.bd e
  have hx : x.toNat < o.length := by omega
  refine idxOf_at (isOrd_placesI h).nodup ?_
  unfold placesI
  rw [List.getElem?_map, List.getElem?_range hx]
  have : ((x.toNat : Nat) : Int) = x := by omega
  simp only [Option.map_some, this, idxOf_at h.nodup e]
theorem placesI_placesI {o : List Int} (h : IsOrd o) : placesI (placesI o) = o := by
  apply List.ext_getElem?
  intro i
  by_cases hi : i < o.length
  · have e : o[i]? = some o[i] := List.getElem?_eq_getElem hi
    have := placesI_idxOf h e
    have hb := h.bd e
    rw [e]
    show ((List.range (placesI o).length).map fun c : Nat => ((placesI o).idxOf (c : Int) : Int))[i]? = _
    rw [List.getElem?_map, List.getElem?_range (by simpa using hi)]
    simp only [Option.map_some, this]
    congr 1; omega
  · rw [List.getElem?_eq_none (by simp; omega), List.getElem?_eq_none (by omega)]
theorem laidI_upto {o : List Int} (h : IsOrd o) : laidI (upto o.length) o = o := by
  unfold laidI
  conv => rhs; rw [← List.map_id o]
  apply List.map_congr_left
  intro x hx
  have := h.mem.mp hx
  rw [List.getD_eq_getElem?_getD, upto_getElem? (by omega)]
  simp; omega
theorem laidI_places {o : List Int} (h : IsOrd o) : laidI o (placesI o) = upto o.length := by
  unfold laidI placesI upto
  rw [List.map_map]
  apply List.map_congr_left
  intro c hc
  have hc' := List.mem_range.mp hc
  simp only [Function.comp]
  rw [Int.toNat_natCast]
  exact at_idxOf (h.mem.mpr ⟨by omega, by omega⟩)
theorem laidI_assoc {a b c : List Int} (hb : ∀ p ∈ c, 0 ≤ p ∧ p < b.length) : laidI (laidI a b) c = laidI a (laidI b c) := by
  unfold laidI
  rw [List.map_map]
  apply List.map_congr_left
  intro p hp
  have := hb p hp
  simp only [Function.comp]
  rw [List.getD_eq_getElem?_getD, List.getElem?_map, List.getD_eq_getElem?_getD (l := b), List.getElem?_eq_getElem (show p.toNat < b.length by omega)]
  rfl
theorem isOrd_laidI {a b : List Int} (ha : IsOrd a) (hb : IsOrd b) (hl : a.length = b.length) : IsOrd (laidI a b) := by
  have h1 : (laidI a b).Perm (laidI a (upto b.length)) := List.Perm.map _ hb
  have h2 : laidI a (upto b.length) = a := by
    unfold laidI upto
    rw [List.map_map, ← hl]
    apply List.ext_getElem
    · simp
    · intro i h1 h2
      simp only [List.getElem_map, List.getElem_range, Function.comp, Int.toNat_natCast]
      rw [List.getD_eq_getElem?_getD, List.getElem?_eq_getElem h2]; rfl
  rw [h2] at h1
  exact isOrd_of (h1.trans ha)
/-- the places as they are filled -/
def placesTo (o : List Int) (i : Nat) : List Int := (List.range o.length).map fun c : Nat => if o.idxOf (c : Int) < i then (o.idxOf (c : Int) : Int) else 0
theorem placesTo_zero (o : List Int) : placesTo o 0 = List.replicate o.length 0 := by
  unfold placesTo
  rw [List.eq_replicate_iff]
  simp
theorem placesTo_all {o : List Int} (h : IsOrd o) : placesTo o o.length = placesI o := by
  unfold placesTo placesI
  apply List.map_congr_left
  intro c hc
  rw [if_pos (idxOf_lt h (List.mem_range.mp hc))]
theorem placesTo_next {o : List Int} (h : IsOrd o) {i : Nat} {x : Int} (e : o[i]? = some x) : (placesTo o i).set x.toNat (i : Int) = placesTo o (i + 1) := by
  have hb := h.bd e
  have hi := idxOf_at h.nodup e
  apply List.ext_getElem
  · simp [placesTo]
  · intro c h1 h2
    have hc : c < o.length := by simpa [placesTo] using h2
    simp only [placesTo, List.getElem_set, List.getElem_map, List.getElem_range]
    by_cases ex : x.toNat = c
    · subst ex
      have : ((x.toNat : Nat) : Int) = x := by omega
      rw [if_pos rfl, this, hi, if_pos (by omega)]
    · rw [if_neg ex]
      have hne : o.idxOf (c : Int) ≠ i := by
        intro z
        have h3 := at_idxOf (h.mem.mpr ⟨show (0 : Int) ≤ (c : Int) by omega, show (c : Int) < o.length by omega⟩)
        rw [z, List.getD_eq_getElem?_getD, e] at h3
        simp at h3
        omega
      by_cases h4 : o.idxOf (c : Int) < i
      · rw [if_pos h4, if_pos (by omega)]
      · rw [if_neg h4, if_neg (by omega)]
end Rc
namespace Rc
def isFall (p : List Int) (i : Nat) : Bool := decide (p.getD (i + 1) 0 < p.getD i 0)
/-- the falls among the first c cards -/
def fc (p : List Int) (c : Nat) : Nat := ((List.range (c - 1)).filter (isFall p)).length
def fallsI (o : List Int) : Nat := fc o o.length
theorem fallsI_eq (o : List Int) : ((List.range (Int.toNat ((o.length : Int) - 1))).filter (fun i : Nat => decide (o.getD (Int.toNat ((i : Int) + 1)) 0 < o.getD (Int.toNat (i : Int)) 0))).length = fallsI o := by
  unfold fallsI fc
  have : Int.toNat ((o.length : Int) - 1) = o.length - 1 := by omega
  rw [this]; rfl
theorem fc_succ (p : List Int) (c : Nat) (hc : 1 ≤ c) : fc p (c + 1) = fc p c + if isFall p (c - 1) = true then 1 else 0 := by
  unfold fc
  obtain ⟨d, rfl⟩ : ∃ d, c = d + 1 := ⟨c - 1, by omega⟩
  show ((List.range (d + 1)).filter _).length = ((List.range d).filter _).length + _
  rw [List.range_succ, List.filter_append, List.length_append]
  congr 1
  show _ = if isFall p d = true then 1 else 0
  by_cases h : isFall p d = true
  · rw [if_pos h, List.filter_cons_of_pos h]; rfl
  · rw [if_neg h, List.filter_cons_of_neg h]; rfl
theorem fc_yes {o : List Int} {i : Nat} (h : o.getD (Int.toNat ((i : Int) + 1)) 0 < o.getD (Int.toNat (i : Int)) 0) : (fc o (i + 1) : Int) + 1 = (fc o (i + 1 + 1) : Nat) := by
  rw [fc_succ _ (i + 1) (by omega), if_pos (show isFall o (i + 1 - 1) = true from decide_eq_true h)]; omega
theorem fc_no {o : List Int} {i : Nat} (h : ¬ o.getD (Int.toNat ((i : Int) + 1)) 0 < o.getD (Int.toNat (i : Int)) 0) : (fc o (i + 1) : Int) = (fc o (i + 1 + 1) : Nat) := by
  rw [fc_succ _ (i + 1) (by omega), if_neg (by rw [show isFall o (i + 1 - 1) = false from decide_eq_false h]; exact Bool.false_ne_true)]; omega
theorem fc_run (p : List Int) {c d : Nat} (hcd : c ≤ d) (h : ∀ e, c ≤ e → e < d → 1 ≤ e → isFall p (e - 1) = false) (h1 : 1 ≤ d) : fc p d = if c = 0 then 0 else fc p c := by
  induction d with
  | zero => omega
  | succ d ih =>
    by_cases hd : d = 0
    · subst hd
      by_cases hc : c = 0
      · subst hc; rfl
      · have : c = 1 := by omega
        subst this; rfl
    · by_cases hc : c = d + 1
      · subst hc; rw [if_neg (by omega)]
      · rw [fc_succ p d (by omega), h d (by omega) (by omega) (by omega), ih (by omega) (fun e h1 h2 h3 => h e h1 (by omega) h3) (by omega)]; simp
/-- rounds behind so many cards -/
def roundsAt (p : List Int) (c : Nat) : Int := if c = 0 then 0 else 1 + (fc p c : Int)
/-- one pass from card c on: behind i places cur is looked for -/
structure Pass (o : List Int) (c i cur : Int) : Prop where
  le : 0 ≤ c ∧ c ≤ cur ∧ cur ≤ o.length
  seen : ∀ d : Int, c ≤ d → d < cur → (o.idxOf d : Int) < i
  up : ∀ d : Int, c < d → d < cur → o.idxOf (d - 1) < o.idxOf d
  nx : cur < o.length → (i ≤ o.idxOf cur ∨ (c < cur ∧ o.idxOf cur < o.idxOf (cur - 1)))
theorem Pass.start {o : List Int} {c : Int} (h0 : 0 ≤ c) (h1 : c < o.length) : Pass o c 0 c :=
  ⟨⟨h0, Int.le_refl _, by omega⟩, fun d _ _ => by omega, fun d _ _ => by omega, fun _ => .inl (by omega)⟩
theorem Pass.hit {o : List Int} {c cur : Int} {i : Nat} (ho : IsOrd o) (p : Pass o c i cur) (e : o[i]? = some cur) : Pass o c ((i : Int) + 1) (cur + 1) := by
  have hi := idxOf_at ho.nodup e
  have hb := ho.bd e
  have hl := p.le
  refine ⟨by omega, fun d h1 h2 => ?_, fun d h1 h2 => ?_, fun h => ?_⟩
  · by_cases hd : d = cur
    · subst hd; omega
    · have := p.seen d h1 (by omega); omega
  · by_cases hd : d = cur
    · subst hd
      have := p.seen (d - 1) (by omega) (by omega)
      omega
    · exact p.up d h1 (by omega)
  · by_cases hq : (i : Int) + 1 ≤ o.idxOf (cur + 1)
    · exact .inl hq
    · refine .inr ⟨by omega, ?_⟩
      rw [show cur + 1 - 1 = cur by omega, hi]
      have hne : o.idxOf (cur + 1) ≠ i := fun z => by
        have h3 := at_idxOf (ho.mem.mpr ⟨show (0 : Int) ≤ cur + 1 by omega, h⟩)
        rw [z, List.getD_eq_getElem?_getD, e] at h3
        simp at h3
        omega
      omega
theorem Pass.miss {o : List Int} {c cur x : Int} {i : Nat} (ho : IsOrd o) (p : Pass o c i cur) (e : o[i]? = some x) (hne : ¬ x = cur) : Pass o c ((i : Int) + 1) cur := by
  have hl := p.le
  refine ⟨hl, fun d h1 h2 => by have := p.seen d h1 h2; omega, p.up, fun h => ?_⟩
  rcases p.nx h with q | q
  · left
    have : o.idxOf cur ≠ i := fun z => by
      have h3 := at_idxOf (ho.mem.mpr ⟨show (0 : Int) ≤ cur by omega, h⟩)
      rw [z, List.getD_eq_getElem?_getD, e] at h3
      simp at h3
      omega
    omega
  · exact .inr q
theorem Pass.more {o : List Int} {c cur : Int} (ho : IsOrd o) (hc : c < o.length) (p : Pass o c o.length cur) : c < cur := by
  have hl := p.le
  by_cases h : c = cur
  · subst h
    rcases p.nx hc with q | q
    · have := List.idxOf_lt_length_of_mem (ho.mem.mpr ⟨hl.1, hc⟩); omega
    · omega
  · omega
theorem placesI_at {o : List Int} {d : Nat} (h : d < o.length) : (placesI o).getD d 0 = (o.idxOf (d : Int) : Int) := placesI_getD h
theorem Pass.rounds {o : List Int} {c cur r : Int} (ho : IsOrd o) (hc : c < o.length) (p : Pass o c o.length cur) (hr : r = roundsAt (placesI o) c.toNat)
    (hs : c = 0 ∨ c = o.length ∨ isFall (placesI o) (c.toNat - 1) = true) : r + 1 = roundsAt (placesI o) cur.toNat := by
  have hl := p.le
  have hm := p.more ho hc
  obtain ⟨a, rfl⟩ := Int.eq_ofNat_of_zero_le hl.1
  obtain ⟨b, rfl⟩ := Int.eq_ofNat_of_zero_le (show 0 ≤ cur by omega)
  rw [Int.toNat_natCast] at *
  have key := fc_run (placesI o) (c := a + 1) (d := b) (by omega) (fun e h1 h2 h3 => by
    have hu := p.up (e : Int) (by omega) (by omega)
    unfold isFall
    rw [placesI_at (by omega), placesI_at (by omega)]
    have e1 : ((e - 1 + 1 : Nat) : Int) = e := by omega
    have e2 : ((e - 1 : Nat) : Int) = (e : Int) - 1 := by omega
    rw [e1, e2]
    exact decide_eq_false (by omega)) (by omega)
  rw [if_neg (by omega)] at key
  unfold roundsAt at *
  rw [if_neg (show ¬ b = 0 by omega), key, hr]
  by_cases h0 : a = 0
  · subst h0; rfl
  · rw [if_neg h0, fc_succ _ _ (by omega)]
    rcases hs with q | q | q
    · omega
    · omega
    · rw [if_pos q]; omega
theorem Pass.fall {o : List Int} {c cur : Int} (ho : IsOrd o) (hc : c < o.length) (p : Pass o c o.length cur) : cur = 0 ∨ cur = o.length ∨ isFall (placesI o) (cur.toNat - 1) = true := by
  have hl := p.le
  have hm := p.more ho hc
  by_cases h : cur < o.length
  · right; right
    rcases p.nx h with q | q
    · have := List.idxOf_lt_length_of_mem (ho.mem.mpr ⟨show 0 ≤ cur by omega, h⟩); omega
    · obtain ⟨b, rfl⟩ := Int.eq_ofNat_of_zero_le (show 0 ≤ cur by omega)
      rw [Int.toNat_natCast]
      unfold isFall
      rw [placesI_at (by omega), placesI_at (by omega)]
      have e1 : ((b - 1 + 1 : Nat) : Int) = b := by omega
      have e2 : ((b - 1 : Nat) : Int) = (b : Int) - 1 := by omega
      rw [e1, e2]
      exact decide_eq_true (by omega)
  · omega
/-- runs -/
def runsI (o : List Int) : Nat := 1 + fallsI (placesI o)
theorem taken_runs {o : List Int} {c r : Int} (h1 : 1 ≤ o.length) (hc : c = o.length) (hr : r = roundsAt (placesI o) c.toNat) : r = runsI o := by
  subst hc
  rw [hr, Int.toNat_natCast]
  unfold roundsAt runsI fallsI
  rw [if_neg (by omega), placesI_length]; omega
theorem range_rev (m : Nat) : (List.range m).map (fun i => m - 1 - i) = (List.range m).reverse := by
  apply List.ext_getElem
  · simp
  · intro i h1 h2
    simp at h1 ⊢
theorem count_rev (m : Nat) (p : Nat → Bool) : ((List.range m).filter fun i => p (m - 1 - i)).length = ((List.range m).filter p).length := by
  have h1 : ((List.range m).filter fun i => p (m - 1 - i)).length = (((List.range m).map fun i => m - 1 - i).filter p).length := by
    rw [List.filter_map, List.length_map]; rfl
  rw [h1, range_rev, List.filter_reverse, List.length_reverse]
theorem count_not (l : List Nat) (p : Nat → Bool) : (l.filter p).length + (l.filter fun i => !p i).length = l.length := by
  induction l with
  | nil => rfl
  | cons x l ih =>
    cases h : p x <;> simp [List.filter_cons, h] <;> omega
theorem falls_reverse {o : List Int} (hn : o.Nodup) (h1 : 1 ≤ o.length) : (fallsI o.reverse : Int) = (o.length : Int) - 1 - fallsI o := by
  unfold fallsI fc
  rw [List.length_reverse]
  have hc := count_not (List.range (o.length - 1)) (isFall o)
  have hr := count_rev (o.length - 1) (fun i => !isFall o i)
  have he : ((List.range (o.length - 1)).filter (isFall o.reverse)).length = ((List.range (o.length - 1)).filter fun i => !isFall o (o.length - 1 - 1 - i)).length := by
    congr 1
    apply List.filter_congr
    intro i hi
    have hi' := List.mem_range.mp hi
    have e1 : o.reverse.getD (i + 1) 0 = o.getD (o.length - 1 - 1 - i) 0 := by
      rw [List.getD_eq_getElem?_getD, List.getElem?_reverse (by omega), List.getD_eq_getElem?_getD]
      congr 2; omega
    have e2 : o.reverse.getD i 0 = o.getD (o.length - 1 - 1 - i + 1) 0 := by
      rw [List.getD_eq_getElem?_getD, List.getElem?_reverse (by omega), List.getD_eq_getElem?_getD]
      congr 2; omega
    unfold isFall
    rw [e1, e2]
    generalize hj : o.length - 1 - 1 - i = j
    have hj1 : j + 1 < o.length := by omega
    have hne : o.getD j 0 ≠ o.getD (j + 1) 0 := by
      intro z
      have q1 : o[j]? = some (o.getD j 0) := by rw [List.getD_eq_getElem?_getD, List.getElem?_eq_getElem (by omega)]; rfl
      have q2 : o[j + 1]? = some (o.getD (j + 1) 0) := by rw [List.getD_eq_getElem?_getD, List.getElem?_eq_getElem hj1]; rfl
      have := idxOf_at hn q1
      have := idxOf_at hn q2
      rw [z] at *
      omega
    by_cases hlt : o.getD j 0 < o.getD (j + 1) 0
    · rw [decide_eq_true hlt, decide_eq_false (by omega)]; rfl
    · rw [decide_eq_false hlt, decide_eq_true (by omega)]; rfl
  rw [he, hr]
  rw [List.length_range] at hc
  omega
theorem runs_places {o : List Int} (h : IsOrd o) : runsI (placesI o) = fallsI o + 1 := by
  unfold runsI; rw [placesI_placesI h]; omega
end Rc
namespace Rc
open PySem PySem.Spec PyProof.Rows L2 Evl

local macro_rules | `(tactic| walk_at "side") => `(tactic| first | omega | assumption | (simp only [List.length_map, List.length_append, List.length_cons, List.length_nil]; omega) | (simp only [List.length_map, List.length_append, List.length_cons, List.length_nil] at *; omega) | (simp at *; omega))
local macro_rules | `(tactic| walk_at "size") => `(tactic| first | (refine Evl.sz_lt ?_; simp only [List.length_map, List.length_append, List.length_cons, List.length_nil, List.length_set, List.length_replicate, List.length_reverse]; omega) | (refine Evl.sz_of ?_; simp only [List.length_map, List.length_append, List.length_cons, List.length_nil, List.length_set, List.length_replicate, List.length_reverse]; omega) | (refine Evl.sz_lt ?_; simp; omega) | (refine Evl.sz_of ?_; simp; omega))
local macro_rules | `(tactic| walk_at "csize") => `(tactic| first | (refine Evl.sz_lt ?_; simp only [List.length_map, List.length_take, List.length_range]; omega) | (refine Evl.sz_lt ?_; simp only [List.length_map]; refine Nat.lt_of_le_of_lt (List.length_filter_le _ _) ?_; simp only [List.length_take, List.length_range]; omega))
local macro_rules | `(tactic| walk_at "inv") => `(tactic| first | omega | assumption | rfl | (simp only [List.length_append, List.length_cons, List.length_nil, List.length_set]; omega) | (simp; omega) | simp_all)
local macro_rules | `(tactic| walk_at "post") => `(tactic| first | rfl | assumption | omega | (simp_all; done) | (simp_all; omega))
local macro_rules | `(tactic| walk_at "mul") => `(tactic| first | exact .inl (by omega) | exact .inr (by omega))
local macro_rules | `(tactic| walk_at "div") => `(tactic| exact ⟨by omega, by omega⟩)
local macro_rules | `(tactic| walk_at "widediv") => `(tactic| first | exact ⟨by omega, wl_of (by omega) (by omega)⟩)
local macro_rules | `(tactic| walk_at "rgok") => `(tactic| exact ⟨by omega, by omega, by omega, by omega, by omega⟩)
local macro_rules | `(tactic| walk_at "rgc") => `(tactic| omega)
local macro_rules | `(tactic| walk_at "comp") => `(tactic| first | (simp_all; done) | (simp_all; omega) | grind)
def topS (i : Nat) : Stmt := PySem.Challenge.pw_riftcarry_k03_falls_and_runs.main.body.getD i (.Pass ⟨0, 0, 0, 0⟩)
abbrev s_law_cell_at : Stmt := topS 5
abbrev s_falls : Stmt := topS 2
abbrev s_law_whole : Stmt := topS 8
abbrev s_places : Stmt := topS 1
abbrev s_runs : Stmt := topS 3
abbrev s_law_fallen : Stmt := topS 9
abbrev s_law_taken : Stmt := topS 10
abbrev s_law_held : Stmt := topS 11
abbrev s_law_mixed : Stmt := topS 6
abbrev s_law_order : Stmt := topS 7
abbrev s_law : Stmt := topS 12
structure Txt (K : PySem.W.Frag) (mg : Str → Option Value) where
  f_law_cell_at : Addr
  fd_law_cell_at : FuncData
  F_law_cell_at : Fun K "_law_cell_at" "_law_cell_at" s_law_cell_at f_law_cell_at fd_law_cell_at
  g_law_cell_at : mg "_law_cell_at" = some (.ref f_law_cell_at)
  b_law_cell_at : Binds K fd_law_cell_at ["_law_script", "_law_k"] []
  f_falls : Addr
  fd_falls : FuncData
  F_falls : Fun K "falls" "falls" s_falls f_falls fd_falls
  g_falls : mg "falls" = some (.ref f_falls)
  b_falls : Binds K fd_falls ["order"] []
  f_law_whole : Addr
  fd_law_whole : FuncData
  F_law_whole : Fun K "_law_whole" "_law_whole" s_law_whole f_law_whole fd_law_whole
  g_law_whole : mg "_law_whole" = some (.ref f_law_whole)
  b_law_whole : Binds K fd_law_whole ["_law_said", "_law_due"] []
  f_places : Addr
  fd_places : FuncData
  F_places : Fun K "places" "places" s_places f_places fd_places
  g_places : mg "places" = some (.ref f_places)
  b_places : Binds K fd_places ["order"] []
  f_runs : Addr
  fd_runs : FuncData
  F_runs : Fun K "runs" "runs" s_runs f_runs fd_runs
  g_runs : mg "runs" = some (.ref f_runs)
  b_runs : Binds K fd_runs ["order"] []
  f_law_fallen : Addr
  fd_law_fallen : FuncData
  F_law_fallen : Fun K "_law_fallen" "_law_fallen" s_law_fallen f_law_fallen fd_law_fallen
  g_law_fallen : mg "_law_fallen" = some (.ref f_law_fallen)
  b_law_fallen : Binds K fd_law_fallen ["_law_order_here"] []
  f_law_taken : Addr
  fd_law_taken : FuncData
  F_law_taken : Fun K "_law_taken" "_law_taken" s_law_taken f_law_taken fd_law_taken
  g_law_taken : mg "_law_taken" = some (.ref f_law_taken)
  b_law_taken : Binds K fd_law_taken ["_law_order_here"] []
  f_law_held : Addr
  fd_law_held : FuncData
  F_law_held : Fun K "_law_held" "_law_held" s_law_held f_law_held fd_law_held
  g_law_held : mg "_law_held" = some (.ref f_law_held)
  b_law_held : Binds K fd_law_held ["_law_order_here"] []
  f_law_mixed : Addr
  fd_law_mixed : FuncData
  F_law_mixed : Fun K "_law_mixed" "_law_mixed" s_law_mixed f_law_mixed fd_law_mixed
  g_law_mixed : mg "_law_mixed" = some (.ref f_law_mixed)
  b_law_mixed : Binds K fd_law_mixed ["_law_cell", "_law_k"] []
  f_law_order : Addr
  fd_law_order : FuncData
  F_law_order : Fun K "_law_order" "_law_order" s_law_order f_law_order fd_law_order
  g_law_order : mg "_law_order" = some (.ref f_law_order)
  b_law_order : Binds K fd_law_order ["_law_cell", "_law_most"] []
  f_law : Addr
  fd_law : FuncData
  F_law : Fun K "law" "law" s_law f_law fd_law
  g_law : mg "law" = some (.ref f_law)
  b_law : Binds K fd_law ["_law_script"] []
  m_abs : mg "abs" = none
  m_bool : mg "bool" = none
  m_enumerate : mg "enumerate" = none
  m_int : mg "int" = none
  m_isinstance : mg "isinstance" = none
  m_len : mg "len" = none
  m_list : mg "list" = none
  m_min : mg "min" = none
  m_range : mg "range" = none
  m_reversed : mg "reversed" = none
section
variable {P : Program} {w : World} {K : PySem.W.Frag} {mg : Str → Option Value} {base : Heap}
def sp_law_cell_at (K : PySem.W.Frag) : Sp := fun vs H Q _ => ∃ (a_script : Addr) (script : List Int) (k : Int), vs = [V.ref a_script, V.int k] ∧ SqL K H a_script (List.map V.int script) ∧ (0 ≤ k) ∧ (∀ (H1 : Hp) (res : Int), (True) → Same H H1 → Q (V.int res) H1)
theorem sc_law_cell_at : FnScope ["_law_script", "_law_k"] ["_law_script", "_law_k"] (defScope s_law_cell_at) := ⟨rfl, rfl, rfl, by decide +kernel, rfl, by decide +kernel, by decide +kernel⟩
theorem ok_law_cell_at (T : Txt K mg) : FnOk P w K mg base CX0 1 T.f_law_cell_at T.fd_law_cell_at ["_law_script", "_law_k"] (sp_law_cell_at K) := by
  refine T.F_law_cell_at.ok sc_law_cell_at (fun vs H Q E h => ?_) (fun cdv A outer s H vs Q E hr h => ?_)
  · obtain ⟨a_script, script, k, rfl, _⟩ := h; rfl
  · obtain ⟨a_script, script, k, rfl, h_script, pre0, q⟩ := h
    have fr := Fr.nil H
    refine ⟨_, (pss_cons (ps_if (pt_cmpR op_ltS (pv 1) (pe_callB (show CallR _ _ (rLenL K) from call_lenL) (by rfl) T.m_len (by decide +kernel) (pa_cons (pv 0) pa_nil)) (nomark _)) (pss_one (ps_ret (pe_ix (show IxR _ (rIxL K) from ix_list) (pv 0) (pv 1) (fun _ _ => rfl)))) pss_nil)
          (pss_one (ps_ret pe_int))), ?_⟩
    refine ⟨_, rfl, _, rfl, _, _, _, rfl, (fr.same.seq h_script), (List.length_map _), _, _, rfl, rfl, ?_, ?_⟩
    · intro h1
      refine ⟨_, rfl, ?_⟩
      refine iteT ?_
      refine ⟨_, rfl, _, rfl, _, _, _, _, rfl, rfl, (fr.same.seq h_script), (atD 0 ?_ ?_), ?_⟩
      · walk_at "side"
      · walk_at "side"
      exact q _ ((List.getD script (Int.toNat k) 0)) (by trivial) fr.same
    · intro h1
      refine ⟨_, rfl, ?_⟩
      refine iteF ?_
      exact q _ 0 (by trivial) fr.same
def sp_falls (K : PySem.W.Frag) : Sp := fun vs H Q _ => ∃ (a_order : Addr) (order : List Int), vs = [V.ref a_order] ∧ H a_order = some (.lst (List.map V.int order)) ∧ (1 ≤ order.length ∧ order.length ≤ 1000) ∧ (∀ (H1 : Hp) (res : Int), (res = (fallsI order : Int)) → Same H H1 → Q (V.int res) H1)
theorem sc_falls : FnScope ["order", "place"] ["order"] (defScope s_falls) := ⟨rfl, rfl, rfl, by decide +kernel, rfl, by decide +kernel, by decide +kernel⟩
theorem ok_falls (T : Txt K mg) : FnOk P w K mg base CX0 1 T.f_falls T.fd_falls ["order"] (sp_falls K) := by
  refine T.F_falls.ok sc_falls (fun vs H Q E h => ?_) (fun cdv A outer s H vs Q E hr h => ?_)
  · obtain ⟨a_order, order, rfl, _⟩ := h; rfl
  · obtain ⟨a_order, order, rfl, h_order, pre0, q⟩ := h
    have fr := Fr.nil H
    refine ⟨_, (pss_one (ps_ret (pe_callB (show CallR _ _ (rLenL K) from call_lenL) (by rfl) T.m_len (by decide +kernel) (pa_cons (pe_lc (own := [("place", 1)]) (g := gName 1) rfl sc_falls.nd (pi_range1 (by rfl) T.m_range (pa_cons (pe_op op_sub (pe_callB (show CallR _ _ (rLenL K) from call_lenL) (by rfl) T.m_len (by decide +kernel) (pa_cons (pv 0) pa_nil)) pe_int) pa_nil)) (blkOk_by (N := ["order", "place"]) (sc := defScope s_falls) (by decide +kernel)) (fun _ _ _ _ _ => pg_name (i := 1) sc_falls.nd rfl (Or.inl rfl)) (fun _ _ _ _ _ => pts_one (pt_cmpR op_ltS (pe_ix (show IxR _ (rIxL K) from ix_list) (pv 0) (pe_op op_add (pv 1) pe_int) (fun _ _ => rfl)) (pe_ix (show IxR _ (rIxL K) from ix_list) (pv 0) (pv 1) (fun _ _ => rfl)) (nomark _))) (fun _ _ _ _ _ => (pv 1))) pa_nil)))), ?_⟩
    refine ⟨_, rfl, _, _, _, rfl, (SqL.of (fr.same _ _ h_order)), (List.length_map _), _, _, rfl, rfl, _, rfl, ?_, ?_, ?_⟩
    · walk_at "side"
    · walk_at "side"
    intro D_1 nD_2
    refine lc_it (walkR (n := (Int.toNat (((order.length : Int) - 1))))) (fun (i : Nat) H1 => Fr H H1 [(D_1, (.lst (List.map V.int ((List.map (fun i : Nat => (i : Int)) (List.filter (fun i : Nat => decide ((List.getD order (Int.toNat (((i : Int) + 1))) 0) < (List.getD order (Int.toNat ((i : Int))) 0))) (List.range i))))) : HO))]) (fr.new nD_2) (fun i H1 hi fr => trivial) ?_ ?_
    · rintro i_4 x_8 H_6 H_7 hi_5 fr ⟨rfl, rfl⟩
      refine ⟨rfl, _, rfl, _, rfl, _, _, rfl, rfl, _, _, _, _, rfl, rfl, (SqL.of (fr.same _ _ h_order)), (atD 0 ?_ ?_), _, rfl, _, rfl, _, _, _, _, rfl, rfl, (SqL.of (fr.same _ _ h_order)), (atD 0 ?_ ?_), _, _, rfl, rfl, ?_, ?_⟩
      · omega
      · omega
      · omega
      · omega
      · intro h9
        refine ⟨_, rfl, ?_⟩
        refine iteT ?_
        refine ⟨_, rfl, _, fr.at0, ?_, ?_⟩
        · walk_at "csize"
        exact (Fr.wr fr).cast (lc_r_t (by walk_at "comp"))
      · intro h9
        refine ⟨_, rfl, ?_⟩
        refine iteF ?_
        exact fr.cast (lc_r_f (by walk_at "comp"))
    intro H_10 fr
    have fr : Fr H _ [(D_1, (.lst (List.map V.int ((List.map (fun i : Nat => (i : Int)) (List.filter (fun i : Nat => decide ((List.getD order (Int.toNat (((i : Int) + 1))) 0) < (List.getD order (Int.toNat ((i : Int))) 0))) (List.range (Int.toNat (((order.length : Int) - 1)))))))) : HO))] := fr
    refine ⟨_, _, _, rfl, (SqL.of fr.at0), (List.length_map _), ?_⟩
    exact q _ ((((List.map (fun i : Nat => (i : Int)) (List.filter (fun i : Nat => decide ((List.getD order (Int.toNat (((i : Int) + 1))) 0) < (List.getD order (Int.toNat ((i : Int))) 0))) (List.range (Int.toNat (((order.length : Int) - 1))))))).length : Int)) (by rw [List.length_map, ← fallsI_eq]) fr.same
def sp_law_whole (K : PySem.W.Frag) : Sp := fun vs H Q _ => ∃ (said : Int) (due : Int), vs = [V.int said, V.int due] ∧ (said = due) ∧ (∀ (H1 : Hp) (res : Bool), (res = true) → Same H H1 → Q (V.bl res) H1)
theorem sc_law_whole : FnScope ["_law_said", "_law_due"] ["_law_said", "_law_due"] (defScope s_law_whole) := ⟨rfl, rfl, rfl, by decide +kernel, rfl, by decide +kernel, by decide +kernel⟩
theorem ok_law_whole (T : Txt K mg) : FnOk P w K mg base CX0 1 T.f_law_whole T.fd_law_whole ["_law_said", "_law_due"] (sp_law_whole K) := by
  refine T.F_law_whole.ok sc_law_whole (fun vs H Q E h => ?_) (fun cdv A outer s H vs Q E hr h => ?_)
  · obtain ⟨said, due, rfl, _⟩ := h; rfl
  · obtain ⟨said, due, rfl, pre0, q⟩ := h
    have fr := Fr.nil H
    refine ⟨_, (pss_one (ps_ret (pe_and (pe_splS (pe_callB (show CallR _ _ (rIsi K) from call_isi) (by rfl) T.m_isinstance (by decide +kernel) (pa_cons (pv 0) (pa_cons (pe_bltn (v := .ty "int") (by rfl) T.m_int (by decide +kernel) rfl) pa_nil)))) (pe_and (pe_splS (pe_not (pe_callB (show CallR _ _ (rIsi K) from call_isi) (by rfl) T.m_isinstance (by decide +kernel) (pa_cons (pv 0) (pa_cons (pe_bltn (v := .ty "bool") (by rfl) T.m_bool (by decide +kernel) rfl) pa_nil))))) (pe_one (pe_cmp (pc_eqI (pv 0) (pv 1)))))))), ?_⟩
    refine ⟨_, rfl, _, _, _, _, _, rfl, (ClsV.ty _), (.base (.int _)), (kit_ty (r := true) (by decide +kernel)), _, rfl, fun _ => ?_, (fun h => nomatch h)⟩
    refine ⟨_, rfl, ?_⟩
    refine iteT ?_
    refine ⟨_, rfl, _, _, _, _, _, rfl, (ClsV.ty _), (.base (.int _)), (kit_ty (r := false) (by decide +kernel)), _, rfl, _, rfl, fun _ => ?_, (fun h => nomatch h)⟩
    refine ⟨_, rfl, ?_⟩
    refine iteT ?_
    refine ⟨_, rfl, _, rfl, _, _, rfl, rfl, ?_⟩
    exact q _ (decide (said = due)) (by first | rfl | exact decide_eq_true pre0) fr.same
def sp_places (K : PySem.W.Frag) : Sp := fun vs H Q _ => ∃ (a_order : Addr) (order : List Int), vs = [V.ref a_order] ∧ H a_order = some (.lst (List.map V.int order)) ∧ (IsOrd order) ∧ (order.length ≤ 1000) ∧ (∀ (H1 : Hp) (r : Addr) (res : List Int), (res = placesI order) → Same H H1 → H r = none → H1 r = some (.lst (List.map V.int res)) → Q (V.ref r) H1)
theorem sc_places : FnScope ["order", "row", "place", "card"] ["order"] (defScope s_places) := ⟨rfl, rfl, rfl, by decide +kernel, rfl, by decide +kernel, by decide +kernel⟩
theorem ok_places (T : Txt K mg) : FnOk P w K mg base CX0 1 T.f_places T.fd_places ["order"] (sp_places K) := by
  refine T.F_places.ok sc_places (fun vs H Q E h => ?_) (fun cdv A outer s H vs Q E hr h => ?_)
  · obtain ⟨a_order, order, rfl, _⟩ := h; rfl
  · obtain ⟨a_order, order, rfl, h_order, pre0, pre1, q⟩ := h
    have fr := Fr.nil H
    refine ⟨_, (pss_cons (ps_set (i := 1) sc_places.nd rfl (Or.inl rfl) (pe_op op_rep (pe_lst (pa_cons pe_int pa_nil)) (pe_callB (show CallR _ _ (rLenL K) from call_lenL) (by rfl) T.m_len (by decide +kernel) (pa_cons (pv 0) pa_nil))))
          (pss_cons (ps_for PassesOwn.never rfl (pi_enum (by rfl) T.m_enumerate (pa_cons (pv 0) pa_nil)) (pg_tup rfl (pgs_cons (pg_name (i := 2) sc_places.nd rfl (Or.inl rfl)) (pgs_cons (pg_name (i := 3) sc_places.nd rfl (Or.inl rfl)) pgs_nil))) (pss_one (ps_asg (pv 2) (pg_sub (pv 1) (pv 3) set_list))))
          (pss_one (ps_ret (pv 1))))), ?_⟩
    refine ⟨(Evl.sz_of (show 1 ≤ 100000 by decide)), fun l_1 nl_2 => ?_⟩
    have fr : Fr H _ [(l_1, (.lst (List.map V.int ([0])) : HO))] := fr.new nl_2
    refine ⟨_, rfl, _, _, _, rfl, (SqL.of (fr.same _ _ h_order)), (List.length_map _), _, _, _, rfl, rfl, fr.at0, ?_, ?_, ?_, fun l_3 nl_4 => ?_⟩
    · walk_at "side"
    · walk_at "side"
    · walk_at "size"
    have fr : Fr H _ [(l_3, (.lst (List.map V.int ((List.replicate (Int.toNat ((order.length : Int))) 0))) : HO)), (l_1, (.lst (List.map V.int ([0])) : HO))] := (fr.new nl_4).cast (lst_rep1 _ _ _)
    have fr := Fr.d1 fr
    refine ⟨_, rfl, _, _, rfl, (SqL.of (fr.same _ _ h_order)), ?_⟩
    refine for_it (walkE V.int order) (fun (i : Nat) σ H1 => ∃ (row_5 : List Int) (y_6 : Option V) (y_7 : Option V), σ = [some (V.ref a_order), some (V.ref l_3), y_6, y_7] ∧ Fr H H1 [(l_3, (.lst (List.map V.int row_5) : HO))] ∧ (row_5 = placesTo order i)) ?_ ?_ ?_ ?_
    · refine ⟨(List.replicate (Int.toNat ((order.length : Int))) 0), _, _, rfl, fr, ?_⟩
      · exact (placesTo_zero _).symm
    · rintro i σ H1 hi ⟨row_5, y_6, y_7, rfl, fr, hrow⟩
      exact (fr.same _ _ h_order)
    · rintro i_8 x_10 s_13 H_11 H_12 hi_9 ⟨row_5, y_6, y_7, rfl, fr, hrow⟩ ⟨T_14, y_15, rfl, nT_17, rfl, hy_18⟩
      have fr := fr.tmp (o := .tup [(V.int ((i_8 : Int))), (V.int y_15)]) nT_17
      refine ⟨_, _, rfl, (SqT.of upd_same), rfl, _, _, rfl, _, _, rfl, rfl, ?_⟩
      have hb := pre0.bd hy_18; have hlr : row_5.length = order.length := by rw [hrow]; simp [placesTo]
      refine ⟨_, rfl, _, rfl, _, rfl, _, _, _, _, rfl, rfl, fr.at0, (ixDm ?_ ?_), ?_⟩
      · walk_at "side"
      · walk_at "side"
      have fr : Fr H _ [(l_3, (.lst (List.map V.int ((List.set row_5 (Int.toNat y_15) ((i_8 : Int))))) : HO))] := (Fr.wr fr).cast (lst_set _ _ _ _)
      refine ⟨(List.set row_5 (Int.toNat y_15) ((i_8 : Int))), _, _, rfl, fr, ?_⟩
      · rw [hrow]; exact placesTo_next pre0 hy_18
    rintro s_21 H_20 ⟨row_5, y_6, y_7, rfl, fr, hrow⟩
    refine ⟨_, rfl, ?_⟩
    exact q _ _ row_5 (by rw [hrow]; exact placesTo_all pre0) fr.same fr.n0 fr.at0
def sp_runs (K : PySem.W.Frag) : Sp := fun vs H Q _ => ∃ (a_order : Addr) (order : List Int), vs = [V.ref a_order] ∧ H a_order = some (.lst (List.map V.int order)) ∧ (IsOrd order) ∧ (1 ≤ order.length ∧ order.length ≤ 1000) ∧ (∀ (H1 : Hp) (res : Int), (res = (runsI order : Int)) → Same H H1 → Q (V.int res) H1)
theorem sc_runs : FnScope ["order"] ["order"] (defScope s_runs) := ⟨rfl, rfl, rfl, by decide +kernel, rfl, by decide +kernel, by decide +kernel⟩
theorem ok_runs (T : Txt K mg) : FnOk P w K mg base CX0 2 T.f_runs T.fd_runs ["order"] (sp_runs K) := by
  refine T.F_runs.ok sc_runs (fun vs H Q E h => ?_) (fun cdv A outer s H vs Q E hr h => ?_)
  · obtain ⟨a_order, order, rfl, _⟩ := h; rfl
  · obtain ⟨a_order, order, rfl, h_order, pre0, pre1, q⟩ := h
    have fr := Fr.nil H
    refine ⟨_, (pss_one (ps_ret (pe_op op_add pe_int (pe_call (ok_falls T) (hr.mono (by decide)) (by rfl) T.g_falls T.F_falls.kp T.b_falls .nil pass0 (pa_cons (pe_call (ok_places T) (hr.mono (by decide)) (by rfl) T.g_places T.F_places.kp T.b_places .nil pass0 (pa_cons (pv 0) pa_nil)) pa_nil))))), ?_⟩
    refine ⟨_, rfl, a_order, order, rfl, (fr.same _ _ h_order), ?_, ?_, fun H_1 p_5 places_2 hp_4 sm_3 np_6 ep_7 => ?_⟩
    · first | exact pre0 | omega
    · first | exact pre0 | omega
    have fr : Fr H _ [(p_5, (.lst (List.map V.int places_2) : HO))] := fr.cnew sm_3 np_6 ep_7
    subst hp_4
    refine ⟨p_5, (((placesI order))), rfl, fr.at0, ?_, fun H_8 falls_9 hp_11 sm_10 => ?_⟩
    · simp; omega
    have fr : Fr H _ [(p_5, (.lst (List.map V.int (((placesI order)))) : HO))] := fr.call sm_10
    subst hp_11
    refine ⟨_, _, rfl, rfl, ?_⟩
    exact q _ ((1 + (((fallsI (((placesI order))) : Int))))) (by unfold runsI; omega) fr.same
def sp_law_fallen (K : PySem.W.Frag) : Sp := fun vs H Q _ => ∃ (a_order : Addr) (order : List Int), vs = [V.ref a_order] ∧ H a_order = some (.lst (List.map V.int order)) ∧ (1 ≤ order.length ∧ order.length ≤ 60) ∧ (∀ (H1 : Hp) (res : Int), (res = (fallsI order : Int)) → Same H H1 → Q (V.int res) H1)
theorem sc_law_fallen : FnScope ["_law_order_here", "_law_many", "_law_k"] ["_law_order_here"] (defScope s_law_fallen) := ⟨rfl, rfl, rfl, by decide +kernel, rfl, by decide +kernel, by decide +kernel⟩
theorem ok_law_fallen (T : Txt K mg) : FnOk P w K mg base CX0 1 T.f_law_fallen T.fd_law_fallen ["_law_order_here"] (sp_law_fallen K) := by
  refine T.F_law_fallen.ok sc_law_fallen (fun vs H Q E h => ?_) (fun cdv A outer s H vs Q E hr h => ?_)
  · obtain ⟨a_order, order, rfl, _⟩ := h; rfl
  · obtain ⟨a_order, order, rfl, h_order, pre0, q⟩ := h
    have fr := Fr.nil H
    refine ⟨_, (pss_cons (ps_set (i := 1) sc_law_fallen.nd rfl (Or.inl rfl) pe_int)
          (pss_cons (ps_for PassesOwn.never rfl (pi_range1 (by rfl) T.m_range (pa_cons (pe_op op_sub (pe_callB (show CallR _ _ (rLenL K) from call_lenL) (by rfl) T.m_len (by decide +kernel) (pa_cons (pv 0) pa_nil)) pe_int) pa_nil)) (pg_name (i := 2) sc_law_fallen.nd rfl (Or.inl rfl)) (pss_one (ps_if (pt_cmpR op_ltS (pe_ix (show IxR _ (rIxL K) from ix_list) (pv 0) (pe_op op_add (pv 2) pe_int) (fun _ _ => rfl)) (pe_ix (show IxR _ (rIxL K) from ix_list) (pv 0) (pv 2) (fun _ _ => rfl)) (nomark _)) (pss_one (ps_set (i := 1) sc_law_fallen.nd rfl (Or.inl rfl) (pe_op op_add (pv 1) pe_int))) pss_nil)))
          (pss_one (ps_ret (pv 1))))), ?_⟩
    refine ⟨_, rfl, _, _, _, rfl, (SqL.of (fr.same _ _ h_order)), (List.length_map _), _, _, rfl, rfl, _, rfl, ?_, ?_, ?_⟩
    · walk_at "side"
    · walk_at "side"
    refine for_it (walkR (n := (Int.toNat (((order.length : Int) - 1))))) (fun (i : Nat) σ H1 => ∃ (many_1 : Int) (y_2 : Option V), σ = [some (V.ref a_order), some (V.int many_1), y_2] ∧ Fr H H1 [] ∧ (many_1 = (fc order (i + 1) : Int))) ?_ ?_ ?_ ?_
    · refine ⟨0, _, rfl, fr, ?_⟩
      · rfl
    · rintro i σ H1 hi ⟨many_1, y_2, rfl, fr, hm⟩
      exact trivial
    · rintro i_3 x_5 s_8 H_6 H_7 hi_4 ⟨many_1, y_2, rfl, fr, hm⟩ ⟨rfl, rfl⟩
      refine ⟨_, rfl, _, rfl, _, _, rfl, rfl, _, _, _, _, rfl, rfl, (SqL.of (fr.same _ _ h_order)), (atD 0 ?_ ?_), _, rfl, _, rfl, _, _, _, _, rfl, rfl, (SqL.of (fr.same _ _ h_order)), (atD 0 ?_ ?_), _, _, rfl, rfl, ?_, ?_⟩
      · walk_at "side"
      · walk_at "side"
      · walk_at "side"
      · walk_at "side"
      · intro h9
        refine ⟨_, rfl, ?_⟩
        refine iteT ?_
        refine ⟨_, rfl, _, _, rfl, rfl, ?_⟩
        refine ⟨(many_1 + 1), _, rfl, fr, ?_⟩
        · rw [hm]; first | exact fc_yes (by assumption) | exact fc_no (by assumption)
      · intro h9
        refine ⟨_, rfl, ?_⟩
        refine iteF ?_
        refine ⟨many_1, _, rfl, fr, ?_⟩
        · rw [hm]; first | exact fc_yes (by assumption) | exact fc_no (by assumption)
    rintro s_11 H_10 ⟨many_1, y_2, rfl, fr, hm⟩
    refine ⟨_, rfl, ?_⟩
    exact q _ many_1 (by rw [hm]; unfold fallsI; congr 2; omega) fr.same
def sp_law_taken (K : PySem.W.Frag) : Sp := fun vs H Q _ => ∃ (a_order : Addr) (order : List Int), vs = [V.ref a_order] ∧ H a_order = some (.lst (List.map V.int order)) ∧ (IsOrd order) ∧ (1 ≤ order.length ∧ order.length ≤ 60) ∧ (∀ (H1 : Hp) (res : Int), (res = (runsI order : Int)) → Same H H1 → Q (V.int res) H1)
theorem sc_law_taken : FnScope ["_law_order_here", "_law_card", "_law_rounds", "_law_lying"] ["_law_order_here"] (defScope s_law_taken) := ⟨rfl, rfl, rfl, by decide +kernel, rfl, by decide +kernel, by decide +kernel⟩
theorem ok_law_taken (T : Txt K mg) : FnOk P w K mg base CX0 1 T.f_law_taken T.fd_law_taken ["_law_order_here"] (sp_law_taken K) := by
  refine T.F_law_taken.ok sc_law_taken (fun vs H Q E h => ?_) (fun cdv A outer s H vs Q E hr h => ?_)
  · obtain ⟨a_order, order, rfl, _⟩ := h; rfl
  · obtain ⟨a_order, order, rfl, h_order, pre0, pre1, q⟩ := h
    have fr := Fr.nil H
    refine ⟨_, (pss_cons (ps_set (i := 1) sc_law_taken.nd rfl (Or.inl rfl) pe_int)
          (pss_cons (ps_set (i := 2) sc_law_taken.nd rfl (Or.inl rfl) pe_int)
          (pss_cons (ps_while PassesOwn.never (pt_cmpR op_ltS (pv 1) (pe_callB (show CallR _ _ (rLenL K) from call_lenL) (by rfl) T.m_len (by decide +kernel) (pa_cons (pv 0) pa_nil)) (nomark _)) (pss_cons (ps_set (i := 2) sc_law_taken.nd rfl (Or.inl rfl) (pe_op op_add (pv 2) pe_int))
          (pss_one (ps_for PassesOwn.never rfl (pi_list (pv 0)) (pg_name (i := 3) sc_law_taken.nd rfl (Or.inl rfl)) (pss_one (ps_if (pt_cmpR op_eqS (pv 3) (pv 1) (nomark _)) (pss_one (ps_set (i := 1) sc_law_taken.nd rfl (Or.inl rfl) (pe_op op_add (pv 1) pe_int))) pss_nil))))))
          (pss_one (ps_ret (pv 2)))))), ?_⟩
    refine while_m (fun (m : Nat) σ H1 => ∃ (card_1 : Int) (rounds_2 : Int) (y_3 : Option V), σ = [some (V.ref a_order), some (V.int card_1), some (V.int rounds_2), y_3] ∧ Fr H H1 [] ∧ (m = Int.toNat ((order.length : Int) - card_1)) ∧ (0 ≤ card_1 ∧ card_1 ≤ (order.length : Int)) ∧ (rounds_2 = roundsAt (placesI order) (Int.toNat card_1)) ∧ (card_1 = 0 ∨ card_1 = (order.length : Int) ∨ isFall (placesI order) (Int.toNat card_1 - 1) = true)) ?_ ?_
    · refine ⟨_, 0, 0, _, rfl, fr, rfl, ?_, ?_, ?_⟩
      · omega
      · rfl
      · exact .inl rfl
    rintro m_4 s_5 H_6 ⟨card_1, rounds_2, y_3, rfl, fr, hmu, hb, hrd, hend⟩
    refine ⟨_, rfl, _, rfl, _, _, _, rfl, (SqL.of (fr.same _ _ h_order)), (List.length_map _), _, _, rfl, rfl, ?_, ?_⟩
    · intro h7
      refine ⟨_, rfl, ?_⟩
      refine iteT ?_
      refine ⟨_, fun _ _ h => h, ?_⟩
      refine ⟨_, rfl, _, _, rfl, rfl, ?_⟩
      refine ⟨_, rfl, _, rfl, ⟨_, (SqL.of (fr.same _ _ h_order))⟩, ?_⟩
      refine for_it (walkL V.int order) (fun (i : Nat) σ H1 => ∃ (card_8 : Int) (y_9 : Option V), σ = [some (V.ref a_order), some (V.int card_8), some (V.int ((rounds_2 + 1))), y_9] ∧ Fr H H1 [] ∧ (Pass order card_1 i card_8)) ?_ ?_ ?_ ?_
      · refine ⟨card_1, _, rfl, fr, ?_⟩
        · exact Pass.start (by omega) (by assumption)
      · rintro i σ H1 hi ⟨card_8, y_9, rfl, fr, hps⟩
        exact (fr.same _ _ h_order)
      · rintro i_10 x_12 s_15 H_13 H_14 hi_11 ⟨card_8, y_9, rfl, fr, hps⟩ ⟨rfl, y_16, hy_17, rfl⟩
        refine ⟨_, rfl, _, rfl, _, _, rfl, rfl, ?_, ?_⟩
        · intro h18
          refine ⟨_, rfl, ?_⟩
          refine iteT ?_
          refine ⟨_, rfl, _, _, rfl, rfl, ?_⟩
          refine ⟨(card_8 + 1), _, rfl, fr, ?_⟩
          · first | (subst_vars; exact hps.hit pre0 hy_17) | exact hps.miss pre0 hy_17 (by assumption)
        · intro h18
          refine ⟨_, rfl, ?_⟩
          refine iteF ?_
          refine ⟨card_8, _, rfl, fr, ?_⟩
          · first | (subst_vars; exact hps.hit pre0 hy_17) | exact hps.miss pre0 hy_17 (by assumption)
      rintro s_20 H_19 ⟨card_8, y_9, rfl, fr, hps⟩
      refine ⟨_, ?_, card_8, (rounds_2 + 1), _, rfl, fr, rfl, ?_, ?_, ?_⟩
      · subst hmu
        have hm := hps.more pre0 (by assumption); have hl := hps.le; omega
      · have hl := hps.le; omega
      · exact hps.rounds pre0 (by assumption) hrd hend
      · exact hps.fall pre0 (by assumption)
    · intro h7
      refine ⟨_, rfl, ?_⟩
      refine iteF ?_
      refine ⟨_, rfl, ?_⟩
      exact q _ rounds_2 (by exact taken_runs (by omega) (by omega) hrd) fr.same
def sp_law_held (K : PySem.W.Frag) : Sp := fun vs H Q _ => ∃ (a_order : Addr) (order : List Int), vs = [V.ref a_order] ∧ H a_order = some (.lst (List.map V.int order)) ∧ (IsOrd order) ∧ (1 ≤ order.length ∧ order.length ≤ 60) ∧ (∀ (H1 : Hp) (res : Bool), (res = true) → Same H H1 → Q (V.bl res) H1)
theorem sc_law_held : FnScope ["_law_order_here", "_law_handed", "_law_back", "_law_card"] ["_law_order_here"] (defScope s_law_held) := ⟨rfl, rfl, rfl, by decide +kernel, rfl, by decide +kernel, by decide +kernel⟩
theorem ok_law_held (T : Txt K mg) : FnOk P w K mg base CX0 3 T.f_law_held T.fd_law_held ["_law_order_here"] (sp_law_held K) := by
  refine T.F_law_held.ok sc_law_held (fun vs H Q E h => ?_) (fun cdv A outer s H vs Q E hr h => ?_)
  · obtain ⟨a_order, order, rfl, _⟩ := h; rfl
  · obtain ⟨a_order, order, rfl, h_order, pre0, pre1, q⟩ := h
    have fr := Fr.nil H
    have hpl := placesI_length order; have hop := isOrd_placesI pre0; have hrl : order.reverse.length = order.length := List.length_reverse
    refine ⟨_, (pss_cons (ps_set (i := 1) sc_law_held.nd rfl (Or.inl rfl) (pe_callTy (show CallR _ _ (rListL K) from call_listL) (by rfl) T.m_list (by decide +kernel) (pa_cons (pv 0) pa_nil)))
          (pss_cons (ps_setLc (i := 2) (own := [("_law_card", 3)]) (g := gName 3) (tt := tYes) rfl sc_law_held.nd rfl rfl (sw_true rfl rfl rfl (by decide +kernel)) (pi_range1 (by rfl) T.m_range (pa_cons (pe_callB (show CallR _ _ (rLenL K) from call_lenL) (by rfl) T.m_len (by decide +kernel) (pa_cons (pv 0) pa_nil)) pa_nil)) (blkOk_by (N := ["_law_order_here", "_law_handed", "_law_back", "_law_card"]) (sc := defScope s_law_held) (by decide +kernel)) (fun _ _ _ _ _ => pg_name (i := 3) sc_law_held.nd rfl (Or.inl rfl)) (fun _ _ _ _ _ => pts_nil) (fun _ _ _ _ _ => (pe_bmK (K := K) (pe_bm PySem.F.plainAttrs_list PySem.F.slot_list_index PySem.F.type_list_index (show MtR _ _ (rIndex K) from mt_index) (pv 0) (pa_cons (pv 3) pa_nil)))))
          (pss_cons (ps_if (PW.pt (pw_or (pt_not (pt_valS (pe_call (ok_law_whole T) (hr.mono (by decide)) (by rfl) T.g_law_whole T.F_law_whole.kp T.b_law_whole .nil pass0 (pa_cons (pe_call (ok_falls T) (hr.mono (by decide)) (by rfl) T.g_falls T.F_falls.kp T.b_falls .nil pass0 (pa_cons (pv 1) pa_nil)) (pa_cons (pe_call (ok_law_fallen T) (hr.mono (by decide)) (by rfl) T.g_law_fallen T.F_law_fallen.kp T.b_law_fallen .nil pass0 (pa_cons (pv 0) pa_nil)) pa_nil))))) (pw_or1 (pt_not (pt_valS (pe_call (ok_law_whole T) (hr.mono (by decide)) (by rfl) T.g_law_whole T.F_law_whole.kp T.b_law_whole .nil pass0 (pa_cons (pe_call (ok_runs T) (hr.mono (by decide)) (by rfl) T.g_runs T.F_runs.kp T.b_runs .nil pass0 (pa_cons (pv 1) pa_nil)) (pa_cons (pe_call (ok_law_taken T) (hr.mono (by decide)) (by rfl) T.g_law_taken T.F_law_taken.kp T.b_law_taken .nil pass0 (pa_cons (pv 0) pa_nil)) pa_nil)))))))) (pss_one (ps_ret pe_bl)) pss_nil)
          (pss_cons (ps_if (PW.pt (pw_or (pt_cmpR op_neS (pe_call (ok_runs T) (hr.mono (by decide)) (by rfl) T.g_runs T.F_runs.kp T.b_runs .nil pass0 (pa_cons (pv 2) pa_nil)) (pe_op op_add (pe_call (ok_falls T) (hr.mono (by decide)) (by rfl) T.g_falls T.F_falls.kp T.b_falls .nil pass0 (pa_cons (pv 1) pa_nil)) pe_int) (nomark _)) (pw_or (pt_cmpR op_neS (pe_call (ok_runs T) (hr.mono (by decide)) (by rfl) T.g_runs T.F_runs.kp T.b_runs .nil pass0 (pa_cons (pv 1) pa_nil)) (pe_op op_add (pe_call (ok_falls T) (hr.mono (by decide)) (by rfl) T.g_falls T.F_falls.kp T.b_falls .nil pass0 (pa_cons (pv 2) pa_nil)) pe_int) (nomark _)) (pw_or1 (pt_cmpR (opS (show OpR _ _ (rNeX K) from op_neX (hu64 hr))) (pv 1) (pv 0) (nomark _)))))) (pss_one (ps_ret pe_bl)) pss_nil)
          (pss_one (ps_ret (pe_cmp (pc_eqI (pe_call (ok_falls T) (hr.mono (by decide)) (by rfl) T.g_falls T.F_falls.kp T.b_falls .nil pass0 (pa_cons (pe_listRev rfl (by rfl) T.m_list (by rfl) T.m_reversed (pv 0)) pa_nil)) (pe_op op_sub (pe_op op_sub (pe_callB (show CallR _ _ (rLenL K) from call_lenL) (by rfl) T.m_len (by decide +kernel) (pa_cons (pv 0) pa_nil)) pe_int) (pe_call (ok_falls T) (hr.mono (by decide)) (by rfl) T.g_falls T.F_falls.kp T.b_falls .nil pass0 (pa_cons (pv 1) pa_nil))))))))))), ?_⟩
    refine ⟨_, rfl, _, _, rfl, (.inl (SqL.of (fr.same _ _ h_order))), fun l_1 nl_2 => ?_⟩
    have fr : Fr H _ [(l_1, (.lst (List.map V.int order) : HO))] := fr.new nl_2
    refine ⟨_, rfl, _, _, _, rfl, (SqL.of (fr.same _ _ h_order)), (List.length_map _), _, rfl, ?_, ?_, ?_⟩
    · walk_at "side"
    · walk_at "side"
    intro D_3 nD_4
    refine lc_it (walkR (n := order.length)) (fun (i : Nat) H1 => Fr H H1 [(D_3, (.lst (List.map V.int ((List.map (fun i : Nat => (List.idxOf ((i : Int)) order : Int)) (List.range i)))) : HO)), (l_1, (.lst (List.map V.int order) : HO))]) (fr.new nD_4) (fun i H1 hi fr => trivial) ?_ ?_
    · rintro i_6 x_10 H_8 H_9 hi_7 fr ⟨rfl, rfl⟩
      refine ⟨rfl, ?_⟩
      refine ⟨_, rfl, (.inl ⟨rfl, _, (SqL.of (fr.same _ _ h_order))⟩), _, rfl, _, _, _, _, _, rfl, rfl, (SqL.of (fr.same _ _ h_order)), rfl, (flat_ints _), (ix_get ?_), ix_eqv, (ix_first _ _), _, fr.at0, ?_, ?_⟩
      · exact pre0.mem.mpr ⟨by omega, by omega⟩
      · walk_at "csize"
      exact (Fr.wr fr).cast (lc_r _ _)
    intro H_11 fr
    have fr : Fr H _ [(D_3, (.lst (List.map V.int ((List.map (fun i : Nat => (List.idxOf ((i : Int)) order : Int)) (List.range order.length)))) : HO)), (l_1, (.lst (List.map V.int order) : HO))] := fr
    refine ⟨_, rfl, l_1, order, rfl, fr.at1, ?_, fun H_12 falls_13 hp_15 sm_14 => ?_⟩
    · first | omega | (show 1 ≤ (placesI _).length ∧ (placesI _).length ≤ 1000; omega)
    have fr : Fr H _ [(D_3, (.lst (List.map V.int ((List.map (fun i : Nat => (List.idxOf ((i : Int)) order : Int)) (List.range order.length)))) : HO)), (l_1, (.lst (List.map V.int order) : HO))] := fr.call sm_14
    subst hp_15
    refine ⟨_, rfl, a_order, order, rfl, (fr.same _ _ h_order), ?_, fun H_16 fallen_17 hp_19 sm_18 => ?_⟩
    · omega
    have fr : Fr H _ [(D_3, (.lst (List.map V.int ((List.map (fun i : Nat => (List.idxOf ((i : Int)) order : Int)) (List.range order.length)))) : HO)), (l_1, (.lst (List.map V.int order) : HO))] := fr.call sm_18
    subst hp_19
    refine ⟨((((fallsI order : Int)))), ((((fallsI order : Int)))), rfl, ?_, fun H_20 whole_21 hp_23 sm_22 => ?_⟩
    · rfl
    have fr : Fr H _ [(D_3, (.lst (List.map V.int ((List.map (fun i : Nat => (List.idxOf ((i : Int)) order : Int)) (List.range order.length)))) : HO)), (l_1, (.lst (List.map V.int order) : HO))] := fr.call sm_22
    subst hp_23
    refine ⟨_, rfl, fun _ => ?_, (fun h => nomatch h)⟩
    refine iteF ?_
    refine ⟨_, rfl, l_1, order, rfl, fr.at1, ?_, ?_, fun H_24 runs_25 hp_27 sm_26 => ?_⟩
    · first | exact pre0 | exact hop | (show 1 ≤ (placesI _).length ∧ (placesI _).length ≤ 1000; omega) | omega
    · first | exact pre0 | exact hop | (show 1 ≤ (placesI _).length ∧ (placesI _).length ≤ 1000; omega) | omega
    have fr : Fr H _ [(D_3, (.lst (List.map V.int ((List.map (fun i : Nat => (List.idxOf ((i : Int)) order : Int)) (List.range order.length)))) : HO)), (l_1, (.lst (List.map V.int order) : HO))] := fr.call sm_26
    subst hp_27
    refine ⟨_, rfl, a_order, order, rfl, (fr.same _ _ h_order), ?_, ?_, fun H_28 taken_29 hp_31 sm_30 => ?_⟩
    · first | exact pre0 | omega
    · first | exact pre0 | omega
    have fr : Fr H _ [(D_3, (.lst (List.map V.int ((List.map (fun i : Nat => (List.idxOf ((i : Int)) order : Int)) (List.range order.length)))) : HO)), (l_1, (.lst (List.map V.int order) : HO))] := fr.call sm_30
    subst hp_31
    refine ⟨((((runsI order : Int)))), ((((runsI order : Int)))), rfl, ?_, fun H_32 whole_33 hp_35 sm_34 => ?_⟩
    · rfl
    have fr : Fr H _ [(D_3, (.lst (List.map V.int ((List.map (fun i : Nat => (List.idxOf ((i : Int)) order : Int)) (List.range order.length)))) : HO)), (l_1, (.lst (List.map V.int order) : HO))] := fr.call sm_34
    subst hp_35
    refine ⟨_, rfl, fun _ => ?_, (fun h => nomatch h)⟩
    refine iteF ?_
    refine ⟨_, rfl, D_3, ((List.map (fun i : Nat => (List.idxOf ((i : Int)) order : Int)) (List.range order.length))), rfl, fr.at0, ?_, ?_, fun H_36 runs_37 hp_39 sm_38 => ?_⟩
    · first | exact pre0 | exact hop | (show 1 ≤ (placesI _).length ∧ (placesI _).length ≤ 1000; omega) | omega
    · first | exact pre0 | exact hop | (show 1 ≤ (placesI _).length ∧ (placesI _).length ≤ 1000; omega) | omega
    have fr : Fr H _ [(D_3, (.lst (List.map V.int ((List.map (fun i : Nat => (List.idxOf ((i : Int)) order : Int)) (List.range order.length)))) : HO)), (l_1, (.lst (List.map V.int order) : HO))] := fr.call sm_38
    subst hp_39
    refine ⟨_, rfl, l_1, order, rfl, fr.at1, ?_, fun H_40 falls_41 hp_43 sm_42 => ?_⟩
    · first | omega | (show 1 ≤ (placesI _).length ∧ (placesI _).length ≤ 1000; omega)
    have fr : Fr H _ [(D_3, (.lst (List.map V.int ((List.map (fun i : Nat => (List.idxOf ((i : Int)) order : Int)) (List.range order.length)))) : HO)), (l_1, (.lst (List.map V.int order) : HO))] := fr.call sm_42
    subst hp_43
    refine ⟨_, _, rfl, rfl, _, _, rfl, rfl, ?_, ?_⟩
    · intro h44
      exfalso
      have hh := runs_places pre0; exact h44 (by show ((runsI (placesI _) : Nat) : Int) = _; rw [hh]; rfl)
    · intro h44
      refine ⟨_, rfl, ?_⟩
      refine iteF ?_
      refine ⟨_, rfl, l_1, order, rfl, fr.at1, ?_, ?_, fun H_45 runs_46 hp_48 sm_47 => ?_⟩
      · first | exact pre0 | exact hop | (show 1 ≤ (placesI _).length ∧ (placesI _).length ≤ 1000; omega) | omega
      · first | exact pre0 | exact hop | (show 1 ≤ (placesI _).length ∧ (placesI _).length ≤ 1000; omega) | omega
      have fr : Fr H _ [(D_3, (.lst (List.map V.int ((List.map (fun i : Nat => (List.idxOf ((i : Int)) order : Int)) (List.range order.length)))) : HO)), (l_1, (.lst (List.map V.int order) : HO))] := fr.call sm_47
      subst hp_48
      refine ⟨_, rfl, D_3, ((List.map (fun i : Nat => (List.idxOf ((i : Int)) order : Int)) (List.range order.length))), rfl, fr.at0, ?_, fun H_49 falls_50 hp_52 sm_51 => ?_⟩
      · first | omega | (show 1 ≤ (placesI _).length ∧ (placesI _).length ≤ 1000; omega)
      have fr : Fr H _ [(D_3, (.lst (List.map V.int ((List.map (fun i : Nat => (List.idxOf ((i : Int)) order : Int)) (List.range order.length)))) : HO)), (l_1, (.lst (List.map V.int order) : HO))] := fr.call sm_51
      subst hp_52
      refine ⟨_, _, rfl, rfl, _, _, rfl, rfl, ?_, ?_⟩
      · intro h53
        exfalso
        exact h53 (by show ((runsI _ : Nat) : Int) = ((fallsI (placesI _) : Nat) : Int) + 1; unfold runsI; omega)
      · intro h53
        refine ⟨_, rfl, ?_⟩
        refine iteF ?_
        refine ⟨_, rfl, _, rfl, _, _, true, (dp_ints fr.at1), (dp_ints (fr.same _ _ h_order)), (Okd.sh (okd_ints _)), (Okd.sh (okd_ints _)), (PySem.SeqAt.eqv_refl _ (Okd.cn (okd_ints _))), _, rfl, (fun h => nomatch h), fun _ => ?_⟩
        refine ⟨_, rfl, ?_⟩
        refine iteF ?_
        refine ⟨_, rfl, _, _, rfl, (SqL.of (fr.same _ _ h_order)), fun l_54 nl_55 => ?_⟩
        have fr : Fr H _ [(l_54, (.lst (List.map V.int ((List.reverse order))) : HO)), (D_3, (.lst (List.map V.int ((List.map (fun i : Nat => (List.idxOf ((i : Int)) order : Int)) (List.range order.length)))) : HO)), (l_1, (.lst (List.map V.int order) : HO))] := (fr.new nl_55).cast (lst_rev _ _)
        refine ⟨l_54, ((List.reverse order)), rfl, fr.at0, ?_, fun H_56 falls_57 hp_59 sm_58 => ?_⟩
        · first | omega | (show 1 ≤ (placesI _).length ∧ (placesI _).length ≤ 1000; omega)
        have fr : Fr H _ [(l_54, (.lst (List.map V.int ((List.reverse order))) : HO)), (D_3, (.lst (List.map V.int ((List.map (fun i : Nat => (List.idxOf ((i : Int)) order : Int)) (List.range order.length)))) : HO)), (l_1, (.lst (List.map V.int order) : HO))] := fr.call sm_58
        subst hp_59
        refine ⟨_, rfl, _, _, _, rfl, (SqL.of (fr.same _ _ h_order)), (List.length_map _), _, _, rfl, rfl, _, rfl, l_1, order, rfl, fr.at2, ?_, fun H_60 falls_61 hp_63 sm_62 => ?_⟩
        · first | omega | (show 1 ≤ (placesI _).length ∧ (placesI _).length ≤ 1000; omega)
        have fr : Fr H _ [(l_54, (.lst (List.map V.int ((List.reverse order))) : HO)), (D_3, (.lst (List.map V.int ((List.map (fun i : Nat => (List.idxOf ((i : Int)) order : Int)) (List.range order.length)))) : HO)), (l_1, (.lst (List.map V.int order) : HO))] := fr.call sm_62
        subst hp_63
        refine ⟨_, _, rfl, rfl, _, _, rfl, rfl, ?_⟩
        exact q _ (decide ((((fallsI ((List.reverse order)) : Int))) = (((order.length : Int) - 1) - (((fallsI order : Int)))))) (by exact decide_eq_true (falls_reverse pre0.nodup (by omega))) fr.same
def sp_law_mixed (K : PySem.W.Frag) : Sp := fun vs H Q _ => ∃ (cell : Int) (k : Int), vs = [V.int cell, V.int k] ∧ (0 ≤ k ∧ k < 1000) ∧ (∀ (H1 : Hp) (res : Int), (0 ≤ res ∧ res < 2147483647) → Same H H1 → Q (V.int res) H1)
theorem sc_law_mixed : FnScope ["_law_cell", "_law_k", "_law_number"] ["_law_cell", "_law_k"] (defScope s_law_mixed) := ⟨rfl, rfl, rfl, by decide +kernel, rfl, by decide +kernel, by decide +kernel⟩
theorem ok_law_mixed (T : Txt K mg) : FnOk P w K mg base CX0 1 T.f_law_mixed T.fd_law_mixed ["_law_cell", "_law_k"] (sp_law_mixed K) := by
  refine T.F_law_mixed.ok sc_law_mixed (fun vs H Q E h => ?_) (fun cdv A outer s H vs Q E hr h => ?_)
  · obtain ⟨cell, k, rfl, _⟩ := h; rfl
  · obtain ⟨cell, k, rfl, pre0, q⟩ := h
    have fr := Fr.nil H
    refine ⟨_, (pss_cons (ps_set (i := 2) sc_law_mixed.nd rfl (Or.inl rfl) (pe_op op_mod (pe_op op_mul (pe_op op_add (pe_op op_add (pe_op op_mod (pe_callB call_absI (by rfl) T.m_abs (by decide +kernel) (pa_cons (pv 0) pa_nil)) pe_int) (pe_op op_mul pe_int (pv 1))) pe_int) (pe_op op_add pe_int (pe_op op_mul (pv 1) (pv 1)))) pe_int))
          (pss_one (ps_ret (pe_op op_mod (pe_op op_mul (pv 2) pe_int) pe_int)))), ?_⟩
    refine ⟨_, rfl, _, rfl, _, _, rfl, rfl, (show (0 : Int) < _ by decide), _, rfl, _, _, rfl, rfl, (.inl (by decide)), _, _, rfl, rfl, _, _, rfl, rfl, _, rfl, _, rfl, _, _, rfl, rfl, ?_, _, _, rfl, rfl, _, _, rfl, rfl, ?_, _, _, rfl, rfl, (show (0 : Int) < _ by decide), ?_⟩
    · walk_at "mul"
    · walk_at "mul"
    refine ⟨_, rfl, _, _, rfl, rfl, (.inr (by decide)), _, _, rfl, rfl, (show (0 : Int) < _ by decide), ?_⟩
    exact q _ (((((((((cell.natAbs : Int) % 2147483647) + (97 * k)) + 13) * (16807 + (k * k))) % 2147483647) * 48271) % 2147483647)) (by exact ⟨Int.emod_nonneg _ (by decide), Int.emod_lt_of_pos _ (by decide)⟩) fr.same
def sp_law_order (K : PySem.W.Frag) : Sp := fun vs H Q _ => ∃ (cell : Int) (most : Int), vs = [V.int cell, V.int most] ∧ (1 ≤ most ∧ most ≤ 60) ∧ (∀ (H1 : Hp) (r : Addr) (res : List Int), (IsOrd res) → (1 ≤ res.length ∧ (res.length : Int) ≤ most) → Same H H1 → H r = none → H1 r = some (.lst (List.map V.int res)) → Q (V.ref r) H1)
theorem sc_law_order : FnScope ["_law_cell", "_law_most", "_law_n", "_law_rest", "_law_left", "_law_order_here", "_law_k", "_law_pick"] ["_law_cell", "_law_most"] (defScope s_law_order) := ⟨rfl, rfl, rfl, by decide +kernel, rfl, by decide +kernel, by decide +kernel⟩
theorem ok_law_order (T : Txt K mg) : FnOk P w K mg base CX0 2 T.f_law_order T.fd_law_order ["_law_cell", "_law_most"] (sp_law_order K) := by
  refine T.F_law_order.ok sc_law_order (fun vs H Q E h => ?_) (fun cdv A outer s H vs Q E hr h => ?_)
  · obtain ⟨cell, most, rfl, _⟩ := h; rfl
  · obtain ⟨cell, most, rfl, pre0, q⟩ := h
    have fr := Fr.nil H
    refine ⟨_, (pss_cons (ps_set (i := 2) sc_law_order.nd rfl (Or.inl rfl) (pe_op op_add pe_int (pe_op op_mod (pv 0) (pv 1))))
          (pss_cons (ps_set (i := 3) sc_law_order.nd rfl (Or.inl rfl) (pe_op op_fdiv (pv 0) (pv 1)))
          (pss_cons (ps_set (i := 4) sc_law_order.nd rfl (Or.inl rfl) (pe_listRg rfl (by rfl) T.m_list (prg_1 (by rfl) T.m_range (pv 2))))
          (pss_cons (ps_set (i := 5) sc_law_order.nd rfl (Or.inl rfl) (pe_lst pa_nil))
          (pss_cons (ps_for PassesOwn.never rfl (pi_range1 (by rfl) T.m_range (pa_cons (pv 2) pa_nil)) (pg_name (i := 6) sc_law_order.nd rfl (Or.inl rfl)) (pss_cons (ps_set (i := 7) sc_law_order.nd rfl (Or.inl rfl) (pe_op op_mod (pv 3) (pe_callB (show CallR _ _ (rLenL K) from call_lenL) (by rfl) T.m_len (by decide +kernel) (pa_cons (pv 4) pa_nil))))
          (pss_cons (ps_set (i := 3) sc_law_order.nd rfl (Or.inl rfl) (pe_op op_fdiv (pv 3) (pe_callB (show CallR _ _ (rLenL K) from call_lenL) (by rfl) T.m_len (by decide +kernel) (pa_cons (pv 4) pa_nil))))
          (pss_cut (ps_if (pt_cmpR op_ltS (pe_callB call_absI (by rfl) T.m_abs (by decide +kernel) (pa_cons (pv 0) pa_nil)) (pe_op op_powL pe_int pe_int) (nomark _)) (pss_one (ps_set (i := 7) sc_law_order.nd rfl (Or.inl rfl) (pe_op op_mod (pe_call (ok_law_mixed T) (hr.mono (by decide)) (by rfl) T.g_law_mixed T.F_law_mixed.kp T.b_law_mixed .nil pass0 (pa_cons (pv 0) (pa_cons (pv 6) pa_nil))) (pe_callB (show CallR _ _ (rLenL K) from call_lenL) (by rfl) T.m_len (by decide +kernel) (pa_cons (pv 4) pa_nil))))) pss_nil)
          (pss_one (ps_expr (pe_bmK (K := K) (pe_bm PySem.F.plainAttrs_list PySem.F.slot_list_append PySem.F.type_list_append mt_append (pv 5) (pa_cons (pe_bmK (K := K) (pe_bm PySem.F.plainAttrs_list PySem.F.slot_list_pop PySem.F.type_list_pop mt_popAt (pv 4) (pa_cons (pv 7) pa_nil))) pa_nil)))))))))
          (pss_one (ps_ret (pv 5)))))))), ?_⟩
    refine ⟨_, rfl, _, rfl, _, _, rfl, rfl, ?_, _, _, rfl, rfl, ?_⟩
    · walk_at "side"
    dsimp only
    generalize e_law_n_2 : ((1 + (cell % most)) : Int) = n_1
    have hm1 := Int.emod_nonneg cell (show most ≠ 0 by omega); have hm2 := Int.emod_lt_of_pos cell (show 0 < most by omega)
    refine ⟨_, rfl, _, rfl, _, _, rfl, rfl, ?_, ?_⟩
    · walk_at "div"
    refine ⟨_, rfl, _, rfl, ?_, fun l_3 nl_4 => ?_⟩
    · walk_at "rgok"
    have fr : Fr H _ [(l_3, (.lst (List.map V.int ((rangeI n_1))) : HO))] := (fr.new nl_4).cast (lst_rng _)
    refine ⟨(Evl.sz_of (show 0 ≤ 100000 by decide)), fun l_5 nl_6 => ?_⟩
    have fr : Fr H _ [(l_5, (.lst [] : HO)), (l_3, (.lst (List.map V.int ((rangeI n_1))) : HO))] := fr.new nl_6
    have fr : Fr H _ [(l_5, (.lst (List.map V.int ([])) : HO)), (l_3, (.lst (List.map V.int ((rangeI n_1))) : HO))] := fr
    refine ⟨_, rfl, _, rfl, ?_, ?_, ?_⟩
    · walk_at "side"
    · walk_at "side"
    refine for_it (walkR (n := (Int.toNat n_1))) (fun (i : Nat) σ H1 => ∃ (rest_7 : Int) (left_8 : List Int) (order_9 : List Int) (y_10 : Option V) (y_11 : Option V), σ = [some (V.int cell), some (V.int most), some (V.int n_1), some (V.int rest_7), some (V.ref l_3), some (V.ref l_5), y_10, y_11] ∧ Fr H H1 [(l_5, (.lst (List.map V.int order_9) : HO)), (l_3, (.lst (List.map V.int left_8) : HO))] ∧ (order_9.length = i) ∧ ((order_9 ++ left_8).Perm (upto (Int.toNat n_1))) ∧ ((left_8.length : Int) = n_1 - i)) ?_ ?_ ?_ ?_
    · refine ⟨(cell / most), (rangeI n_1), [], _, _, rfl, fr, ?_, ?_, ?_⟩
      · walk_at "inv"
      · exact List.Perm.refl _
      · simp [rangeI]; omega
    · rintro i σ H1 hi ⟨rest_7, left_8, order_9, y_10, y_11, rfl, fr, hl, hp, hll⟩
      exact trivial
    · rintro i_12 x_14 s_17 H_15 H_16 hi_13 ⟨rest_7, left_8, order_9, y_10, y_11, rfl, fr, hl, hp, hll⟩ ⟨rfl, rfl⟩
      have hmm1 := Int.emod_nonneg rest_7 (show (left_8.length : Int) ≠ 0 by omega); have hmm2 := Int.emod_lt_of_pos rest_7 (show 0 < (left_8.length : Int) by omega)
      refine ⟨_, rfl, _, rfl, _, _, _, rfl, (SqL.of fr.at1), (List.length_map _), _, _, rfl, rfl, ?_, ?_⟩
      · walk_at "side"
      refine ⟨_, rfl, _, rfl, _, _, _, rfl, (SqL.of fr.at1), (List.length_map _), _, _, rfl, rfl, ?_, ?_⟩
      · walk_at "div"
      refine ⟨fun σ H1 => ∃ (pick_18 : Int), σ = [some (V.int cell), some (V.int most), some (V.int n_1), some (V.int ((rest_7 / (left_8.length : Int)))), some (V.ref l_3), some (V.ref l_5), some (V.int ((i_12 : Int))), some (V.int pick_18)] ∧ Fr H H1 [(l_5, (.lst (List.map V.int order_9) : HO)), (l_3, (.lst (List.map V.int left_8) : HO))] ∧ (0 ≤ pick_18 ∧ pick_18 < (left_8.length : Int)), ?_, ?_⟩
      · refine ⟨_, rfl, _, rfl, _, _, 1000000000000000000, rfl, rfl, ⟨by decide, by decide, by decide⟩, (by decide), _, _, rfl, rfl, ?_, ?_⟩
        · intro h19
          refine ⟨_, rfl, ?_⟩
          refine iteT ?_
          refine ⟨_, rfl, _, rfl, cell, ((i_12 : Int)), rfl, ?_, fun H_20 mixed_21 hp_23 sm_22 => ?_⟩
          · walk_at "side"
          have fr : Fr H _ [(l_5, (.lst (List.map V.int order_9) : HO)), (l_3, (.lst (List.map V.int left_8) : HO))] := fr.call sm_22
          refine ⟨_, rfl, _, _, _, rfl, (SqL.of fr.at1), (List.length_map _), _, _, rfl, rfl, ?_, ?_⟩
          · walk_at "side"
          refine ⟨(mixed_21 % (left_8.length : Int)), rfl, fr, ?_⟩
          · first | exact ⟨hmm1, hmm2⟩ | exact ⟨Int.emod_nonneg _ (by omega), Int.emod_lt_of_pos _ (by omega)⟩
        · intro h19
          refine ⟨_, rfl, ?_⟩
          refine iteF ?_
          refine ⟨(rest_7 % (left_8.length : Int)), rfl, fr, ?_⟩
          · first | exact ⟨hmm1, hmm2⟩ | exact ⟨Int.emod_nonneg _ (by omega), Int.emod_lt_of_pos _ (by omega)⟩
      rintro s_25 H_24 ⟨pick_18, rfl, fr, hpk⟩
      refine ⟨_, rfl, (.inl ⟨rfl, _, (SqL.of fr.at0)⟩), _, rfl, (.inl ⟨rfl, _, (SqL.of fr.at1)⟩), _, rfl, _, _, _, _, _, rfl, rfl, fr.at1, ?_, ?_, (popix ?_ ?_), (popat 0 ?_), ?_⟩
      · walk_at "side"
      · walk_at "side"
      · walk_at "side"
      · walk_at "side"
      · walk_at "side"
      have fr : Fr H _ [(l_5, (.lst (List.map V.int order_9) : HO)), (l_3, (.lst (List.map V.int ((List.eraseIdx left_8 (Int.toNat pick_18)))) : HO))] := (Fr.wr1 fr).cs1 (lst_erase _ _ _)
      refine ⟨_, _, _, rfl, rfl, fr.at0, ?_, ?_⟩
      · walk_at "size"
      have fr : Fr H _ [(l_5, (.lst (List.map V.int ((order_9 ++ [(List.getD left_8 (Int.toNat pick_18) 0)]))) : HO)), (l_3, (.lst (List.map V.int ((List.eraseIdx left_8 (Int.toNat pick_18)))) : HO))] := (Fr.wr fr).cast (lst_app _ _ _)
      refine ⟨(rest_7 / (left_8.length : Int)), (List.eraseIdx left_8 (Int.toNat pick_18)), (order_9 ++ [(List.getD left_8 (Int.toNat pick_18) 0)]), _, _, rfl, fr, ?_, ?_, ?_⟩
      · walk_at "inv"
      · exact take_perm hp (by omega)
      · rw [List.length_eraseIdx, if_pos (by omega)]; omega
    rintro s_27 H_26 ⟨rest_7, left_8, order_9, y_10, y_11, rfl, fr, hl, hp, hll⟩
    refine ⟨_, rfl, ?_⟩
    exact q _ _ order_9 (by have := hp; have h0 : left_8 = [] := List.eq_nil_of_length_eq_zero (by omega); rw [h0, List.append_nil] at this; exact isOrd_of this) (by omega) fr.same fr.n0 fr.at0
def sp_law (K : PySem.W.Frag) : Sp := fun vs H Q _ => ∃ (a_script : Addr) (script : List Int), vs = [V.ref a_script] ∧ SqL K H a_script (List.map V.int script) ∧ (script.length ≤ 63) ∧ (∀ (H1 : Hp) (res : Bool), (res = true) → Same H H1 → Q (V.bl res) H1)
theorem sc_law : FnScope ["_law_script", "_law_k", "_law_cell"] ["_law_script"] (defScope s_law) := ⟨rfl, rfl, rfl, by decide +kernel, rfl, by decide +kernel, by decide +kernel⟩
theorem ok_law (T : Txt K mg) : FnOk P w K mg base CX0 4 T.f_law T.fd_law ["_law_script"] (sp_law K) := by
  refine T.F_law.ok sc_law (fun vs H Q E h => ?_) (fun cdv A outer s H vs Q E hr h => ?_)
  · obtain ⟨a_script, script, rfl, _⟩ := h; rfl
  · obtain ⟨a_script, script, rfl, h_script, pre0, q⟩ := h
    have fr := Fr.nil H
    refine ⟨_, (pss_cons (ps_for PassesOwn.never rfl (pi_range1 (by rfl) T.m_range (pa_cons (pe_op op_add (pe_callB (call_minI rfl) (by rfl) T.m_min (by decide +kernel) (pa_cons pe_int (pa_cons (pe_callB (show CallR _ _ (rLenL K) from call_lenL) (by rfl) T.m_len (by decide +kernel) (pa_cons (pv 0) pa_nil)) pa_nil))) pe_int) pa_nil)) (pg_name (i := 1) sc_law.nd rfl (Or.inl rfl)) (pss_cons (ps_set (i := 2) sc_law.nd rfl (Or.inl rfl) (pe_call (ok_law_cell_at T) (hr.mono (by decide)) (by rfl) T.g_law_cell_at T.F_law_cell_at.kp T.b_law_cell_at .nil pass0 (pa_cons (pv 0) (pa_cons (pv 1) pa_nil))))
          (pss_one (ps_if (pt_not (pt_valS (pe_call (ok_law_held T) (hr.mono (by decide)) (by rfl) T.g_law_held T.F_law_held.kp T.b_law_held .nil pass0 (pa_cons (pe_call (ok_law_order T) (hr.mono (by decide)) (by rfl) T.g_law_order T.F_law_order.kp T.b_law_order .nil pass0 (pa_cons (pv 2) (pa_cons (pe_ix (show IxR _ (rIxL K) from ix_list) (pe_lst (pa_cons pe_int (pa_cons pe_int pa_nil))) (pe_callB (call_minI rfl) (by rfl) T.m_min (by decide +kernel) (pa_cons pe_int (pa_cons (pe_op op_mod (pe_op op_fdiv (pv 2) pe_int) pe_int) pa_nil))) (fun _ _ => rfl)) pa_nil))) pa_nil)))) (pss_one (ps_ret pe_bl)) pss_nil))))
          (pss_one (ps_ret pe_bl))), ?_⟩
    refine ⟨_, rfl, _, _, _, rfl, (fr.same.seq h_script), (List.length_map _), _, _, rfl, _, _, rfl, rfl, _, rfl, ?_, ?_, ?_⟩
    · walk_at "side"
    · walk_at "side"
    refine for_it (walkR (n := (Int.toNat (((min 50 ((script.length : Int))) + 1))))) (fun (i : Nat) σ H1 => ∃ (y_1 : Option V) (y_2 : Option V), σ = [some (V.ref a_script), y_1, y_2] ∧ Fr H H1 []) ?_ ?_ ?_ ?_
    · refine ⟨_, _, rfl, fr⟩
    · rintro i σ H1 hi ⟨y_1, y_2, rfl, fr⟩
      exact trivial
    · rintro i_3 x_5 s_8 H_6 H_7 hi_4 ⟨y_1, y_2, rfl, fr⟩ ⟨rfl, rfl⟩
      refine ⟨_, rfl, _, rfl, a_script, script, ((i_3 : Int)), rfl, (fr.same.seq h_script), ?_, fun H_9 cell_at_10 hp_12 sm_11 => ?_⟩
      · walk_at "side"
      have fr : Fr H _ [] := fr.call sm_11
      refine ⟨_, rfl, (Evl.sz_of (show 2 ≤ 100000 by decide)), fun l_13 nl_14 => ?_⟩
      have fr : Fr H _ [(l_13, (.lst (List.map V.int ([60, 12])) : HO))] := fr.new nl_14
      refine ⟨_, rfl, _, _, rfl, rfl, ⟨by decide, by decide⟩, _, _, rfl, rfl, (show (0 : Int) < _ by decide), _, _, rfl, _, _, _, _, rfl, rfl, (SqL.of fr.at0), (atD 0 ?_ ?_), cell_at_10, ((List.getD ([60, 12]) (Int.toNat ((min 1 (((cell_at_10 / 5) % 8))))) 0)), rfl, ?_, fun H_15 p_20 order_16 hp_18 hp_19 sm_17 np_21 ep_22 => ?_⟩
      · first | omega | (simp only [List.length_cons, List.length_nil]; omega)
      · first | omega | (simp only [List.length_cons, List.length_nil]; omega)
      · exact pick60 _
      have fr : Fr H _ [(p_20, (.lst (List.map V.int order_16) : HO)), (l_13, (.lst (List.map V.int ([60, 12])) : HO))] := fr.cnew sm_17 np_21 ep_22
      have hpk := pick60 (cell_at_10 / 5)
      refine ⟨p_20, order_16, rfl, fr.at0, ?_, ?_, fun H_23 held_24 hp_26 sm_25 => ?_⟩
      · first | assumption | omega
      · first | assumption | omega
      have fr : Fr H _ [(p_20, (.lst (List.map V.int order_16) : HO)), (l_13, (.lst (List.map V.int ([60, 12])) : HO))] := fr.call sm_25
      subst hp_26
      refine ⟨_, rfl, fun _ => ?_, (fun h => nomatch h)⟩
      refine iteF ?_
      have fr := Fr.d0 fr
      have fr := Fr.d0 fr
      refine ⟨_, _, rfl, fr⟩
    rintro s_28 H_27 ⟨y_1, y_2, rfl, fr⟩
    exact q _ true (by rfl) fr.same
end
theorem all_mk {l : PySem.W.OpenLaw} {w : World} {K : PySem.W.Frag} {h : Heap} {mg : Str → Option Value} {fa : Addr} {flaw_cell_at : Addr} {odlaw_cell_at anlaw_cell_at : Option Addr} {sllaw_cell_at : Array (Option Value)} {oclaw_cell_at kVlaw_cell_at dclaw_cell_at pmlaw_cell_at cdlaw_cell_at ctlaw_cell_at : Value} {ffalls : Addr} {odfalls anfalls : Option Addr} {slfalls : Array (Option Value)} {ocfalls kVfalls dcfalls pmfalls cdfalls ctfalls : Value} {flaw_whole : Addr} {odlaw_whole anlaw_whole : Option Addr} {sllaw_whole : Array (Option Value)} {oclaw_whole kVlaw_whole dclaw_whole pmlaw_whole cdlaw_whole ctlaw_whole : Value} {fplaces : Addr} {odplaces anplaces : Option Addr} {slplaces : Array (Option Value)} {ocplaces kVplaces dcplaces pmplaces cdplaces ctplaces : Value} {fruns : Addr} {odruns anruns : Option Addr} {slruns : Array (Option Value)} {ocruns kVruns dcruns pmruns cdruns ctruns : Value} {flaw_fallen : Addr} {odlaw_fallen anlaw_fallen : Option Addr} {sllaw_fallen : Array (Option Value)} {oclaw_fallen kVlaw_fallen dclaw_fallen pmlaw_fallen cdlaw_fallen ctlaw_fallen : Value} {flaw_taken : Addr} {odlaw_taken anlaw_taken : Option Addr} {sllaw_taken : Array (Option Value)} {oclaw_taken kVlaw_taken dclaw_taken pmlaw_taken cdlaw_taken ctlaw_taken : Value} {flaw_held : Addr} {odlaw_held anlaw_held : Option Addr} {sllaw_held : Array (Option Value)} {oclaw_held kVlaw_held dclaw_held pmlaw_held cdlaw_held ctlaw_held : Value} {flaw_mixed : Addr} {odlaw_mixed anlaw_mixed : Option Addr} {sllaw_mixed : Array (Option Value)} {oclaw_mixed kVlaw_mixed dclaw_mixed pmlaw_mixed cdlaw_mixed ctlaw_mixed : Value} {flaw_order : Addr} {odlaw_order anlaw_order : Option Addr} {sllaw_order : Array (Option Value)} {oclaw_order kVlaw_order dclaw_order pmlaw_order cdlaw_order ctlaw_order : Value} {flaw : Addr} {odlaw anlaw : Option Addr} {sllaw : Array (Option Value)} {oclaw kVlaw dclaw pmlaw cdlaw ctlaw : Value} (X : K.In h) (G : h.Ns mainGlobals mg) (hfa : mg "law" = some (.ref fa))
    (alaw_cell_at : PySem.W.nsIn K mainGlobals "_law_cell_at" = some (some (.ref flaw_cell_at))) (llaw_cell_at : K.lookup flaw_cell_at = some ⟨oclaw_cell_at, odlaw_cell_at, .func (PySem.W.fnOf "_law_cell_at" "_law_cell_at" (defArgs s_law_cell_at) (defBody s_law_cell_at) (defScope s_law_cell_at) .none kVlaw_cell_at dclaw_cell_at pmlaw_cell_at anlaw_cell_at cdlaw_cell_at ctlaw_cell_at), sllaw_cell_at⟩) (claw_cell_at : PySem.W.codeIn K cdlaw_cell_at "_law_cell_at" = true) (klaw_cell_at : PySem.W.keepIn K (.ref flaw_cell_at) = true)
    (afalls : PySem.W.nsIn K mainGlobals "falls" = some (some (.ref ffalls))) (lfalls : K.lookup ffalls = some ⟨ocfalls, odfalls, .func (PySem.W.fnOf "falls" "falls" (defArgs s_falls) (defBody s_falls) (defScope s_falls) .none kVfalls dcfalls pmfalls anfalls cdfalls ctfalls), slfalls⟩) (cfalls : PySem.W.codeIn K cdfalls "falls" = true) (kfalls : PySem.W.keepIn K (.ref ffalls) = true)
    (alaw_whole : PySem.W.nsIn K mainGlobals "_law_whole" = some (some (.ref flaw_whole))) (llaw_whole : K.lookup flaw_whole = some ⟨oclaw_whole, odlaw_whole, .func (PySem.W.fnOf "_law_whole" "_law_whole" (defArgs s_law_whole) (defBody s_law_whole) (defScope s_law_whole) .none kVlaw_whole dclaw_whole pmlaw_whole anlaw_whole cdlaw_whole ctlaw_whole), sllaw_whole⟩) (claw_whole : PySem.W.codeIn K cdlaw_whole "_law_whole" = true) (klaw_whole : PySem.W.keepIn K (.ref flaw_whole) = true)
    (aplaces : PySem.W.nsIn K mainGlobals "places" = some (some (.ref fplaces))) (lplaces : K.lookup fplaces = some ⟨ocplaces, odplaces, .func (PySem.W.fnOf "places" "places" (defArgs s_places) (defBody s_places) (defScope s_places) .none kVplaces dcplaces pmplaces anplaces cdplaces ctplaces), slplaces⟩) (cplaces : PySem.W.codeIn K cdplaces "places" = true) (kplaces : PySem.W.keepIn K (.ref fplaces) = true)
    (aruns : PySem.W.nsIn K mainGlobals "runs" = some (some (.ref fruns))) (lruns : K.lookup fruns = some ⟨ocruns, odruns, .func (PySem.W.fnOf "runs" "runs" (defArgs s_runs) (defBody s_runs) (defScope s_runs) .none kVruns dcruns pmruns anruns cdruns ctruns), slruns⟩) (cruns : PySem.W.codeIn K cdruns "runs" = true) (kruns : PySem.W.keepIn K (.ref fruns) = true)
    (alaw_fallen : PySem.W.nsIn K mainGlobals "_law_fallen" = some (some (.ref flaw_fallen))) (llaw_fallen : K.lookup flaw_fallen = some ⟨oclaw_fallen, odlaw_fallen, .func (PySem.W.fnOf "_law_fallen" "_law_fallen" (defArgs s_law_fallen) (defBody s_law_fallen) (defScope s_law_fallen) .none kVlaw_fallen dclaw_fallen pmlaw_fallen anlaw_fallen cdlaw_fallen ctlaw_fallen), sllaw_fallen⟩) (claw_fallen : PySem.W.codeIn K cdlaw_fallen "_law_fallen" = true) (klaw_fallen : PySem.W.keepIn K (.ref flaw_fallen) = true)
    (alaw_taken : PySem.W.nsIn K mainGlobals "_law_taken" = some (some (.ref flaw_taken))) (llaw_taken : K.lookup flaw_taken = some ⟨oclaw_taken, odlaw_taken, .func (PySem.W.fnOf "_law_taken" "_law_taken" (defArgs s_law_taken) (defBody s_law_taken) (defScope s_law_taken) .none kVlaw_taken dclaw_taken pmlaw_taken anlaw_taken cdlaw_taken ctlaw_taken), sllaw_taken⟩) (claw_taken : PySem.W.codeIn K cdlaw_taken "_law_taken" = true) (klaw_taken : PySem.W.keepIn K (.ref flaw_taken) = true)
    (alaw_held : PySem.W.nsIn K mainGlobals "_law_held" = some (some (.ref flaw_held))) (llaw_held : K.lookup flaw_held = some ⟨oclaw_held, odlaw_held, .func (PySem.W.fnOf "_law_held" "_law_held" (defArgs s_law_held) (defBody s_law_held) (defScope s_law_held) .none kVlaw_held dclaw_held pmlaw_held anlaw_held cdlaw_held ctlaw_held), sllaw_held⟩) (claw_held : PySem.W.codeIn K cdlaw_held "_law_held" = true) (klaw_held : PySem.W.keepIn K (.ref flaw_held) = true)
    (alaw_mixed : PySem.W.nsIn K mainGlobals "_law_mixed" = some (some (.ref flaw_mixed))) (llaw_mixed : K.lookup flaw_mixed = some ⟨oclaw_mixed, odlaw_mixed, .func (PySem.W.fnOf "_law_mixed" "_law_mixed" (defArgs s_law_mixed) (defBody s_law_mixed) (defScope s_law_mixed) .none kVlaw_mixed dclaw_mixed pmlaw_mixed anlaw_mixed cdlaw_mixed ctlaw_mixed), sllaw_mixed⟩) (claw_mixed : PySem.W.codeIn K cdlaw_mixed "_law_mixed" = true) (klaw_mixed : PySem.W.keepIn K (.ref flaw_mixed) = true)
    (alaw_order : PySem.W.nsIn K mainGlobals "_law_order" = some (some (.ref flaw_order))) (llaw_order : K.lookup flaw_order = some ⟨oclaw_order, odlaw_order, .func (PySem.W.fnOf "_law_order" "_law_order" (defArgs s_law_order) (defBody s_law_order) (defScope s_law_order) .none kVlaw_order dclaw_order pmlaw_order anlaw_order cdlaw_order ctlaw_order), sllaw_order⟩) (claw_order : PySem.W.codeIn K cdlaw_order "_law_order" = true) (klaw_order : PySem.W.keepIn K (.ref flaw_order) = true)
    (alaw : PySem.W.nsIn K mainGlobals "law" = some (some (.ref flaw))) (llaw : K.lookup flaw = some ⟨oclaw, odlaw, .func (PySem.W.fnOf "law" "law" (defArgs s_law) (defBody s_law) (defScope s_law) .none kVlaw dclaw pmlaw anlaw cdlaw ctlaw), sllaw⟩) (claw : PySem.W.codeIn K cdlaw "law" = true) (klaw : PySem.W.keepIn K (.ref flaw) = true)
    (z_abs : PySem.W.nsIn K mainGlobals "abs" = some none)
    (z_bool : PySem.W.nsIn K mainGlobals "bool" = some none)
    (z_enumerate : PySem.W.nsIn K mainGlobals "enumerate" = some none)
    (z_int : PySem.W.nsIn K mainGlobals "int" = some none)
    (z_isinstance : PySem.W.nsIn K mainGlobals "isinstance" = some none)
    (z_len : PySem.W.nsIn K mainGlobals "len" = some none)
    (z_list : PySem.W.nsIn K mainGlobals "list" = some none)
    (z_min : PySem.W.nsIn K mainGlobals "min" = some none)
    (z_range : PySem.W.nsIn K mainGlobals "range" = some none)
    (z_reversed : PySem.W.nsIn K mainGlobals "reversed" = some none) :
    ∃ fd : FuncData, (∀ (s : Shared) (v : Value), BindsTo s fd ⟨[v], []⟩ [("_law_script", v)]) ∧ ∀ base : Heap, K.In base → base.Ns mainGlobals mg → FnOk l.prog w K mg base CX0 4 fa fd ["_law_script"] (sp_law K) := by
  have e := hfa.symm.trans (PySem.W.mg_of X G alaw)
  cases e
  exact ⟨PySem.W.fnOf "law" "law" (defArgs s_law) (defBody s_law) (defScope s_law) .none kVlaw dclaw pmlaw anlaw cdlaw ctlaw, fun s v => .of_eq rfl, fun base _ _ => ok_law (P := l.prog) (w := w) (base := base) (K := K) (mg := mg) { f_law_cell_at := flaw_cell_at, fd_law_cell_at := _, F_law_cell_at := fun_mk (st := s_law_cell_at) llaw_cell_at claw_cell_at klaw_cell_at, g_law_cell_at := PySem.W.mg_of X G alaw_cell_at, b_law_cell_at := ((fun_mk (st := s_law_cell_at) llaw_cell_at claw_cell_at klaw_cell_at).binds (ps := ["_law_script", "_law_k"]) (fun _ _ _ _ _ _ us hl => match us, hl with | [_, _], _ => rfl)), f_falls := ffalls, fd_falls := _, F_falls := fun_mk (st := s_falls) lfalls cfalls kfalls, g_falls := PySem.W.mg_of X G afalls, b_falls := ((fun_mk (st := s_falls) lfalls cfalls kfalls).binds (ps := ["order"]) (fun _ _ _ _ _ _ us hl => match us, hl with | [_], _ => rfl)), f_law_whole := flaw_whole, fd_law_whole := _, F_law_whole := fun_mk (st := s_law_whole) llaw_whole claw_whole klaw_whole, g_law_whole := PySem.W.mg_of X G alaw_whole, b_law_whole := ((fun_mk (st := s_law_whole) llaw_whole claw_whole klaw_whole).binds (ps := ["_law_said", "_law_due"]) (fun _ _ _ _ _ _ us hl => match us, hl with | [_, _], _ => rfl)), f_places := fplaces, fd_places := _, F_places := fun_mk (st := s_places) lplaces cplaces kplaces, g_places := PySem.W.mg_of X G aplaces, b_places := ((fun_mk (st := s_places) lplaces cplaces kplaces).binds (ps := ["order"]) (fun _ _ _ _ _ _ us hl => match us, hl with | [_], _ => rfl)), f_runs := fruns, fd_runs := _, F_runs := fun_mk (st := s_runs) lruns cruns kruns, g_runs := PySem.W.mg_of X G aruns, b_runs := ((fun_mk (st := s_runs) lruns cruns kruns).binds (ps := ["order"]) (fun _ _ _ _ _ _ us hl => match us, hl with | [_], _ => rfl)), f_law_fallen := flaw_fallen, fd_law_fallen := _, F_law_fallen := fun_mk (st := s_law_fallen) llaw_fallen claw_fallen klaw_fallen, g_law_fallen := PySem.W.mg_of X G alaw_fallen, b_law_fallen := ((fun_mk (st := s_law_fallen) llaw_fallen claw_fallen klaw_fallen).binds (ps := ["_law_order_here"]) (fun _ _ _ _ _ _ us hl => match us, hl with | [_], _ => rfl)), f_law_taken := flaw_taken, fd_law_taken := _, F_law_taken := fun_mk (st := s_law_taken) llaw_taken claw_taken klaw_taken, g_law_taken := PySem.W.mg_of X G alaw_taken, b_law_taken := ((fun_mk (st := s_law_taken) llaw_taken claw_taken klaw_taken).binds (ps := ["_law_order_here"]) (fun _ _ _ _ _ _ us hl => match us, hl with | [_], _ => rfl)), f_law_held := flaw_held, fd_law_held := _, F_law_held := fun_mk (st := s_law_held) llaw_held claw_held klaw_held, g_law_held := PySem.W.mg_of X G alaw_held, b_law_held := ((fun_mk (st := s_law_held) llaw_held claw_held klaw_held).binds (ps := ["_law_order_here"]) (fun _ _ _ _ _ _ us hl => match us, hl with | [_], _ => rfl)), f_law_mixed := flaw_mixed, fd_law_mixed := _, F_law_mixed := fun_mk (st := s_law_mixed) llaw_mixed claw_mixed klaw_mixed, g_law_mixed := PySem.W.mg_of X G alaw_mixed, b_law_mixed := ((fun_mk (st := s_law_mixed) llaw_mixed claw_mixed klaw_mixed).binds (ps := ["_law_cell", "_law_k"]) (fun _ _ _ _ _ _ us hl => match us, hl with | [_, _], _ => rfl)), f_law_order := flaw_order, fd_law_order := _, F_law_order := fun_mk (st := s_law_order) llaw_order claw_order klaw_order, g_law_order := PySem.W.mg_of X G alaw_order, b_law_order := ((fun_mk (st := s_law_order) llaw_order claw_order klaw_order).binds (ps := ["_law_cell", "_law_most"]) (fun _ _ _ _ _ _ us hl => match us, hl with | [_, _], _ => rfl)), f_law := fa, fd_law := _, F_law := fun_mk (st := s_law) llaw claw klaw, g_law := PySem.W.mg_of X G alaw, b_law := ((fun_mk (st := s_law) llaw claw klaw).binds (ps := ["_law_script"]) (fun _ _ _ _ _ _ us hl => match us, hl with | [_], _ => rfl)), m_abs := PySem.W.mg_none_of X G z_abs, m_bool := PySem.W.mg_none_of X G z_bool, m_enumerate := PySem.W.mg_none_of X G z_enumerate, m_int := PySem.W.mg_none_of X G z_int, m_isinstance := PySem.W.mg_none_of X G z_isinstance, m_len := PySem.W.mg_none_of X G z_len, m_list := PySem.W.mg_none_of X G z_list, m_min := PySem.W.mg_none_of X G z_min, m_range := PySem.W.mg_none_of X G z_range, m_reversed := PySem.W.mg_none_of X G z_reversed }⟩
end Rc
open PySem PySem.W PyProof.Rows
set_option maxHeartbeats 0 in
theorem PySem.Challenge.cw_riftcarry_k03_falls_and_runs_holds : PySem.Challenge.rw_riftcarry_k03_falls_and_runs.Holds := by
  w_on; o_law; k_head; (case hw => w_witness2)
  k_fill
  refine L2.walk_of (l := PySem.Challenge.rw_riftcarry_k03_falls_and_runs) (n := 63) (k := 4) (x := "_law_script") (CX := fun _ => L2.CX0) (sp := fun w => Rc.sp_law _) rfl (by decide) rfl ⟨rfl, by decide, by decide⟩ (fun w h Y => PySem.W.kIn_of Y) ?F (fun _ _ a ns hl _ hS => ⟨a, ns, rfl, hS, hl, fun _ _ e _ => by rw [e]⟩) (fun _ _ _ _ _ h => h)
  case F =>
    intro w mg fa h KX G hmg
    refine' Rc.all_mk KX G hmg ?alaw_cell_at ?llaw_cell_at ?claw_cell_at ?klaw_cell_at ?afalls ?lfalls ?cfalls ?kfalls ?alaw_whole ?llaw_whole ?claw_whole ?klaw_whole ?aplaces ?lplaces ?cplaces ?kplaces ?aruns ?lruns ?cruns ?kruns ?alaw_fallen ?llaw_fallen ?claw_fallen ?klaw_fallen ?alaw_taken ?llaw_taken ?claw_taken ?klaw_taken ?alaw_held ?llaw_held ?claw_held ?klaw_held ?alaw_mixed ?llaw_mixed ?claw_mixed ?klaw_mixed ?alaw_order ?llaw_order ?claw_order ?klaw_order ?alaw ?llaw ?claw ?klaw ?z_abs ?z_bool ?z_enumerate ?z_int ?z_isinstance ?z_len ?z_list ?z_min ?z_range ?z_reversed
    (case alaw_cell_at => k_is); (case llaw_cell_at => k_is); (case claw_cell_at => k_is); (case klaw_cell_at => k_is); (case afalls => k_is); (case lfalls => k_is); (case cfalls => k_is); (case kfalls => k_is); (case alaw_whole => k_is); (case llaw_whole => k_is); (case claw_whole => k_is); (case klaw_whole => k_is); (case aplaces => k_is); (case lplaces => k_is); (case cplaces => k_is); (case kplaces => k_is); (case aruns => k_is); (case lruns => k_is); (case cruns => k_is); (case kruns => k_is); (case alaw_fallen => k_is); (case llaw_fallen => k_is); (case claw_fallen => k_is); (case klaw_fallen => k_is); (case alaw_taken => k_is); (case llaw_taken => k_is); (case claw_taken => k_is); (case klaw_taken => k_is); (case alaw_held => k_is); (case llaw_held => k_is); (case claw_held => k_is); (case klaw_held => k_is); (case alaw_mixed => k_is); (case llaw_mixed => k_is); (case claw_mixed => k_is); (case klaw_mixed => k_is); (case alaw_order => k_is); (case llaw_order => k_is); (case claw_order => k_is); (case klaw_order => k_is); (case alaw => k_is); (case llaw => k_is); (case claw => k_is); (case klaw => k_is); (case z_abs => k_is); (case z_bool => k_is); (case z_enumerate => k_is); (case z_int => k_is); (case z_isinstance => k_is); (case z_len => k_is); (case z_list => k_is); (case z_min => k_is); (case z_range => k_is); (case z_reversed => k_is)
