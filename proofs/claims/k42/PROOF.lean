import PyProof.Rows.All
import Wide.All
import OpenK.AllK
import Wide.FinOn
import HandS.ForMost
import HandS.IsInst
import HandS.Conv
import HandS.Wide
import HandS.WideBits
import HandS.Evl
import HandS.Walk
import HandS.SortInts
import HandS.SetFor
import HandS.Style
import HandS.Rev
import HandS.RevTup
import HandS.ForExc
import HandS.ExcIs
import HandS.HotCalls
import PyProof.Rows.CountFlat
import HandS.ExcOwn
import PySem.Challenge.RW_riftcarry_k42_whole_the_one_riffle
set_option Elab.async false
set_option linter.all false
set_option maxRecDepth 100000
set_option maxHeartbeats 4000000
namespace Rc
open PySem PySem.Spec PyProof.Rows L2

/-! frames: H grew out of H0; own lists the objects that are new since then -/
structure Fr (H0 H : Hp) (own : List (Addr × HO)) : Prop where
  same : Same H0 H
  frs : ∀ p ∈ own, H0 p.1 = none ∧ H p.1 = some p.2
  nd : (own.map (·.1)).Nodup

section
variable {H0 H H' : Hp} {own : List (Addr × HO)} {p q r t : Addr} {o o' u v x : HO}
theorem same_new (h : H p = none) : Same H (upd H p o) := fun b x e => by
  rw [upd_ne (ne_of_none e h)]; exact e
theorem Fr.nil (H : Hp) : Fr H H [] := ⟨Same.refl H, (fun _ h => nomatch h), List.nodup_nil⟩
theorem Fr.fresh (f : Fr H0 H own) (h : H p = none) : H0 p = none := f.same.free h
theorem Fr.notin (f : Fr H0 H own) (h : H p = none) : p ∉ own.map (·.1) := fun hm => by
  obtain ⟨z, hz, rfl⟩ := List.mem_map.mp hm
  rw [(f.frs z hz).2] at h; cases h
theorem Fr.call (f : Fr H0 H own) (s : Same H H') : Fr H0 H' own :=
  ⟨f.same.trans s, fun z hz => ⟨(f.frs z hz).1, s _ _ (f.frs z hz).2⟩, f.nd⟩
theorem Fr.cnew (f : Fr H0 H own) (s : Same H H') (h : H p = none) (e : H' p = some o) : Fr H0 H' ((p, o) :: own) :=
  ⟨f.same.trans s, fun z hz => by
    rcases List.mem_cons.mp hz with rfl | hz
    · exact ⟨f.fresh h, e⟩
    · exact ⟨(f.frs z hz).1, s _ _ (f.frs z hz).2⟩, List.nodup_cons.mpr ⟨f.notin h, f.nd⟩⟩
theorem Fr.new (f : Fr H0 H own) (h : H p = none) : Fr H0 (upd H p o) ((p, o) :: own) := f.cnew (same_new h) h upd_same
theorem Fr.tmp (f : Fr H0 H own) (h : H p = none) : Fr H0 (upd H p o) own := f.call (same_new h)
theorem Fr.sub {own' : List (Addr × HO)} (f : Fr H0 H own) (h : own'.Sublist own) : Fr H0 H own' :=
  ⟨f.same, fun z hz => f.frs z (h.subset hz), f.nd.sublist (h.map _)⟩
theorem Fr.perm {own' : List (Addr × HO)} (f : Fr H0 H own) (h : own.Perm own') : Fr H0 H own' :=
  ⟨f.same, fun z hz => f.frs z (h.mem_iff.mpr hz), (h.map _).nodup_iff.mp f.nd⟩
theorem Fr.mem (f : Fr H0 H own) (h : (p, o) ∈ own) : H p = some o := (f.frs _ h).2
theorem Fr.wr (f : Fr H0 H ((p, o) :: own)) : Fr H0 (upd H p o') ((p, o') :: own) := by
  have hn := List.nodup_cons.mp f.nd
  refine ⟨fun b z e => ?_, fun z hz => ?_, f.nd⟩
  · have : b ≠ p := fun h => by subst h; rw [(f.frs (b, o) List.mem_cons_self).1] at e; cases e
    rw [upd_ne this]; exact f.same _ _ e
  · rcases List.mem_cons.mp hz with rfl | hz
    · exact ⟨(f.frs (p, o) List.mem_cons_self).1, upd_same⟩
    · have : z.1 ≠ p := fun h => hn.1 (List.mem_map.mpr ⟨z, hz, h⟩)
      rw [upd_ne this]
      exact f.frs z (List.mem_cons_of_mem _ hz)
theorem Fr.cast (f : Fr H0 H ((p, o) :: own)) (e : o = o') : Fr H0 H ((p, o') :: own) := e ▸ f
/-- bring the k-th to the front, and back -/
theorem Fr.up1 {a b : Addr × HO} (f : Fr H0 H (a :: b :: own)) : Fr H0 H (b :: a :: own) := f.perm (List.Perm.swap _ _ _)
theorem Fr.up2 {a b c : Addr × HO} (f : Fr H0 H (a :: b :: c :: own)) : Fr H0 H (c :: a :: b :: own) :=
  f.perm ((List.Perm.swap c b own).cons a |>.trans (List.Perm.swap c a (b :: own)))
theorem Fr.up3 {a b c d : Addr × HO} (f : Fr H0 H (a :: b :: c :: d :: own)) : Fr H0 H (d :: a :: b :: c :: own) :=
  f.perm (((List.Perm.swap d c own).cons b |>.trans (List.Perm.swap d b (c :: own))).cons a |>.trans (List.Perm.swap d a (b :: c :: own)))
theorem Fr.dn1 {a b : Addr × HO} (f : Fr H0 H (b :: a :: own)) : Fr H0 H (a :: b :: own) := f.up1
theorem Fr.dn2 {a b c : Addr × HO} (f : Fr H0 H (c :: a :: b :: own)) : Fr H0 H (a :: b :: c :: own) := f.up1.perm ((List.Perm.swap _ _ _).cons _)
theorem Fr.dn3 {a b c d : Addr × HO} (f : Fr H0 H (d :: a :: b :: c :: own)) : Fr H0 H (a :: b :: c :: d :: own) :=
  f.up1.perm (((List.Perm.swap _ _ _).trans ((List.Perm.swap _ _ _).cons _)).cons _)
theorem Fr.at0 (f : Fr H0 H ((p, o) :: own)) : H p = some o := f.mem List.mem_cons_self
theorem Fr.at1 {a : Addr × HO} (f : Fr H0 H (a :: (p, o) :: own)) : H p = some o := f.up1.at0
theorem Fr.at2 {a b : Addr × HO} (f : Fr H0 H (a :: b :: (p, o) :: own)) : H p = some o := f.up2.at0
theorem Fr.at3 {a b c : Addr × HO} (f : Fr H0 H (a :: b :: c :: (p, o) :: own)) : H p = some o := f.up3.at0
theorem Fr.at4 {a b c d : Addr × HO} (f : Fr H0 H (a :: b :: c :: d :: (p, o) :: own)) : H p = some o := (f.sub (List.sublist_cons_self _ _)).at3
theorem Fr.at5 {a b c d e : Addr × HO} (f : Fr H0 H (a :: b :: c :: d :: e :: (p, o) :: own)) : H p = some o := (f.sub (List.sublist_cons_self _ _)).at4
theorem Fr.d0 {a : Addr × HO} (f : Fr H0 H (a :: own)) : Fr H0 H own := f.sub (List.sublist_cons_self _ _)
theorem Fr.d1 {a b : Addr × HO} (f : Fr H0 H (a :: b :: own)) : Fr H0 H (a :: own) := f.up1.d0
theorem Fr.d2 {a b c : Addr × HO} (f : Fr H0 H (a :: b :: c :: own)) : Fr H0 H (a :: b :: own) := f.up2.d0
theorem Fr.d3 {a b c d : Addr × HO} (f : Fr H0 H (a :: b :: c :: d :: own)) : Fr H0 H (a :: b :: c :: own) := f.up3.d0
theorem Fr.wr1 {a : Addr × HO} (f : Fr H0 H (a :: (p, o) :: own)) : Fr H0 (upd H p o') (a :: (p, o') :: own) := f.up1.wr.dn1
theorem Fr.wr2 {a b : Addr × HO} (f : Fr H0 H (a :: b :: (p, o) :: own)) : Fr H0 (upd H p o') (a :: b :: (p, o') :: own) := f.up2.wr.dn2
theorem Fr.wr3 {a b c : Addr × HO} (f : Fr H0 H (a :: b :: c :: (p, o) :: own)) : Fr H0 (upd H p o') (a :: b :: c :: (p, o') :: own) := f.up3.wr.dn3
theorem Fr.cs1 {a : Addr × HO} (f : Fr H0 H (a :: (p, o) :: own)) (e : o = o') : Fr H0 H (a :: (p, o') :: own) := e ▸ f
theorem Fr.cs2 {a b : Addr × HO} (f : Fr H0 H (a :: b :: (p, o) :: own)) (e : o = o') : Fr H0 H (a :: b :: (p, o') :: own) := e ▸ f
theorem Fr.cs3 {a b c : Addr × HO} (f : Fr H0 H (a :: b :: c :: (p, o) :: own)) (e : o = o') : Fr H0 H (a :: b :: c :: (p, o') :: own) := e ▸ f
end

/-! contents -/
theorem app_map {α β : Type} (f : α → β) (xs : List α) (y : α) : xs.map f ++ [f y] = (xs ++ [y]).map f := by simp
theorem set_map' {α β : Type} (f : α → β) (xs : List α) (j : Nat) (y : α) : (xs.map f).set j (f y) = (xs.set j y).map f := by rw [List.map_set]
theorem lst_app {α : Type} (f : α → V) (xs : List α) (y : α) : HO.lst (xs.map f ++ [f y]) = .lst ((xs ++ [y]).map f) := by rw [app_map]
theorem lst_set {α : Type} (f : α → V) (xs : List α) (j : Nat) (y : α) : HO.lst ((xs.map f).set j (f y)) = .lst ((xs.set j y).map f) := by rw [set_map']
theorem lst_rev {α : Type} (f : α → V) (xs : List α) : HO.lst ((xs.map f).reverse) = .lst (xs.reverse.map f) := by rw [List.map_reverse]
theorem lst_cat {α : Type} (f : α → V) (xs ys : List α) : HO.lst (xs.map f ++ ys.map f) = .lst ((xs ++ ys).map f) := by rw [List.map_append]
theorem lst_rep {α : Type} (f : α → V) (xs : List α) (k : Nat) : HO.lst (List.replicate k (xs.map f)).flatten = .lst ((List.replicate k xs).flatten.map f) := by
  rw [List.map_flatten, List.map_replicate]
theorem erase_map' {α β : Type} (f : α → β) : ∀ (xs : List α) (k : Nat), (xs.map f).eraseIdx k = (xs.eraseIdx k).map f
  | [], _ => rfl
  | _ :: _, 0 => rfl
  | x :: xs, k + 1 => by
    show f x :: (xs.map f).eraseIdx k = f x :: (xs.eraseIdx k).map f
    rw [erase_map' f xs k]
theorem lst_erase {α : Type} (f : α → V) (xs : List α) (k : Nat) : HO.lst ((xs.map f).eraseIdx k) = .lst ((xs.eraseIdx k).map f) := by rw [erase_map']
theorem lst_dl {α : Type} (f : α → V) (xs : List α) : HO.lst ((xs.map f).dropLast) = .lst (xs.dropLast.map f) := by rw [List.map_dropLast]
theorem lst_rep1 {α : Type} (f : α → V) (x : α) (k : Nat) : HO.lst (List.replicate k [f x]).flatten = .lst ((List.replicate k x).map f) := by
  rw [List.map_replicate]; congr 1
  induction k with
  | zero => rfl
  | succ k ih => rw [List.replicate_succ, List.flatten_cons, ih]; rfl
/-- a slice with step one -/
def cutL {α : Type} (xs : List α) (lo hi : Option Int) : List α :=
  (xs.drop (HT.sIx xs.length 0 lo)).take (HT.sIx xs.length xs.length hi - HT.sIx xs.length 0 lo)
theorem lst_cut {α : Type} (f : α → V) (xs : List α) (lo hi : Option Int) : HO.lst (cutV (xs.map f) lo hi) = .lst ((cutL xs lo hi).map f) := by
  unfold cutV cutL; rw [List.length_map, List.map_take, List.map_drop]
theorem cutL_length {α : Type} (xs : List α) (lo hi : Option Int) : (cutL xs lo hi).length = min (HT.sIx xs.length xs.length hi - HT.sIx xs.length 0 lo) (xs.length - HT.sIx xs.length 0 lo) := by
  unfold cutL; rw [List.length_take, List.length_drop]
theorem rgV_eq (a b : Int) : rgV a b = ((List.range (b - a).toNat).map fun i : Nat => a + (i : Int)).map V.int := by
  unfold rgV; rw [List.map_map]; rfl
def rangeI (n : Int) : List Int := (List.range n.toNat).map fun i : Nat => (i : Int)
theorem lst_rng (n : Int) : HO.lst (rgV 0 n) = .lst ((rangeI n).map V.int) := by
  rw [rgV_eq]; unfold rangeI; congr 2; simp
theorem atD {α : Type} {f : α → V} {xs : List α} {i : Int} (d : α) (h0 : 0 ≤ i) (h1 : i < (xs.length : Int)) : atI (xs.map f) i = some (f (xs.getD i.toNat d)) := by
  obtain ⟨n, rfl⟩ := Int.eq_ofNat_of_zero_le h0
  have hn : n < xs.length := by omega
  refine atI_nat ?_
  rw [List.getElem?_map, List.getElem?_eq_getElem hn]
  simp [List.getD, hn]
theorem ixD {n : Nat} {i : Int} (h0 : 0 ≤ i) (h1 : i < (n : Int)) : ixN n i = some i.toNat := by
  unfold ixN; rw [if_pos h0, if_pos h1]
theorem atLast {α : Type} {f : α → V} {xs : List α} (d : α) (h : 0 < xs.length) : atI (xs.map f) (-1) = some (f (xs.getLastD d)) := by
  have hne : xs ≠ [] := fun z => by subst z; cases h
  have e : xs.map f = xs.dropLast.map f ++ [f (xs.getLast hne)] := by
    rw [← List.map_singleton, ← List.map_append, List.dropLast_concat_getLast]
  rw [e, atI_last, List.getLastD_eq_getLast?, List.getLast?_eq_some_getLast hne]; rfl
theorem getD_mem {α : Type} {xs : List α} {i : Nat} {d : α} (h : i < xs.length) : xs.getD i d ∈ xs := by
  simp [List.getD, h]

/-! tests -/
theorem iteD {c : Prop} [Decidable c] {A B : Prop} (h1 : c → A) (h2 : ¬ c → B) : if decide c = true then A else B := by
  by_cases h : c
  · rw [if_pos (decide_eq_true h)]; exact h1 h
  · rw [if_neg (by rw [decide_eq_false h]; exact Bool.false_ne_true)]; exact h2 h
theorem iteN {c : Prop} [Decidable c] {A B : Prop} (h1 : ¬ c → A) (h2 : c → B) : if (!decide c) = true then A else B := by
  by_cases h : c
  · rw [if_neg (by rw [decide_eq_true h]; exact Bool.false_ne_true)]; exact h2 h
  · rw [if_pos (by rw [decide_eq_false h]; rfl)]; exact h1 h
theorem iteB {b : Bool} {A B : Prop} (h1 : b = true → A) (h2 : b = false → B) : if b = true then A else B := by
  cases b with
  | true => exact iteT (h1 rfl)
  | false => exact iteF (h2 rfl)
theorem iteBT {b : Bool} {A B : Prop} (h : b = true) (h1 : A) : if b = true then A else B := by subst h; exact iteT h1
theorem iteBF {b : Bool} {A B : Prop} (h : b = false) (h1 : B) : if b = true then A else B := by subst h; exact iteF h1

/-! operators by values, in handy forms -/
section
variable {X : Cx}
theorem op_eqB : OpR X (compareOp .Eq) (fun x y H Q => ∃ a b : Bool, x = .bl a ∧ y = .bl b ∧ Q (.bl (a == b)) H) := by
  intro pins s σ H x y v u Q I rx ry h
  obtain ⟨a, b, rfl, rfl, q⟩ := h
  refine op_eq pins s σ H _ _ v u Q I rx ry ⟨rfl, ?_⟩
  have : decide (V.bl a = V.bl b) = (a == b) := by cases a <;> cases b <;> rfl
  rw [this]; exact q
theorem op_neB : OpR X (compareOp .NotEq) (fun x y H Q => ∃ a b : Bool, x = .bl a ∧ y = .bl b ∧ Q (.bl (a != b)) H) := by
  intro pins s σ H x y v u Q I rx ry h
  obtain ⟨a, b, rfl, rfl, q⟩ := h
  refine op_ne pins s σ H _ _ v u Q I rx ry ⟨rfl, ?_⟩
  have : (!decide (V.bl a = V.bl b)) = (a != b) := by cases a <;> cases b <;> rfl
  rw [this]; exact q
def rLenL (K : PySem.W.Frag) : List V → Hp → VK → Prop := fun xs H Q => ∃ p n ys, xs = [.ref p] ∧ SqL K H p ys ∧ ys.length = n ∧ Q (.int (n : Nat)) H
theorem call_lenL : CallR X (.builtin "len") (rLenL X.K) := by
  intro pins s σ H xs us Q I r h
  obtain ⟨p, n, ys, rfl, hp, rfl, q⟩ := h
  exact call_len_seq pins s σ H _ us Q I r ⟨p, ys, rfl, .inl hp, q⟩
def rLenT (K : PySem.W.Frag) : List V → Hp → VK → Prop := fun xs H Q => ∃ p n ys, xs = [.ref p] ∧ SqT K H p ys ∧ ys.length = n ∧ Q (.int (n : Nat)) H
theorem call_lenT : CallR X (.builtin "len") (rLenT X.K) := by
  intro pins s σ H xs us Q I r h
  obtain ⟨p, n, ys, rfl, hp, rfl, q⟩ := h
  exact call_len_seq pins s σ H _ us Q I r ⟨p, ys, rfl, .inr hp, q⟩
def rListL (K : PySem.W.Frag) : List V → Hp → VK → Prop := fun xs H Q => ∃ p ys, xs = [.ref p] ∧ (SqL K H p ys ∨ SqT K H p ys) ∧ ∀ l, H l = none → Q (.ref l) (upd H l (.lst ys))
theorem call_listL : CallR X (.type "list") (rListL X.K) := call_list_of
theorem call_minI (hc : X.calm = true) : CallR X (.builtin "min") (fun xs H Q => ∃ i j : Int, xs = [.int i, .int j] ∧ Q (.int (min i j)) H) := by
  intro pins s σ H xs us Q I r h
  obtain ⟨i, j, rfl, q⟩ := h
  refine call_min2 hc pins s σ H _ us Q I r ⟨i, j, rfl, ?_⟩
  have : (if j < i then j else i) = min i j := by
    by_cases h : j < i
    · rw [if_pos h]; omega
    · rw [if_neg h]; omega
  rw [this]; exact q
theorem call_maxI (hc : X.calm = true) : CallR X (.builtin "max") (fun xs H Q => ∃ i j : Int, xs = [.int i, .int j] ∧ Q (.int (max i j)) H) := by
  intro pins s σ H xs us Q I r h
  obtain ⟨i, j, rfl, q⟩ := h
  refine call_max2 hc pins s σ H _ us Q I r ⟨i, j, rfl, ?_⟩
  have : (if j > i then j else i) = max i j := by
    by_cases h : j > i
    · rw [if_pos h]; omega
    · rw [if_neg h]; omega
  rw [this]; exact q
theorem call_absI : CallR X (.builtin "abs") (fun xs H Q => ∃ i : Int, xs = [.int i] ∧ Q (.int (i.natAbs : Nat)) H) := by
  intro pins s σ H xs us Q I r h
  obtain ⟨i, rfl, q⟩ := h
  refine call_abs pins s σ H _ us Q I r ⟨i, rfl, ?_⟩
  have : (if i < 0 then -i else i) = (i.natAbs : Int) := by
    by_cases h : i < 0
    · rw [if_pos h]; omega
    · rw [if_neg h]; omega
  rw [this]; exact q
theorem pe_bmK {K : PySem.W.Frag} {e : Expr} {T : String} {r : V → List V → Hp → VK → Prop} {to : TE} {t : TA} (h : PE X e (tBM X.K T r to t)) (hk : X.K = K := by rfl) : PE X e (tBM K T r to t) := by subst hk; exact h
/-- comparisons, told in two ways -/
theorem op_ltS : OpR X (compareOp .Lt) (fun x y H Q => ∃ i j : Int, x = .int i ∧ y = .int j ∧ (i < j → Q (.bl true) H) ∧ (¬ i < j → Q (.bl false) H)) := by
  intro pins s σ H x y v u Q I rx ry h
  obtain ⟨i, j, rfl, rfl, q1, q2⟩ := h
  refine op_lt pins s σ H _ _ v u Q I rx ry ⟨i, j, rfl, rfl, ?_⟩
  show Q (V.bl (decide (i < j))) H
  by_cases h : i < j
  · rw [decide_eq_true h]; exact q1 h
  · rw [decide_eq_false h]; exact q2 h
theorem op_leS : OpR X (compareOp .LtE) (fun x y H Q => ∃ i j : Int, x = .int i ∧ y = .int j ∧ (i ≤ j → Q (.bl true) H) ∧ (¬ i ≤ j → Q (.bl false) H)) := by
  intro pins s σ H x y v u Q I rx ry h
  obtain ⟨i, j, rfl, rfl, q1, q2⟩ := h
  refine op_le pins s σ H _ _ v u Q I rx ry ⟨i, j, rfl, rfl, ?_⟩
  show Q (V.bl (decide (i ≤ j))) H
  by_cases h : i ≤ j
  · rw [decide_eq_true h]; exact q1 h
  · rw [decide_eq_false h]; exact q2 h
theorem op_gtS : OpR X (compareOp .Gt) (fun x y H Q => ∃ i j : Int, x = .int i ∧ y = .int j ∧ (j < i → Q (.bl true) H) ∧ (¬ j < i → Q (.bl false) H)) := by
  intro pins s σ H x y v u Q I rx ry h
  obtain ⟨i, j, rfl, rfl, q1, q2⟩ := h
  refine op_gt pins s σ H _ _ v u Q I rx ry ⟨i, j, rfl, rfl, ?_⟩
  show Q (V.bl (decide (j < i))) H
  by_cases h : j < i
  · rw [decide_eq_true h]; exact q1 h
  · rw [decide_eq_false h]; exact q2 h
theorem op_geS : OpR X (compareOp .GtE) (fun x y H Q => ∃ i j : Int, x = .int i ∧ y = .int j ∧ (j ≤ i → Q (.bl true) H) ∧ (¬ j ≤ i → Q (.bl false) H)) := by
  intro pins s σ H x y v u Q I rx ry h
  obtain ⟨i, j, rfl, rfl, q1, q2⟩ := h
  refine op_ge pins s σ H _ _ v u Q I rx ry ⟨i, j, rfl, rfl, ?_⟩
  show Q (V.bl (decide (j ≤ i))) H
  by_cases h : j ≤ i
  · rw [decide_eq_true h]; exact q1 h
  · rw [decide_eq_false h]; exact q2 h
theorem int_dec {i j : Int} : decide (V.int i = V.int j) = decide (i = j) := by
  by_cases h : i = j
  · subst h; rw [decide_eq_true rfl, decide_eq_true rfl]
  · rw [decide_eq_false h, decide_eq_false fun z => h (V.int.inj z)]
theorem op_eqS : OpR X (compareOp .Eq) (fun x y H Q => ∃ i j : Int, x = .int i ∧ y = .int j ∧ (i = j → Q (.bl true) H) ∧ (¬ i = j → Q (.bl false) H)) := by
  intro pins s σ H x y v u Q I rx ry h
  obtain ⟨i, j, rfl, rfl, q1, q2⟩ := h
  refine op_eq pins s σ H _ _ v u Q I rx ry ⟨rfl, ?_⟩
  rw [int_dec]
  by_cases h : i = j
  · rw [decide_eq_true h]; exact q1 h
  · rw [decide_eq_false h]; exact q2 h
theorem op_neS : OpR X (compareOp .NotEq) (fun x y H Q => ∃ i j : Int, x = .int i ∧ y = .int j ∧ (¬ i = j → Q (.bl true) H) ∧ (i = j → Q (.bl false) H)) := by
  intro pins s σ H x y v u Q I rx ry h
  obtain ⟨i, j, rfl, rfl, q1, q2⟩ := h
  refine op_ne pins s σ H _ _ v u Q I rx ry ⟨rfl, ?_⟩
  rw [int_dec]
  by_cases h : i = j
  · rw [decide_eq_true h]; exact q2 h
  · rw [decide_eq_false h]; exact q1 h
/-- a truth, told in two ways: as a test, as a value -/
def tBS (t : TE) : TT := fun σ H Q => t σ H fun x H1 => ∃ b, x = .bl b ∧ (b = true → Q true H1) ∧ (b = false → Q false H1)
theorem pt_valS {e : Expr} {t : TE} (h : PE X e t) (he : ∀ whole, isTrue e X.env whole = (do let v ← whole; standAt e.pos; holding [v] (truthy v)) := by intro _; rfl) : PT X e (tBS t) := by
  refine ⟨fun pins s σ H Q I hw => ?_⟩
  refine isTrue_plain (thn (h.run pins s σ H _ I hw) fun v s1 ⟨x, H1, I1, r1, q1⟩ => ?_) (he _)
  obtain ⟨d, rfl, q1, q2⟩ := q1
  cases r1
  refine wpAny_truthy_bool ⟨H1, I1, ?_⟩
  cases d with
  | true => exact q1 rfl
  | false => exact q2 rfl
/-- an operator whose answer is a truth, told in two ways -/
theorem opS {f : Value → Value → Sem Value} {r : R2} (h : OpR X f r) : OpR X f (fun x y H Q => r x y H fun z H1 => ∃ b, z = .bl b ∧ (b = true → Q (.bl true) H1) ∧ (b = false → Q (.bl false) H1)) := by
  intro pins s σ H x y v u Q I rx ry q
  refine thn (h pins s σ H x y v u _ I rx ry q) fun w s1 ⟨z, H1, I1, r1, q1⟩ => ?_
  obtain ⟨d, rfl, q1, q2⟩ := q1
  refine ⟨.bl d, H1, I1, r1, ?_⟩
  cases d with
  | true => exact q1 rfl
  | false => exact q2 rfl
/-- and, or, not as values, of truths told in two ways -/
def tSplE (t : TE) : TE := fun σ H Q => t σ H fun x H1 => ∃ b, x = .bl b ∧ (b = true → Q (.bl true) H1) ∧ (b = false → Q (.bl false) H1)
theorem pe_splS {e : Expr} {t : TE} (h : PE X e t) : PE X e (tSplE t) := by
  refine ⟨fun pins s σ H Q I hw => thn (h.run pins s σ H _ I hw) fun v s1 ⟨x, H1, I1, r1, q1⟩ => ?_⟩
  obtain ⟨d, rfl, q1, q2⟩ := q1
  refine ⟨.bl d, H1, I1, r1, ?_⟩
  cases d with
  | true => exact q1 rfl
  | false => exact q2 rfl
/-- a power of written numbers, told as a number -/
theorem op_powL : OpR X (binaryOp .Pow) (fun x y H Q => ∃ i j k : Int, x = .int i ∧ y = .int j ∧ CPow i j ∧ i ^ j.toNat = k ∧ Q (.int k) H) := by
  intro pins s σ H x y v u Q I rx ry h
  obtain ⟨i, j, k, rfl, rfl, hc, rfl, q⟩ := h
  exact op_pow pins s σ H _ _ v u Q I rx ry ⟨i, j, rfl, rfl, hc, q⟩
/-- xs[i], read for an augmented store -/
theorem get_list : PGet X (rIxL X.K) := by
  intro pins s σ H o i ov iv Q I ro ri h
  obtain ⟨p, xs, k, z, rfl, rfl, hq, he, q⟩ := h
  cases ro
  obtain ⟨tk, rfl⟩ := ri
  obtain ⟨its, vr, pl, hz⟩ := I.list hq
  obtain ⟨j, h1, h2, h3, h4, h5⟩ := atI_get he
  obtain ⟨w, ew, rw'⟩ := vr.get h2
  have hl := vr.length
  have hn := line63
  have fin : EP X pins σ Q w s := ⟨z, H, I, rw', q⟩
  by_cases h0 : 0 ≤ k
  · have hj : k.toNat = j := by
      rw [seqIndex_of h0 h5] at h1; exact Option.some.inj h1
    exact wpAny_mono (wpAny_getItem_list (Q := fun r s' => r = w ∧ EP X pins σ Q r s') pl.isList h0 (by omega) (by rw [hj]; simpa using ew) ⟨rfl, fin⟩) (fun _ _ z => z.2) fun _ _ z => z
  · have hj : (k + (its.toArray.size : Int)).toNat = j := by
      rw [seqIndex_neg (by omega) h4] at h1
      rw [List.size_toArray, ← hl]; exact Option.some.inj h1
    exact wpAny_mono (wpAny_getItem_list_neg (Q := fun r s' => r = w ∧ EP X pins σ Q r s') pl.isList (by omega) (by rw [List.size_toArray] <;> omega) (by omega) (by rw [hj]; simpa using ew) ⟨rfl, fin⟩) (fun _ _ z => z.2) fun _ _ z => z
end
end Rc
namespace Rc
open PySem PySem.Spec PyProof.Rows L2

section
variable {H0 H H' : Hp} {own : List (Addr × HO)} {p : Addr} {o : HO}
theorem Fr.n0 (f : Fr H0 H ((p, o) :: own)) : H0 p = none := (f.frs _ List.mem_cons_self).1
theorem Fr.n1 {a : Addr × HO} (f : Fr H0 H (a :: (p, o) :: own)) : H0 p = none := f.up1.n0
theorem Fr.n2 {a b : Addr × HO} (f : Fr H0 H (a :: b :: (p, o) :: own)) : H0 p = none := f.up2.n0
end
/-- the k-th of what is own -/
theorem getElem?_perm {α : Type} : ∀ {l : List α} {k : Nat} {x : α}, l[k]? = some x → l.Perm (x :: l.eraseIdx k)
  | [], _, _, h => by simp at h
  | y :: l, 0, x, h => by cases (Option.some.inj h); exact List.Perm.refl _
  | y :: l, k + 1, x, h => ((getElem?_perm (l := l) (k := k) h).cons y).trans (List.Perm.swap _ _ _)
section
variable {H0 H H' : Hp} {own : List (Addr × HO)} {p : Addr} {o o' : HO}
theorem Fr.atk (f : Fr H0 H own) (k : Nat) (h : own[k]? = some (p, o)) : H p = some o := f.mem (List.mem_of_getElem? h)
theorem Fr.upk {x : Addr × HO} (f : Fr H0 H own) (k : Nat) (h : own[k]? = some x) : Fr H0 H (x :: own.eraseIdx k) := f.perm (getElem?_perm h)
theorem Fr.dk (f : Fr H0 H own) (k : Nat) : Fr H0 H (own.eraseIdx k) := f.sub (List.eraseIdx_sublist _ _)
theorem set_perm {α : Type} : ∀ {l : List α} {k : Nat} {x y : α}, l[k]? = some x → (y :: l.eraseIdx k).Perm (l.set k y)
  | [], _, _, _, h => by simp at h
  | z :: l, 0, x, y, h => List.Perm.refl _
  | z :: l, k + 1, x, y, h => (List.Perm.swap _ _ _).trans ((set_perm (l := l) (k := k) (y := y) h).cons z)
theorem Fr.wrk {o'' : HO} (f : Fr H0 H own) (k : Nat) (h : own[k]? = some (p, o)) (e : o' = o'') : Fr H0 (upd H p o') (own.set k (p, o'')) := by
  subst e
  exact ((f.upk k h).wr (o' := o')).perm (set_perm h)
end
theorem ndT {c : Prop} [Decidable c] (h : ¬ c) : (!decide c) = true := by rw [decide_eq_false h]; rfl
theorem ndF {c : Prop} [Decidable c] (h : c) : (!decide c) = false := by rw [decide_eq_true h]; rfl
theorem of_nd {c : Prop} [Decidable c] (h : (!decide c) = false) : c := by
  by_cases z : c
  · exact z
  · rw [decide_eq_false z] at h; cases h
theorem not_of_nd {c : Prop} [Decidable c] (h : (!decide c) = true) : ¬ c := fun z => by rw [decide_eq_true z] at h; cases h
theorem bnotT {b : Bool} (h : (!b) = true) : b = false := by cases b with | true => cases h | false => rfl
theorem bnotF {b : Bool} (h : (!b) = false) : b = true := by cases b with | true => rfl | false => cases h
theorem iteBN {b : Bool} {A B : Prop} (h1 : b = false → A) (h2 : b = true → B) : if (!b) = true then A else B := by
  cases b with
  | false => exact iteT (h1 rfl)
  | true => exact iteF (h2 rfl)
theorem hu64 {A : Around} {k : Nat} (hr : Room k A) : A.units + 64 < cLine := by have := hr.un; omega

/-! what is walked, with typed contents -/
section
variable {α β : Type} {K : PySem.W.Frag} {a b : Addr}
theorem walkR {n : Nat} : Walk (Itr 0 n) n (fun _ => True) (fun i H x H' => H' = H ∧ x = .int (i : Nat)) :=
  walk_range.mono (fun _ h => h) fun i H x H' _ _ y => ⟨y.1, by rw [y.2]; exact congrArg V.int (Int.zero_add _)⟩
theorem walkL (f : α → V) (ns : List α) : Walk (Itl K a) ns.length (fun H => H a = some (.lst (ns.map f))) (fun i H x H' => H' = H ∧ ∃ y, ns[i]? = some y ∧ x = f y) := by
  have w := walk_list (K := K) (a := a) (xs := ns.map f)
  rw [List.length_map] at w
  refine w.mono (fun H h => SqL.of h) fun i H x H' _ _ y => ⟨y.1, ?_⟩
  have e := y.2
  rw [List.getElem?_map] at e
  cases h : ns[i]? with
  | none => rw [h] at e; cases e
  | some z => rw [h] at e; exact ⟨z, rfl, (Option.some.inj e).symm⟩
theorem walkV (ns : List V) : Walk (Itl K a) ns.length (fun H => H a = some (.lst ns)) (fun i H x H' => H' = H ∧ ns[i]? = some x) :=
  walk_list.mono (fun H h => SqL.of h) fun i H x H' _ _ y => y
theorem walkRv (f : α → V) (ns : List α) : Walk (Itv K a (ns.map f).length) ns.length (fun H => H a = some (.lst (ns.map f))) (fun i H x H' => H' = H ∧ ∃ y, ns[ns.length - 1 - i]? = some y ∧ x = f y) := by
  have w := walk_rev (K := K) (a := a) (xs := ns.map f)
  rw [List.length_map] at w ⊢
  refine w.mono (fun H h => SqL.of h) fun i H x H' _ _ y => ⟨y.1, ?_⟩
  have e := y.2
  rw [List.getElem?_map] at e
  cases h : ns[ns.length - 1 - i]? with
  | none => rw [h] at e; cases e
  | some z => rw [h] at e; exact ⟨z, rfl, (Option.some.inj e).symm⟩
theorem walkE (f : α → V) (ns : List α) : Walk (Ite K a) ns.length (fun H => H a = some (.lst (ns.map f)))
    (fun i H x H' => ∃ T y, x = .ref T ∧ H T = none ∧ H' = upd H T (.tup [.int (i : Nat), f y]) ∧ ns[i]? = some y) := by
  have w := walk_enum (K := K) (a := a) (xs := ns.map f)
  rw [List.length_map] at w
  refine w.mono (fun H h => SqL.of h) fun i H x H' _ _ y => ?_
  obtain ⟨T, u, v, h1, h2, h3, h4, h5⟩ := y
  cases h4
  replace h5 : (ns.map f)[i]? = some v := h5
  rw [List.getElem?_map] at h5
  cases h : ns[i]? with
  | none => rw [h] at h5; cases h5
  | some z => rw [h] at h5; cases (Option.some.inj h5); exact ⟨T, z, h1, h2, h3, rfl⟩
theorem walkZ (f : α → V) (g : β → V) (ns : List α) (ms : List β) : Walk (Itz K a b) (min ns.length ms.length) (fun H => H a = some (.lst (ns.map f)) ∧ H b = some (.lst (ms.map g)))
    (fun i H x H' => ∃ T y z, x = .ref T ∧ H T = none ∧ H' = upd H T (.tup [f y, g z]) ∧ ns[i]? = some y ∧ ms[i]? = some z) := by
  have w := walk_zip (K := K) (a := a) (b := b) (xs := ns.map f) (ys := ms.map g) (n := min ns.length ms.length) (by rw [List.length_map, List.length_map])
  refine w.mono (fun H h => ⟨SqL.of h.1, SqL.of h.2⟩) fun i H x H' _ _ y => ?_
  obtain ⟨T, u, v, h1, h2, h3, h4, h5⟩ := y
  replace h4 : (ns.map f)[i]? = some u := h4
  replace h5 : (ms.map g)[i]? = some v := h5
  rw [List.getElem?_map] at h4 h5
  cases h : ns[i]? with
  | none => rw [h] at h4; cases h4
  | some z =>
    cases h' : ms[i]? with
    | none => rw [h'] at h5; cases h5
    | some z' =>
      rw [h] at h4; rw [h'] at h5
      cases (Option.some.inj h4); cases (Option.some.inj h5)
      exact ⟨T, z, z', h1, h2, h3, rfl, rfl⟩
end

theorem map_c {α : Type} (xs : List α) (c : Int) : xs.map (fun _ => c) = List.replicate xs.length c := by
  induction xs with
  | nil => rfl
  | cons x xs ih => rw [List.map_cons, ih]; rfl
/-! comprehensions: one turn -/
section
variable {α β : Type} {enc : β → V} {f : α → β} {ns : List α} {i : Nat} {y : α}
theorem take_next (h : ns[i]? = some y) : ns.take (i + 1) = ns.take i ++ [y] := by rw [List.take_add_one, h]; rfl
theorem lc_l (h : ns[i]? = some y) : HO.lst ((((ns.take i).map f).map enc) ++ [enc (f y)]) = .lst (((ns.take (i + 1)).map f).map enc) := by
  rw [take_next h, List.map_append, List.map_append]; rfl
theorem lc_l_t {p : α → Bool} (h : ns[i]? = some y) (hp : p y = true) : HO.lst (((((ns.take i).filter p).map f).map enc) ++ [enc (f y)]) = .lst ((((ns.take (i + 1)).filter p).map f).map enc) := by
  rw [take_next h, List.filter_append, List.map_append, List.map_append, List.filter_cons_of_pos hp]; rfl
theorem lc_l_f {p : α → Bool} (h : ns[i]? = some y) (hp : p y = false) : HO.lst ((((ns.take i).filter p).map f).map enc) = .lst ((((ns.take (i + 1)).filter p).map f).map enc) := by
  rw [take_next h, List.filter_append, List.filter_cons_of_neg (by rw [hp]; exact Bool.false_ne_true)]; simp
theorem lc_r (f : Nat → β) (i : Nat) : HO.lst ((((List.range i).map f).map enc) ++ [enc (f i)]) = .lst (((List.range (i + 1)).map f).map enc) := by
  rw [List.range_succ, List.map_append, List.map_append]; rfl
theorem lc_r_t {f : Nat → β} {p : Nat → Bool} (hp : p i = true) : HO.lst (((((List.range i).filter p).map f).map enc) ++ [enc (f i)]) = .lst ((((List.range (i + 1)).filter p).map f).map enc) := by
  rw [List.range_succ, List.filter_append, List.map_append, List.map_append, List.filter_cons_of_pos hp]; rfl
theorem lc_r_f {f : Nat → β} {p : Nat → Bool} (hp : p i = false) : HO.lst ((((List.range i).filter p).map f).map enc) = .lst ((((List.range (i + 1)).filter p).map f).map enc) := by
  rw [List.range_succ, List.filter_append, List.filter_cons_of_neg (by rw [hp]; exact Bool.false_ne_true)]; simp
end

/-! whiles by a measure -/
theorem while_m {c : TT} {tb : TS} {D : Ends} {σ : L2.St} {H : Hp} (W : Nat → L2.St → Hp → Prop) (h0 : ∃ m, W m σ H)
    (hs : ∀ m σ H, W m σ H → c σ H fun b H1 => if b = true then ∃ N : L2.St → Hp → Prop, (∀ σ' H', N σ' H' → ∃ m', m' < m ∧ W m' σ' H') ∧ tb { D with nx := N, ct := N, bk := D.nx } σ H1 else D.nx σ H1) : tWhile c tb D σ H := ⟨W, h0, hs⟩

/-! pop(i) -/
theorem popix {n : Nat} {i : Int} (h0 : 0 ≤ i) (h1 : i < (n : Int)) {α β : Type} {f : α → β} {xs : List α} (hn : n = xs.length := by rfl) : seqIndex? i (xs.map f).length = some i.toNat := by
  subst hn; rw [List.length_map]; exact seqIndex_of h0 h1
theorem popat {α : Type} {f : α → V} {xs : List α} {k : Nat} (d : α) (h : k < xs.length) : (xs.map f)[k]? = some (f (xs.getD k d)) := by
  rw [List.getElem?_map, List.getElem?_eq_getElem h]; simp [List.getD, h]
theorem ixDm {α β : Type} {f : α → β} {xs : List α} {i : Int} (h0 : 0 ≤ i) (h1 : i < (xs.length : Int)) : ixN (xs.map f).length i = some i.toNat := by
  rw [List.length_map]; exact ixD h0 h1
theorem atV {xs : List V} {i : Int} (d : V) (h0 : 0 ≤ i) (h1 : i < (xs.length : Int)) : atI xs i = some (xs.getD i.toNat d) := by
  have := atD (f := fun v : V => v) d h0 h1
  rwa [List.map_id'] at this

/-! deep data -/
def dI (xs : List Int) : PyData := .list (xs.map PyData.int)
def dB (xs : List Bool) : PyData := .list (xs.map PyData.bool)
section
variable {K : PySem.W.Frag} {H : Hp} {a : Addr}
theorem dpAll {α : Type} {f : α → V} {g : α → PyData} (h : ∀ x, Dp K H (f x) (g x)) : ∀ xs : List α, DpAll K H (xs.map f) (xs.map g)
  | [] => .nil
  | x :: xs => .cons (h x) (dpAll h xs)
/-- a list, its depth by its items -/
theorem dp_ints {xs : List Int} (h : H a = some (.lst (xs.map V.int))) : Dp K H (.ref a) (dI xs) := .lst (SqL.of h) (dpAll (fun _ => .int _) xs)
theorem dp_bls {xs : List Bool} (h : H a = some (.lst (xs.map V.bl))) : Dp K H (.ref a) (dB xs) := .lst (SqL.of h) (dpAll (fun _ => .bl _) xs)
end
theorem canAll {α : Type} {g : α → PyData} (h : ∀ x, (g x).canLay0 = true) : ∀ xs : List α, PyData.canLayAll0 (xs.map g) = true
  | [] => rfl
  | x :: xs => by
    show ((g x).canLay0 && PyData.canLayAll0 (xs.map g)) = true
    rw [h x, canAll h xs]; rfl
theorem depthAll {α : Type} {g : α → PyData} {n : Nat} (h : ∀ x, (g x).depth ≤ n) : ∀ xs : List α, PyData.depthAll (xs.map g) ≤ n
  | [] => Nat.zero_le _
  | x :: xs => by
    show max (g x).depth (PyData.depthAll (xs.map g)) ≤ n
    have h1 := h x
    have h2 := depthAll h xs
    omega
/-- data of a depth of at most n, without texts -/
structure Okd (n : Nat) (d : PyData) : Prop where
  can : d.canLay0 = true
  dep : d.depth ≤ n
theorem Okd.sh {d : PyData} (h : Okd 9 d) : SeqAt.shaped d = true := by
  unfold SeqAt.shaped; rw [h.can, decide_eq_true (by have := h.dep; omega)]; rfl
theorem Okd.cn {d : PyData} (h : Okd 9 d) : d.canLay0 = true := h.can
section
variable {n : Nat}
theorem okd_ints (xs : List Int) : Okd (n + 1) (dI xs) := ⟨canAll (fun _ => rfl) xs, Nat.succ_le_succ (Nat.le_trans (depthAll (n := 0) (fun _ => Nat.le_refl _) xs) (Nat.zero_le _))⟩
theorem okd_bls (xs : List Bool) : Okd (n + 1) (dB xs) := ⟨canAll (fun _ => rfl) xs, Nat.succ_le_succ (Nat.le_trans (depthAll (n := 0) (fun _ => Nat.le_refl _) xs) (Nat.zero_le _))⟩
theorem okd_int {i : Int} : Okd n (.int i) := ⟨rfl, Nat.zero_le _⟩
theorem okd_bl {b : Bool} : Okd n (.bool b) := ⟨rfl, Nat.zero_le _⟩
theorem okd_non : Okd n .none := ⟨rfl, Nat.zero_le _⟩
theorem okl_nil : Okd (n + 1) (.list []) := ⟨rfl, Nat.succ_le_succ (Nat.zero_le _)⟩
theorem okl_cons {d : PyData} {ds : List PyData} (h : Okd n d) (h' : Okd (n + 1) (.list ds)) : Okd (n + 1) (.list (d :: ds)) := by
  obtain ⟨c, p⟩ := h; obtain ⟨c', p'⟩ := h'
  have e1 : PyData.canLayAll0 ds = true := c'
  have e2 : PyData.depthAll ds + 1 ≤ n + 1 := p'
  refine ⟨?_, ?_⟩
  · show (d.canLay0 && PyData.canLayAll0 ds) = true
    rw [c, e1]; rfl
  · show max d.depth (PyData.depthAll ds) + 1 ≤ n + 1
    omega
theorem okt_nil : Okd (n + 1) (.tuple []) := ⟨rfl, Nat.succ_le_succ (Nat.zero_le _)⟩
theorem okt_cons {d : PyData} {ds : List PyData} (h : Okd n d) (h' : Okd (n + 1) (.tuple ds)) : Okd (n + 1) (.tuple (d :: ds)) := by
  have q := okl_cons h (show Okd (n + 1) (.list ds) from ⟨h'.can, h'.dep⟩)
  exact ⟨q.can, q.dep⟩
end
section
variable {X : Cx}
/-- == of deep data, the answer told -/
def rEqX (K : PySem.W.Frag) : R2 := fun x y H Q => ∃ (d e : PyData) (b : Bool), Dp K H x d ∧ Dp K H y e ∧ SeqAt.shaped d = true ∧ SeqAt.shaped e = true ∧ PyData.eqv d e = b ∧ Q (.bl b) H
def rNeX (K : PySem.W.Frag) : R2 := fun x y H Q => ∃ (d e : PyData) (b : Bool), Dp K H x d ∧ Dp K H y e ∧ SeqAt.shaped d = true ∧ SeqAt.shaped e = true ∧ PyData.eqv d e = b ∧ Q (.bl (!b)) H
theorem op_eqX (hu : X.A.units + 64 < cLine) : OpR X (compareOp .Eq) (rEqX X.K) := by
  intro pins s σ H x y v u Q I rx ry h
  obtain ⟨d, e, b, h1, h2, h3, h4, rfl, q⟩ := h
  exact op_eqD hu pins s σ H x y v u Q I rx ry ⟨d, e, h1, h2, h3, h4, q⟩
theorem op_neX (hu : X.A.units + 64 < cLine) : OpR X (compareOp .NotEq) (rNeX X.K) := by
  intro pins s σ H x y v u Q I rx ry h
  obtain ⟨d, e, b, h1, h2, h3, h4, rfl, q⟩ := h
  exact op_neD hu pins s σ H x y v u Q I rx ry ⟨d, e, h1, h2, h3, h4, q⟩
end
/-- range(0, m, c), c from 1 on -/
theorem rgc_up {m c : Int} {n : Nat} (h0 : -(2 ^ 40) ≤ m) (h1 : m < 2 ^ 40) (hc : 0 < c) (hc' : c < 100000000) (hn : (n : Int) = if 0 < m then (m - 1) / c + 1 else 0) : RgC 0 m c n := by
  have hs : Builtin.Range.rangeSize 0 m c = n := by
    unfold Builtin.Range.rangeSize
    rw [if_pos (by omega), hn, Int.sub_zero]
  refine ⟨by omega, by omega, ?_, hs⟩
  have e2 : 0 < m → 0 ≤ (m - 1) / c := fun h => Int.ediv_nonneg (by omega) (by omega)
  have e3 : 0 < m → (m - 1) / c ≤ m - 1 := fun h => Int.ediv_le_self _ (by omega)
  unfold Builtin.Range.small
  rw [hs, hn]
  generalize (m - 1) / c = q at *
  simp only [Builtin.Range.rangeFitsLong, Bool.and_eq_true, Bool.or_eq_true, decide_eq_true_eq, beq_iff_eq]
  split
  · rename_i hm
    have := e2 hm
    have := e3 hm
    refine ⟨by omega, .inr ?_⟩
    rw [Bool.and_eq_true, decide_eq_true_eq, decide_eq_true_eq]
    omega
  · refine ⟨by omega, .inl rfl⟩
/-- .. with a step of two -/
theorem rgc2 {m : Int} (h0 : 0 ≤ m) (h1 : m < 2 ^ 40) : RgC 0 m 2 (Int.toNat ((m + 1) / 2)) := by
  refine rgc_up (by omega) h1 (by decide) (by decide) ?_
  split <;> omega
theorem rgc3 {m : Int} (h0 : 0 ≤ m) (h1 : m < 2 ^ 40) : RgC 0 m 3 (Int.toNat ((m + 2) / 3)) := by
  refine rgc_up (by omega) h1 (by decide) (by decide) ?_
  split <;> omega
theorem rgc4 {m : Int} (h0 : 0 ≤ m) (h1 : m < 2 ^ 40) : RgC 0 m 4 (Int.toNat ((m + 3) / 4)) := by
  refine rgc_up (by omega) h1 (by decide) (by decide) ?_
  split <;> omega
theorem rgc5 {m : Int} (h0 : 0 ≤ m) (h1 : m < 2 ^ 40) : RgC 0 m 5 (Int.toNat ((m + 4) / 5)) := by
  refine rgc_up (by omega) h1 (by decide) (by decide) ?_
  split <;> omega
theorem eqvAll_map {α : Type} [DecidableEq α] {g : α → PyData} (h : ∀ x y, PyData.eqv (g x) (g y) = decide (x = y)) : ∀ xs ys : List α, PyData.eqvAll (xs.map g) (ys.map g) = decide (xs = ys)
  | [], [] => rfl
  | [], _ :: _ => rfl
  | _ :: _, [] => rfl
  | x :: xs, y :: ys => by
    show (PyData.eqv (g x) (g y) && PyData.eqvAll (xs.map g) (ys.map g)) = _
    rw [h, eqvAll_map h xs ys]
    by_cases e : x = y
    · subst e
      by_cases e' : xs = ys
      · subst e'; simp
      · simp [e']
    · simp [e]
theorem eqv_ints (xs ys : List Int) : PyData.eqv (dI xs) (dI ys) = decide (xs = ys) :=
  eqvAll_map (fun x y => by show (x == y) = _; exact Bool.beq_eq_decide_eq x y) xs ys
theorem eqv_bls (xs ys : List Bool) : PyData.eqv (dB xs) (dB ys) = decide (xs = ys) :=
  eqvAll_map (fun x y => by show (x == y) = _; cases x <;> cases y <;> rfl) xs ys

/-! list.index of an int that is there -/
theorem flat_ints : ∀ xs : List Int, (xs.map V.int).all flatV = true
  | [] => rfl
  | _ :: xs => flat_ints xs
theorem ix_get {xs : List Int} {y : Int} (h : y ∈ xs) : (xs.map V.int)[xs.idxOf y]? = some (V.int y) := by
  rw [List.getElem?_map, List.getElem?_eq_getElem (List.idxOf_lt_length_of_mem h), List.getElem_idxOf]; rfl
theorem ix_eqv {y : Int} : eqV (V.int y) (V.int y) = true := by show (y == y) = true; exact beq_self_eq_true y
theorem ix_first (xs : List Int) (y : Int) : ∀ (m : Nat) (z : V), m < xs.idxOf y → (xs.map V.int)[m]? = some z → eqV z (V.int y) = false := fun m z hm e => by
  rw [List.getElem?_map] at e
  cases h : xs[m]? with
  | none => rw [h] at e; cases e
  | some w =>
    rw [h] at e; cases (Option.some.inj e)
    show (w == y) = false
    have hl := (List.getElem?_eq_some_iff.mp h)
    obtain ⟨hl, rfl⟩ := hl
    have := List.not_of_lt_findIdx (p := (· == y)) (xs := xs) (i := m) hm
    simpa using this

/-! isinstance of any scalar -/
def is_int : V → Bool
  | .int _ => true
  | .bl _ => true
  | _ => false
def is_bool : V → Bool
  | .bl _ => true
  | _ => false
/-- the scalars -/
def sca : V → Bool
  | .non => true
  | .bl _ => true
  | .int _ => true
  | .str z => PyData.strOk z
  | _ => false
def tyName : V → String
  | .non => "NoneType"
  | .bl _ => "bool"
  | .int _ => "int"
  | _ => "str"
theorem tyx_val {K : PySem.W.Frag} {H : Hp} {x : V} (h : sca x = true) : TyX K H x (.type (tyName x)) := by
  cases x with
  | non => exact .base .non
  | bl b => exact .base (.bl b)
  | int i => exact .base (.int i)
  | str z => exact .base (.str z)
  | byt _ => cases h
  | flt _ => cases h
  | ref _ => cases h
  | ty _ => cases h
theorem kit_int {K : PySem.W.Frag} {x : V} (h : sca x = true) : PySem.W.kitOne K (.type (tyName x)) (.type "int") = some (is_int x) := by
  cases x with
  | non => exact kit_ty (show kitB "NoneType" "int" = some false by decide +kernel)
  | bl b => exact kit_ty (show kitB "bool" "int" = some true by decide +kernel)
  | int i => exact kit_ty (show kitB "int" "int" = some true by decide +kernel)
  | str z => exact kit_ty (show kitB "str" "int" = some false by decide +kernel)
  | byt _ => cases h
  | flt _ => cases h
  | ref _ => cases h
  | ty _ => cases h
theorem kit_bool {K : PySem.W.Frag} {x : V} (h : sca x = true) : PySem.W.kitOne K (.type (tyName x)) (.type "bool") = some (is_bool x) := by
  cases x with
  | non => exact kit_ty (show kitB "NoneType" "bool" = some false by decide +kernel)
  | bl b => exact kit_ty (show kitB "bool" "bool" = some true by decide +kernel)
  | int i => exact kit_ty (show kitB "int" "bool" = some false by decide +kernel)
  | str z => exact kit_ty (show kitB "str" "bool" = some false by decide +kernel)
  | byt _ => cases h
  | flt _ => cases h
  | ref _ => cases h
  | ty _ => cases h
/-! lists of scalars -/
def toD : V → PyData
  | .bl b => .bool b
  | .int i => .int i
  | .str z => .str z
  | _ => .none
def dV (xs : List V) : PyData := .list (xs.map toD)
def Sca (xs : List V) : Prop := ∀ v ∈ xs, sca v = true
theorem Sca.nil : Sca [] := fun _ h => nomatch h
theorem Sca.cons {x : V} {xs : List V} (h : sca x = true) (hs : Sca xs) : Sca (x :: xs) := fun v hv => by
  rcases List.mem_cons.mp hv with rfl | hv
  · exact h
  · exact hs v hv
theorem Sca.app {xs ys : List V} (h : Sca xs) (h' : Sca ys) : Sca (xs ++ ys) := fun v hv => by
  rcases List.mem_append.mp hv with hv | hv
  · exact h v hv
  · exact h' v hv
theorem Sca.ints (xs : List Int) : Sca (xs.map V.int) := fun v hv => by
  obtain ⟨x, _, rfl⟩ := List.mem_map.mp hv; rfl
theorem Sca.bls (xs : List Bool) : Sca (xs.map V.bl) := fun v hv => by
  obtain ⟨x, _, rfl⟩ := List.mem_map.mp hv; rfl
theorem Sca.getD {xs : List V} (h : Sca xs) {i : Nat} {d : V} (hi : i < xs.length) : sca (xs.getD i d) = true := h _ (getD_mem hi)
theorem dp_val {K : PySem.W.Frag} {H : Hp} {v : V} (h : sca v = true) : Dp K H v (toD v) := by
  cases v with
  | non => exact .non
  | bl b => exact .bl b
  | int i => exact .int i
  | str z => exact .str z
  | byt _ => cases h
  | flt _ => cases h
  | ref _ => cases h
  | ty _ => cases h
theorem dp_valAll {K : PySem.W.Frag} {H : Hp} : ∀ {xs : List V}, Sca xs → DpAll K H xs (xs.map toD)
  | [], _ => .nil
  | x :: xs, h => .cons (dp_val (h x List.mem_cons_self)) (dp_valAll fun v hv => h v (List.mem_cons_of_mem _ hv))
theorem dp_vals {K : PySem.W.Frag} {H : Hp} {a : Addr} {xs : List V} (h : H a = some (.lst xs)) (hs : Sca xs) : Dp K H (.ref a) (dV xs) := .lst (SqL.of h) (dp_valAll hs)
theorem can_val {v : V} (h : sca v = true) : (toD v).canLay0 = true := by
  cases v with
  | str z => exact h
  | _ => rfl
theorem okd_val {n : Nat} {v : V} (h : sca v = true) : Okd n (toD v) := ⟨can_val h, by cases v <;> exact Nat.zero_le _⟩
theorem okd_vals {n : Nat} {xs : List V} (hs : Sca xs) : Okd (n + 1) (dV xs) := by
  refine ⟨?_, ?_⟩
  · show PyData.canLayAll0 (xs.map toD) = true
    induction xs with
    | nil => rfl
    | cons x xs ih =>
      show ((toD x).canLay0 && PyData.canLayAll0 (xs.map toD)) = true
      rw [can_val (hs x List.mem_cons_self), ih fun v hv => hs v (List.mem_cons_of_mem _ hv)]; rfl
  · exact Nat.succ_le_succ (Nat.le_trans (depthAll (n := 0) (fun v => by cases v <;> exact Nat.zero_le _) xs) (Nat.zero_le _))
end Rc
namespace Rc
open PySem PySem.Spec PyProof.Rows L2 RT
section
variable {prog : Program} {w : World} {A : Around} {E : Value → Shared → Prop} {s : Shared}
abbrev nilO (c : Nat) : Obj := { cls := .type "list", data := .seq #[] c }
/-- list.extend with a list's reversed iterator, into a new list at S -/
theorem rev_extend {it l S : Addr} {items : Array Value} {R : Result → Shared → Prop} {res : Value} {c0 : Nat} (hh : A.handled = none) (hit : s.heap.IsRevIter it l ((items.size : Int) - 1)) (hl : s.heap.IsList l items) (hne : l ≠ it)
    (hSi : S ≠ it) (hSl : S ≠ l) (hS : s.heap.get? S = some (nilO c0)) (hn : items.size ≤ sizeLine)
    (hR : ∀ h' tk acc c', (∀ b o, b ≠ S → b ≠ it → s.heap.get? b = some o → h'.get? b = some o) → h'.get? S = some { cls := .type "list", dict := none, data := .seq acc c', slots := #[] } →
      ItemsOf (fun i v => items[items.size - 1 - i]? = some v) acc items.size → R (.ok (.ret res)) { s with heap := h', toks := tk }) :
    wpAny (model prog w) A.in1 (Builtin.List.listExtendWith (.ref S) (.ref it) res)
      (fun fin z => match fin with | .done f => R (.ok f) z | .again c => c.quiet = true ∧ codeAny (model prog w) A c R z) (fun e z => R (.error e) z) s := by
  have W := (Walks.listRev (prog := prog) (w := w) (A := A.in1) hh it l hne items).toS
  have hf : S ∉ [it, l] := fun z => by
    rcases List.mem_cons.mp z with z | z
    · exact hSi z
    · exact hSl (List.mem_singleton.mp z)
  have ty : s.TypeIs (.ref it) "list_reverseiterator" := hit.typeIs
  have h1 : Builtin.List.listSameRef (.ref S) (.ref it) = false := by simp [Builtin.List.listSameRef, hSi]
  have h2 : (Value.type "list_reverseiterator" == Value.type "list") = false := by decide
  have h3 : (Value.type "list_reverseiterator" == Value.type "tuple") = false := by decide
  unfold Builtin.List.listExtendWith
  refine wpAny_bind (wpAny_typeOf ty ?_)
  simp only [h1, h2, h3, Bool.or_false, Bool.false_eq_true, if_false]
  refine wpAny_bind (wpAny_pyIter_revIter hit ?_)
  refine wpAny_bind (wpAny_holding ?_); unfold Builtin.List.listLengthHint
  refine wpAny_bind (wpAny_specialOf ty nolen_lri ?_)
  show wpAny _ A.in1 (specialOf (Value.ref it) (Str.ofString "__length_hint__") >>= _) _ _ _
  refine wpAny_bind (wpAny_specialOf ty hint_lri ?_)
  generalize hid : ("list_reverseiterator.__length_hint__" : String) = id0
  wp_delta
  rw [show splitId id0 = some ("list_reverseiterator", "__length_hint__") from by subst hid; decide +kernel]
  subst hid
  refine wpAny_bind (wpAny_isInstance (b := true) ty (by rw [isSubtype_type]; kernel_rfl) ?_)
  refine wpAny_pure ?_; rw [if_neg (by decide)]
  have e0 : ((items.size : Nat) : Int) - 1 - ((0 : Nat) : Int) = (items.size : Int) - 1 := by omega
  refine wpAny_pure ⟨plainId_quiet F.plain_extend_loop _, codeAny_extend_loopS W hn _ hf _ items.size 0 _ _ _ rfl (Nat.zero_le _) ⟨Nat.zero_le _, by rw [e0]; exact hit, hl⟩ hS (ItemsOf.nil _) fun z acc c' hm hz hacc => ?_⟩
  rw [Moved.eq_with hm]
  refine hR z.heap z.toks acc c' (fun b o h1 h2 e => hm.heap b o (fun hmem => ?_) e) hz hacc
  rcases List.mem_cons.mp hmem with q | q
  · exact h1 q
  · exact h2 (List.mem_singleton.mp q)
theorem call_list_rev {it l : Addr} {items : Array Value} {Q : Value → Shared → Prop} (hh : A.handled = none) (hit : s.heap.IsRevIter it l ((items.size : Int) - 1)) (hl : s.heap.IsList l items) (hne : l ≠ it) (hn : items.size ≤ sizeLine)
    (hQ : ∀ h' tk acc c', (∀ b o, b ≠ it → s.heap.get? b = some o → h'.get? b = some o) → h'.get? s.heap.objs.size = some { cls := .type "list", dict := none, data := .seq acc c', slots := #[] } →
      ItemsOf (fun i v => items[items.size - 1 - i]? = some v) acc items.size → Q (.ref s.heap.objs.size) { s with heap := h', toks := tk }) :
    wpAny (model prog w) A (call (.type "list") [.ref it]) Q E s := by
  refine callType_codes (Q₁ := fun obj z => obj = .ref s.heap.objs.size ∧ z = { s with heap := s.heap.push (nilO 0) }) F.called_list (F.typeCall_list_1 _) F.entry_list_init
    (code_list_new _ ⟨rfl, rfl⟩) fun obj z hz => ?_
  obtain ⟨rfl, rfl⟩ := hz
  obtain ⟨oi, hoi, _⟩ := id hit
  obtain ⟨ol, hol, _⟩ := id hl
  have hS : (s.heap.push (nilO 0)).get? s.heap.objs.size = some (nilO 0) := Heap.get?_push_size _ rfl
  have ni : s.heap.objs.size ≠ it := Nat.ne_of_gt (Heap.lt_size hoi)
  have nl : s.heap.objs.size ≠ l := Nat.ne_of_gt (Heap.lt_size hol)
  refine ⟨⟨_, hS, rfl⟩, F.args_list_init_2 _ _, ?_⟩
  show wpAny _ A.in1.in1 (do let old ← Builtin.List.listItems (.ref s.heap.objs.size); Builtin.List.listUpdate (.ref s.heap.objs.size) (fun _ => #[]); letGo old.toList.reverse; Builtin.List.listExtendWith (.ref s.heap.objs.size) (.ref it) .none) _ _ _
  refine wpAny_bind ?_; unfold Builtin.List.listItems
  refine wpAny_bind (wpAny_seqItems hS rfl (wpAny_pure ?_))
  show wpAny _ _ (updateSeq s.heap.objs.size (fun _ => #[]) >>= fun _ => letGo (#[] : Array Value).toList.reverse >>= fun _ => Builtin.List.listExtendWith (.ref s.heap.objs.size) (.ref it) .none) _ _ _
  refine wpAny_bind (wpAny_updateSeq hS rfl ?_)
  have hS2 := Heap.get?_update_self (Obj.mapSeq (fun _ => (#[] : Array Value))) hS rfl
  have oth : ∀ b o, b ≠ s.heap.objs.size → s.heap.get? b = some o → ((s.heap.push (nilO 0)).update s.heap.objs.size (Obj.mapSeq (fun _ => (#[] : Array Value)))).get? b = some o :=
    fun b o hb e => (Heap.get?_update_other _ _ (Ne.symm hb)).trans (Heap.get?_push_of_some _ e)
  refine wpAny_bind (wpAny_letGo ?_)
  refine rev_extend (A := A.in1) (s := { s with heap := _ }) hh (hit.at fun o e => oth _ _ ni.symm e) (hl.at fun o e => oth _ _ nl.symm e) hne ni nl hS2 hn fun h' tk acc c' hk hz hacc => ⟨rfl, ?_⟩
  exact hQ h' tk acc c' (fun b o hb e => hk b o (Nat.ne_of_lt (Heap.lt_size e)) hb (oth b o (Nat.ne_of_lt (Heap.lt_size e)) e)) hz hacc
end
section
variable {X : Cx}
/-- list(reversed(x)), x a list: a new list -/
def tListRev (K : PySem.W.Frag) (te : TE) : TE := fun σ H Q => te σ H fun v H1 => ∃ (a : Addr) (xs : List V), v = .ref a ∧ SqL K H1 a xs ∧ ∀ q, H1 q = none → Q (.ref q) (upd H1 q (.lst xs.reverse))
theorem pe_listRev {e : Expr} {te : TE} {p p2 pos pos2 : Pos} (hc : X.calm = true) (hg : Gl X "list") (hm : X.mg "list" = none) (hg2 : Gl X "reversed") (hm2 : X.mg "reversed" = none) (he : PE X e te)
    (hs : starEach [e] X.env = (false, eval e X.env) :: starEach [] X.env := by rfl)
    (hs2 : starEach [.Call (.Name "reversed" p2) [e] [] pos2] X.env = (false, eval (.Call (.Name "reversed" p2) [e] [] pos2) X.env) :: starEach [] X.env := by rfl) :
    PE X (.Call (.Name "list" p) [.Call (.Name "reversed" p2) [e] [] pos2] [] pos) (tListRev X.K te) := by
  refine ⟨fun pins s σ H Q I h => Call_ (ld_blt I hg hm (show bootBuiltins ("list" : Str) = some (.type "list") by decide +kernel) (PyProof.Rows.callWith_type1 (args_cons (Call_ (ld_blt I hg2 hm2 PyProof.Rows.boot_reversed (PyProof.Rows.callWith_type1 (args_cons (thn (he.run pins s σ H _ I h) fun u s1 ⟨v, H1, I1, r1, q1⟩ => args_nil ?_) hs) hs rfl))) hs2) hs2 rfl))⟩
  obtain ⟨a, xs, ev, hq, q⟩ := q1
  subst ev; obtain rfl : u = Value.ref a := r1
  obtain ⟨its, rv, pl, hz⟩ := I1.list hq
  refine call_reversed_list pl.isList (args_nil ?_)
  have k0 : ∀ b o, s1.heap.get? b = some o → (s1.heap.push (revObj a ((its.toArray.size : Int) - 1))).get? b = some o := fun b o z => Heap.get?_push_of_some _ z
  have I2 : Inv X pins σ H1 { s1 with heap := s1.heap.push (revObj a ((its.toArray.size : Int) - 1)) } := I1.kept (t' := s1.toks) k0
  have hl := pl.isList
  obtain ⟨ol, hol, _⟩ := id hl
  have hne : a ≠ s1.heap.objs.size := Nat.ne_of_lt (Heap.lt_size hol)
  have hn : its.toArray.size ≤ sizeLine := by rw [List.size_toArray, ← rv.length]; exact hz
  have hf := I1.hok.fresh (Nat.le_refl s1.heap.objs.size)
  refine call_list_rev (s := { s1 with heap := s1.heap.push (revObj a ((its.toArray.size : Int) - 1)) }) (I1.ok.hd hc) ⟨_, Heap.get?_push_size _ rfl, rfl, rfl⟩ (hl.push _) hne hn fun h' tk acc c' hk hS hi => ?_
  have hsz : s1.heap.objs.size ≤ (s1.heap.push (revObj a ((its.toArray.size : Int) - 1))).objs.size := by rw [Heap.size_push]; omega
  have kk : ∀ b o, s1.heap.get? b = some o → h'.get? b = some o := fun b o z => hk b o (Nat.ne_of_lt (Heap.lt_size z)) (k0 b o z)
  refine ⟨.ref (s1.heap.push (revObj a ((its.toArray.size : Int) - 1))).objs.size, upd H1 (s1.heap.push (revObj a ((its.toArray.size : Int) - 1))).objs.size (.lst xs.reverse),
    I1.laid kk hsz (show ObjOk X.prog X.w _ _ _ (.lst xs.reverse) from ⟨by rw [List.length_reverse]; exact hz, acc.toList, c', vals_rev rv hi, ?_⟩), rfl, q _ (I1.hok.fresh hsz)⟩
  rw [Array.toArray_toList]
  exact hS
end
end Rc
namespace Rc
open PySem PySem.Spec PyProof.Rows L2

/-! rows: the lists of a list of lists, at the end of what is own -/
abbrev RI := Addr × List Int
def rowHO (r : RI) : Addr × HO := (r.1, .lst (r.2.map V.int))
def rowsOwn (rows : List RI) : List (Addr × HO) := rows.map rowHO
def rowRef (r : RI) : V := V.ref r.1
section
variable {H0 H H' : Hp} {own pre : List (Addr × HO)} {p : Addr} {o : HO} {rows : List RI}
theorem Fr.rowmem (f : Fr H0 H (pre ++ rowsOwn rows)) {r : RI} (h : r ∈ rows) : H r.1 = some (.lst (r.2.map V.int)) :=
  f.mem (List.mem_append_right _ (List.mem_map.mpr ⟨r, h, rfl⟩))
theorem Fr.rowat (f : Fr H0 H (pre ++ rowsOwn rows)) {i : Nat} (d : RI) (h : i < rows.length) : H (rows.getD i d).1 = some (.lst ((rows.getD i d).2.map V.int)) :=
  f.rowmem (getD_mem h)
/-- the front list becomes a row -/
theorem Fr.rowin {x : List Int} (f : Fr H0 H ((p, .lst (x.map V.int)) :: (pre ++ rowsOwn rows))) : Fr H0 H (pre ++ rowsOwn (rows ++ [(p, x)])) := by
  refine f.perm ?_
  have e : pre ++ rowsOwn (rows ++ [(p, x)]) = (pre ++ rowsOwn rows) ++ [(p, HO.lst (x.map V.int))] := by
    unfold rowsOwn; rw [List.map_append, List.append_assoc]; rfl
  rw [e]
  exact (List.perm_append_singleton _ _).symm
theorem set_sub {α : Type} : ∀ {l : List α} {i : Nat} {z : α}, i < l.length → ∃ l', (l.set i z).Perm (z :: l') ∧ l'.Sublist l
  | [], _, _, h => by simp at h
  | x :: l, 0, z, _ => ⟨l, List.Perm.refl _, List.sublist_cons_self _ _⟩
  | x :: l, i + 1, z, h => by
    obtain ⟨l', h1, h2⟩ := set_sub (l := l) (i := i) (z := z) (by simpa using h)
    exact ⟨x :: l', (h1.cons x).trans (List.Perm.swap _ _ _), h2.cons_cons x⟩
/-- the front list becomes the i-th row -/
theorem Fr.rowset {x : List Int} {i : Nat} (f : Fr H0 H ((p, .lst (x.map V.int)) :: (pre ++ rowsOwn rows))) (h : i < rows.length) : Fr H0 H (pre ++ rowsOwn (rows.set i (p, x))) := by
  obtain ⟨l', h1, h2⟩ := set_sub (z := ((p, x) : RI)) h
  have e1 : (rowsOwn (rows.set i (p, x))).Perm (rowHO (p, x) :: rowsOwn l') := h1.map rowHO
  have g : Fr H0 H ((p, .lst (x.map V.int)) :: (pre ++ rowsOwn l')) := f.sub (List.Sublist.cons_cons _ (List.Sublist.append (List.Sublist.refl _) (h2.map _)))
  refine g.perm ?_
  have e2 : ((p, HO.lst (x.map V.int)) :: (pre ++ rowsOwn l')).Perm (pre ++ ((p, HO.lst (x.map V.int)) :: rowsOwn l')) := List.perm_middle.symm
  exact e2.trans (List.Perm.append_left _ e1.symm)
theorem nodup_split {α β : Type} {f : α → β} {l : List α} {i : Nat} (hn : (l.map f).Nodup) (h : i < l.length) {j : Nat} (hj : j < l.length) (hne : j ≠ i) : f l[j] ≠ f l[i] := by
  intro e
  have h1 : (l.map f)[j]'(by simpa using hj) = (l.map f)[i]'(by simpa using h) := by simpa using e
  exact hne ((List.getElem_inj (h₀ := by simpa using hj) (h₁ := by simpa using h) hn).mp h1)
/-- a row is written -/
theorem Fr.rowwr {i : Nat} {y : List Int} (f : Fr H0 H (pre ++ rowsOwn rows)) (h : i < rows.length) : Fr H0 (upd H rows[i].1 (.lst (y.map V.int))) (pre ++ rowsOwn (rows.set i (rows[i].1, y))) := by
  obtain ⟨l', h1, h2⟩ := set_sub (z := ((rows[i].1, y) : RI)) h
  obtain ⟨l2, h3, h4⟩ := set_sub (z := rows[i]) h
  rw [List.set_getElem_self] at h3
  have hlen : l'.Perm l2 := by
    have a1 : (rows.set i (rows[i].1, y)).Perm ((rows[i].1, y) :: rows.eraseIdx i) := set_er h
    have a2 : rows.Perm (rows[i] :: rows.eraseIdx i) := by
      have := set_er (l := rows) (z := rows[i]) h
      rwa [List.set_getElem_self] at this
    exact ((List.perm_cons _).mp (h1.symm.trans a1)).trans ((List.perm_cons _).mp (h3.symm.trans a2)).symm
  have e0 : (pre ++ rowsOwn rows).Perm (rowHO rows[i] :: (pre ++ rowsOwn l')) :=
    (List.Perm.append_left _ ((h3.trans (hlen.symm.cons _)).map rowHO)).trans List.perm_middle
  have g := (f.perm e0 : Fr H0 H ((rows[i].1, .lst (rows[i].2.map V.int)) :: (pre ++ rowsOwn l')))
  refine (Fr.wr (o' := .lst (y.map V.int)) g).perm ?_
  have e1 : (rowsOwn (rows.set i (rows[i].1, y))).Perm (rowHO (rows[i].1, y) :: rowsOwn l') := h1.map rowHO
  exact List.perm_middle.symm.trans (List.Perm.append_left _ e1.symm)
where
  set_er {α : Type} : ∀ {l : List α} {i : Nat} {z : α}, i < l.length → (l.set i z).Perm (z :: l.eraseIdx i)
  | [], _, _, h => by simp at h
  | x :: l, 0, z, _ => List.Perm.refl _
  | x :: l, i + 1, z, h => by
    have := set_er (l := l) (i := i) (z := z) (by simpa using h)
    exact (this.cons x).trans (List.Perm.swap _ _ _)
theorem Fr.rowsrev (f : Fr H0 H (pre ++ rowsOwn rows)) : Fr H0 H (pre ++ rowsOwn rows.reverse) := by
  refine f.perm (List.Perm.append_left _ ?_)
  unfold rowsOwn; rw [List.map_reverse]
  exact (List.reverse_perm _).symm
theorem atLastD {α : Type} {f : α → V} {xs : List α} (d : α) (h : 0 < xs.length) : atI (xs.map f) (-1) = some (f (xs.getD (xs.length - 1) d)) := by
  have e : xs.getLastD d = xs.getD (xs.length - 1) d := by
    rw [List.getLastD_eq_getLast?, List.getLast?_eq_getElem?, List.getD_eq_getElem?_getD]
  rw [← e]; exact atLast d h
theorem Fr.rowwrD {i : Nat} {y : List Int} {o' : HO} (d : RI) (f : Fr H0 H (pre ++ rowsOwn rows)) (h : i < rows.length) (eo : o' = .lst (y.map V.int)) : Fr H0 (upd H (rows.getD i d).1 o') (pre ++ rowsOwn (rows.set i ((rows.getD i d).1, y))) := by
  subst eo
  have e : rows.getD i d = rows[i] := by rw [List.getD_eq_getElem?_getD, List.getElem?_eq_getElem h]; rfl
  rw [e]; exact f.rowwr h
theorem rowRef_set (rows : List RI) (i : Nat) (d : RI) (y : List Int) : List.map rowRef rows = List.map rowRef (rows.set i ((rows.getD i d).1, y)) := by
  apply List.ext_getElem?
  intro j
  by_cases hj : i = j
  · subst hj
    by_cases hl : i < rows.length
    · simp [hl, rowRef, List.getD_eq_getElem?_getD]
    · simp [hl]
  · simp [hj]
/-- a new list of new lists, from a call -/
theorem Fr.crows (f : Fr H0 H own) (s : Same H H') (h : H p = none) (e : H' p = some o) (hr : ∀ z ∈ rows, H z.1 = none ∧ H' z.1 = some (.lst (z.2.map V.int))) (hn : (p :: rows.map (·.1)).Nodup) :
    Fr H0 H' ((p, o) :: (own ++ rowsOwn rows)) := by
  have g := f.cnew s h e
  refine ⟨g.same, fun z hz => ?_, ?_⟩
  · rcases List.mem_cons.mp hz with rfl | hz
    · exact g.frs _ List.mem_cons_self
    · rcases List.mem_append.mp hz with hz | hz
      · exact g.frs z (List.mem_cons_of_mem _ hz)
      · obtain ⟨r, hr', rfl⟩ := List.mem_map.mp hz
        exact ⟨f.fresh (hr r hr').1, (hr r hr').2⟩
  · rw [List.map_cons, List.map_append]
    have e1 : (rowsOwn rows).map (·.1) = rows.map (·.1) := by unfold rowsOwn; rw [List.map_map]; rfl
    rw [e1]
    have hn' := List.nodup_cons.mp hn
    have gn := List.nodup_cons.mp g.nd
    refine List.nodup_cons.mpr ⟨fun hm => ?_, List.nodup_append.mpr ⟨gn.2, hn'.2, fun a ha b hb hab => ?_⟩⟩
    · rcases List.mem_append.mp hm with hm | hm
      · exact gn.1 hm
      · exact hn'.1 hm
    · subst hab
      obtain ⟨z, hz, rfl⟩ := List.mem_map.mp ha
      obtain ⟨r, hr', e2⟩ := List.mem_map.mp hb
      have := (hr r hr').1
      rw [e2, (f.frs z hz).2] at this
      cases this
/-- what is handed back: outer list and rows -/
theorem Fr.rowsback (f : Fr H0 H ((p, o) :: rowsOwn rows)) : (∀ z ∈ rows, H0 z.1 = none ∧ H z.1 = some (.lst (z.2.map V.int))) ∧ (p :: rows.map (·.1)).Nodup := by
  refine ⟨fun z hz => f.frs (rowHO z) (List.mem_cons_of_mem _ (List.mem_map.mpr ⟨z, hz, rfl⟩)), ?_⟩
  have := f.nd
  rw [List.map_cons] at this
  have e1 : (rowsOwn rows).map (·.1) = rows.map (·.1) := by unfold rowsOwn; rw [List.map_map]; rfl
  rwa [e1] at this
end
/-- rows from outside -/
def Rows (H : Hp) (rows : List RI) : Prop := ∀ r ∈ rows, H r.1 = some (.lst (r.2.map V.int))
theorem Rows.same {H H' : Hp} {rows : List RI} (h : Rows H rows) (s : Same H H') : Rows H' rows := fun r hr => s _ _ (h r hr)
theorem Rows.at {H : Hp} {rows : List RI} (h : Rows H rows) {i : Nat} (d : RI) (hi : i < rows.length) : H (rows.getD i d).1 = some (.lst ((rows.getD i d).2.map V.int)) := h _ (getD_mem hi)
theorem rows_nil {H : Hp} : Rows H [] := fun _ h => nomatch h
theorem rows_cons {H : Hp} {a : Addr} {x : List Int} {rows : List RI} (h : H a = some (.lst (x.map V.int))) (hr : Rows H rows) : Rows H ((a, x) :: rows) := fun r h' => by
  rcases List.mem_cons.mp h' with rfl | h'
  · exact h
  · exact hr r h'

/-! whole numbers among scalars -/
def wholeV (v : V) : Bool := is_int v && !is_bool v
theorem wholeV_int {v : V} (h : wholeV v = true) : ∃ z, v = V.int z := by
  cases v with
  | int z => exact ⟨z, rfl⟩
  | bl b => cases h
  | _ => cases h
theorem wholeV_of (z : Int) : wholeV (V.int z) = true := rfl
/-- a part of a word for m heaps -/
def wordPart (m : Nat) : V → Bool
  | .int x => decide (0 ≤ x) && decide (x < (m : Int))
  | _ => false
theorem wordPart_no {m : Nat} {v : V} (h : wholeV v = false) : wordPart m v = false := by
  cases v with
  | int z => cases h
  | _ => rfl
theorem wp_no {m : Nat} {v : V} (h : wholeV v = false) : V.bl false = V.bl (wordPart m v) := by rw [wordPart_no h]
theorem wp_f1 {m : Nat} {z : Int} (h : ¬ 0 ≤ z) : V.bl false = V.bl (wordPart m (V.int z)) := by show V.bl false = V.bl (decide (0 ≤ z) && decide (z < (m : Int))); rw [decide_eq_false h]; rfl
theorem wp_f2 {m : Nat} {z : Int} (h : ¬ z < (m : Int)) : V.bl false = V.bl (wordPart m (V.int z)) := by show V.bl false = V.bl (decide (0 ≤ z) && decide (z < (m : Int))); rw [decide_eq_false h, Bool.and_false]
theorem wp_t {m : Nat} {z : Int} (h : 0 ≤ z) (h' : z < (m : Int)) : V.bl true = V.bl (wordPart m (V.int z)) := by show V.bl true = V.bl (decide (0 ≤ z) && decide (z < (m : Int))); rw [decide_eq_true h, decide_eq_true h']; rfl
def isWordV (m : Nat) (word : List V) (n : Int) : Bool := decide ((word.length : Int) = n) && word.all (wordPart m)
theorem isWordV_ints {m : Nat} {w : List Int} {n : Int} (h : ∀ x ∈ w, 0 ≤ x ∧ x < m) (hn : (w.length : Int) = n) : isWordV m (w.map V.int) n = true := by
  unfold isWordV
  rw [List.length_map, decide_eq_true hn, Bool.true_and, List.all_eq_true]
  intro v hv
  obtain ⟨x, hx, rfl⟩ := List.mem_map.mp hv
  show (decide (0 ≤ x) && decide (x < (m : Int))) = true
  rw [decide_eq_true (h x hx).1, decide_eq_true (h x hx).2]; rfl
/-- the two parts of a list beside a place -/
theorem cut_lo {α : Type} {xs : List α} {i : Int} (h0 : 0 ≤ i) (h1 : i ≤ xs.length) : cutL xs none (some i) = xs.take i.toNat := by
  obtain ⟨k, rfl⟩ := Int.eq_ofNat_of_zero_le h0
  unfold cutL
  rw [HT.sIx_none, HT.sIx_nat, Int.toNat_natCast, List.drop_zero, Nat.sub_zero, Nat.min_eq_left (by omega)]
theorem cut_hi {α : Type} {xs : List α} {i : Int} (h0 : 0 ≤ i) (h1 : i ≤ xs.length) : cutL xs (some i) none = xs.drop i.toNat := by
  obtain ⟨k, rfl⟩ := Int.eq_ofNat_of_zero_le h0
  unfold cutL
  rw [HT.sIx_none, HT.sIx_nat, Int.toNat_natCast, Nat.min_eq_left (by omega)]
  exact List.take_of_length_le (by rw [List.length_drop]; omega)
theorem cut_mid {α : Type} {xs : List α} {i j : Int} (h0 : 0 ≤ i) (hij : i ≤ j) (h1 : j ≤ xs.length) : cutL xs (some i) (some j) = (xs.drop i.toNat).take (j - i).toNat := by
  obtain ⟨k, rfl⟩ := Int.eq_ofNat_of_zero_le h0
  obtain ⟨l, rfl⟩ := Int.eq_ofNat_of_zero_le (show 0 ≤ j by omega)
  unfold cutL
  rw [HT.sIx_nat, HT.sIx_nat, Int.toNat_natCast, Nat.min_eq_left (by omega), Nat.min_eq_left (by omega)]
  congr 1; omega
theorem cut_erase {α : Type} {xs : List α} {i : Int} (h0 : 0 ≤ i) (h1 : i < xs.length) : cutL xs none (some i) ++ cutL xs (some (i + 1)) none = xs.eraseIdx i.toNat := by
  rw [cut_lo h0 (by omega), cut_hi (by omega) (by omega), show (i + 1).toNat = i.toNat + 1 by omega]
  exact (List.eraseIdx_eq_take_drop_succ _ _).symm
theorem lc_lx {α β : Type} {enc : β → V} {f : α → β} {ns : List α} {i : Nat} {y : α} {v : V} (h : ns[i]? = some y) (e : v = enc (f y)) : HO.lst ((((ns.take i).map f).map enc) ++ [v]) = .lst (((ns.take (i + 1)).map f).map enc) := by
  rw [e]; exact lc_l h
theorem lc_rx {β : Type} {enc : β → V} (f : Nat → β) (i : Nat) {v : V} (e : v = enc (f i)) : HO.lst ((((List.range i).map f).map enc) ++ [v]) = .lst (((List.range (i + 1)).map f).map enc) := by
  rw [e]; exact lc_r f i
theorem cut_one {α : Type} {xs : List α} (h : 0 < xs.length) : cutL xs (some 1) none = xs.drop 1 := cut_hi (by decide) (by omega)
theorem lc_app {β : Type} {enc : β → V} {xs ys : List β} {x : β} (e : xs ++ [x] = ys) : HO.lst (xs.map enc ++ [enc x]) = .lst (ys.map enc) := by
  rw [← e, List.map_append]; rfl
theorem count_filter (w : List Int) (a : Int) : (List.map (fun y : Int => y) (List.filter (fun y : Int => decide (y = a)) w)).length = w.count a := by
  rw [List.length_map, List.count_eq_length_filter]
  congr 1
end Rc
namespace Rc
open PySem PySem.Spec PyProof.Rows L2

/-! list.count of a truth -/
section
variable {X : Cx}
theorem bools_of_vals : ∀ {bs : List Bool} {us : List Value}, Vals (bs.map V.bl) us → us = bs.map Value.bool
  | [], _, h => by cases h; rfl
  | b :: bs, _, h => by
    cases h with
    | cons r rr =>
      cases r
      rw [bools_of_vals rr]; rfl
theorem countP_bools (k : Bool) : ∀ bs : List Bool, (bs.map Value.bool).countP (isBoolOf k) = bs.count k
  | [] => rfl
  | b :: bs => by
    rw [List.map_cons, List.countP_cons, List.count_cons, countP_bools k bs] <;> rfl
def rCntB (K : PySem.W.Frag) : V → List V → Hp → VK → Prop := fun x xs H Q => ∃ (p : Addr) (bs : List Bool) (k : Bool), x = .ref p ∧ xs = [.bl k] ∧ SqL K H p (bs.map V.bl) ∧ Q (.int (bs.count k : Nat)) H
theorem mt_lcountB : MtR X "list.count" (rCntB X.K) := by
  intro pins s σ H x xs v us Q I rx rxs h
  obtain ⟨p, bs, k, rfl, rfl, hs, q⟩ := h
  cases rx
  obtain ⟨u, rfl, ru⟩ := rxs.one
  cases ru
  obtain ⟨its, rv, ⟨⟨cls, dd, data, sl⟩, n, ho, hc, hdn, hd⟩, hlen⟩ := I.list hs
  simp only at hc hd
  subst hc hd
  have ei := bools_of_vals rv
  subst ei
  refine call_meets PySem.F.slot_list_count ⟨_, ho, rfl⟩ PySem.F.entry_list_count (PySem.F.args_list_count_2 _ _)
    (SeqAt.list_countAt p (bs.map Value.bool).toArray n dd sl (.bool k) (isBoolOf k)) ⟨ho, fun y hy => ?_, ?_⟩
  · have hy' : y ∈ bs.map Value.bool := by simpa using hy
    obtain ⟨b, _, rfl⟩ := List.mem_map.mp hy'
    exact SeqAt.EqAt.bool_bool b k
  · refine ⟨.int (bs.count k : Nat), H, I.tok _, ⟨s.toks, ?_⟩, q⟩
    show Value.int (((bs.map Value.bool).toArray.toList.countP (isBoolOf k) : Nat) : Int) s.toks = Value.int ((bs.count k : Nat) : Int) s.toks
    rw [show (bs.map Value.bool).toArray.toList = bs.map Value.bool from rfl, countP_bools]
end

/-! the exception that a suite holds -/
section
variable {X : Cx} {a : Addr} {oe : Obj} {cls : Value} {d : Option Addr}
/-- isinstance(e, c), e the exception that the suite holds: of the class D -/
def rIsP (K : PySem.W.Frag) (a : Addr) (cls : Value) (d : Option Addr) : List V → Hp → VK → Prop := fun xs H Q =>
  ∃ (D : Addr) (c : V) (cv : Value) (b : Bool), cls = .ref D ∧ d = none ∧ ExcC K D ∧ xs = [.ref a, c] ∧ (∀ u, RelV c u → u = cv) ∧ PySem.W.kitOne K (.ref D) cv = some b ∧ Q (.bl b) H
theorem call_isP (hz : Zc cls d oe) (hf : ∃ vs, oe.data = .fields vs) (hp : (a, oe) ∈ X.pn) : CallR X (.builtin "isinstance") (rIsP X.K a cls d) := by
  intro pins s σ H xs us Q I r h
  obtain ⟨D, c, cv, b, rfl, rfl, C, rfl, hcv, e, q⟩ := h
  cases r with
  | cons rx rr =>
    cases rr with
    | cons rt rr =>
      cases rr
      cases rx
      have ec := hcv _ rt
      subst ec
      obtain ⟨hget, _⟩ := I.pin (a, oe) (List.mem_append.mpr (.inl hp))
      obtain ⟨vs, hv⟩ := hf
      have J : PySem.W.InstAt s.heap a oe D none := by
        obtain ⟨oc, od, oda, osl⟩ := oe
        obtain ⟨h1, h2⟩ := hz
        dsimp only at h1 h2 hv
        subst h1 h2 hv
        exact ⟨hget, rfl, rfl, trivial⟩
      exact PySem.W.kia_one (PySem.W.handS_kitx_exc C.hg C.hk C.hs C.hd C.ha C.hn C.ht C.hm) I.kIn J e (fun z => nomatch z) fun tk => ⟨.bl b, H, I.kept (t' := tk) fun _ _ z => z, rfl, q⟩
theorem rel_ref {C : Addr} : ∀ u, RelV (.ref C) u → u = .ref C := fun u h => h
theorem rel_ty {t : String} : ∀ u, RelV (.ty t) u → u = .type t := fun u h => h
end

/-! defs that are called within a suite, with the exception -/
open L2H (RoomH PinOk cxH inv_startH)
/-- p's object is the exception that is handled, of the class D -/
structure HotZ (A : Around) (D : Addr) (p : Addr × Obj) : Prop where
  hd : A.handled = some (.ref p.1)
  cl : Zc (.ref D) none p.2
  dt : ∃ vs, p.2.data = .fields vs
structure FnE (P : Program) (w : World) (K : PySem.W.Frag) (mg : Str → Option Value) (base : Heap) (k : Nat) (f : Addr) (fd : FuncData) (ps : List Str) (sp : Addr → Addr → Sp) : Prop where
  len : ∀ a D vs H Q E, sp a D vs H Q E → vs.length = ps.length
  run : ∀ (A : Around) (outer : List Env) (s : Shared) (H : Hp) (args : Args) (us : List Value) (vs : List V) (Q : VK) (E : XK) (p : Addr × Obj) (D : Addr), RoomH k A → HotZ A D p → PinOk outer H s p → Env0 P w K mg base A outer s H → BindsTo s fd args (ps.zip us) → Vals vs us → sp p.1 D vs H Q E →
    codeAny (model P w) A (.call (.ref f) args) (CR CX0 outer P w H s Q E) s
theorem fn_ofE {P : Program} {w : World} {K : PySem.W.Frag} {mg : Str → Option Value} {base : Heap} {k : Nat} {f : Addr} {name qual : Str} {params : Arguments} {body : List Stmt} {scope : Scope} {dV kV doc pm cdv ct oc : Value} {an od : Option Addr}
    {osl : Array (Option Value)} {N ps : List Str} {sp : Addr → Addr → Sp} (lk : K.lookup f = some ⟨oc, od, .func (PySem.W.fnOf name qual params body scope dV kV doc pm an cdv ct), osl⟩) (hcd : PySem.W.codeIn K cdv qual = true) (S : FnScope N ps scope)
    (len : ∀ a D vs H Q E, sp a D vs H Q E → vs.length = ps.length)
    (hbody : ∀ (A : Around) (outer : List Env) (s : Shared) (H : Hp) (vs : List V) (Q : VK) (E : XK) (p : Addr × Obj) (D : Addr), HotZ A D p → RoomH k (A.deeper (envOfC qual scope s.heap.objs.size f cdv)) → sp p.1 D vs H Q E →
      ∃ t, PSs (cxH CX0 P w K mg base N qual scope f cdv A outer s H E p) body t ∧ t { nx := fun _ H' => Q .non H', rt := Q } (L2.start N vs) H) :
    FnE P w K mg base (k + 1) f (PySem.W.fnOf name qual params body scope dV kV doc pm an cdv ct) ps sp := by
  refine ⟨len, fun A outer s H args us vs Q E p D hr hot hpin e0 hb r hsp => ?_⟩
  have hl := len _ _ _ _ _ _ hsp
  have KX : K.In s.heap := e0.mod.kin.keeps fun b o e => (e0.bs b o e).1
  have lim : s.heap.NoLimit := e0.mod.nolimit.keeps fun b o e => (e0.bs b o e).1
  have hkind : ∀ y ∈ ps.zip us, scope.names.lookup y.1 = some .local ∨ (scope.names.lookup y.1 = some .cell ∧ ((cellsFrom (s.heap.objs.size + 1) scope.names []).lookup y.1).isSome = true) := fun ⟨n, v⟩ hy => by
    rcases S.par n (List.of_mem_zip hy).1 with q | q
    · exact .inl q
    · exact .inr ⟨q, PySem.W.cellsFrom_some _ _ _ (.inl q)⟩
  refine codeAny_call_function hr.depth (KX _ _ lk) rfl S.co S.gen rfl (PySem.W.codeRec_of KX hcd) (hb _ _ _ _ ?_)
  refine wpAny_newFunctionEnv_cells S.kind hkind fun env he s1 x => ?_
  subst he
  refine ⟨lim.keeps x.toInCall.keep, codeAny_func ?_⟩
  obtain ⟨t, ht, hq⟩ := hbody A outer s H vs Q E p D hot (hr.deeper _) hsp
  have I : Inv (cxH CX0 P w K mg base N qual scope f cdv A outer s H E p) [] (L2.start N vs) H s1 := inv_startH S hpin e0 hl r x
  refine wpAny_mono (ht.run [] s1 (L2.start N vs) H _ I hq) (fun fl s' hs => ?_) fun e s' hs => hs
  have fin : ∀ {σ' : L2.St} {H' : Hp} {v : V} {u : Value}, Inv (cxH CX0 P w K mg base N qual scope f cdv A outer s H E p) [] σ' H' s' → RelV v u → Q v H' → CE outer P w H s Q u s' :=
    fun {σ' H' v u} J rv q => ⟨v, H', J.os, J.bare, J.base, J.hok, rv, q⟩
  cases fl with
  | ret u =>
    obtain ⟨v, σ', H', J, rv, q⟩ := hs
    exact fin J rv q
  | next =>
    obtain ⟨σ', H', J, q⟩ := hs
    exact fin (v := V.non) (u := Value.none) J rfl q
  | brk =>
    obtain ⟨_, _, _, q⟩ := hs
    exact False.elim q
  | cont =>
    obtain ⟨_, _, _, q⟩ := hs
    exact False.elim q
section
variable {P : Program} {w : World} {K : PySem.W.Frag} {mg : Str → Option Value} {base : Heap}
/-- as Fun.ok, for a def that a suite calls -/
theorem Fun.okE {x qual : Str} {st : Stmt} {f : Addr} {fd : FuncData} {N ps : List Str} {k : Nat} {sp : Addr → Addr → Sp} (F : Fun K x qual st f fd) (S : FnScope N ps (defScope st)) (len : ∀ a D vs H Q E, sp a D vs H Q E → vs.length = ps.length)
    (hbody : ∀ (cdv : Value) (A : Around) (outer : List Env) (s : Shared) (H : Hp) (vs : List V) (Q : VK) (E : XK) (p : Addr × Obj) (D : Addr), HotZ A D p → RoomH k (A.deeper (envOfC qual (defScope st) s.heap.objs.size f cdv)) → sp p.1 D vs H Q E →
      ∃ t, PSs (cxH CX0 P w K mg base N qual (defScope st) f cdv A outer s H E p) (defBody st) t ∧ t { nx := fun _ H' => Q .non H', rt := Q } (start N vs) H) : FnE P w K mg base (k + 1) f fd ps sp := by
  obtain ⟨oc, od, kV, doc, pm, an, cdv, ct, osl, rfl, lk, hcd⟩ := F.ex
  exact fn_ofE lk hcd S len fun A outer s H vs Q E p D hz hr hsp => hbody cdv A outer s H vs Q E p D hz hr hsp
end
theorem roomS {X : Cx} {k : Nat} {a : Addr} {pn : List (Addr × Obj)} (hr : Room k X.A) : RoomH k (X.suite a pn).A := ⟨hr.dp, hr.un⟩
section
variable {X : Cx} {k : Nat} {f : Addr} {fd : FuncData} {ps : List Str} {sp : Addr → Addr → Sp} {x : Str} {q pos : Pos} {e : Expr} {es : List Expr} {t : TA} {a : Addr} {oe : Obj} {cls : Value} {d : Option Addr} {pn : List (Addr × Obj)}
/-- f(e, ..) within a suite, f asks about the exception -/
def tCallE (a : Addr) (cls : Value) (d : Option Addr) (sp : Addr → Addr → Sp) (t : TA) : TE := fun σ H Q => ∃ D, cls = .ref D ∧ d = none ∧ t σ H fun vs H1 => sp a D vs H1 Q E0
theorem pe_callE (hz : Zc cls d oe) (hf : ∃ vs, oe.data = .fields vs) (F : FnE X.prog X.w X.K X.mg X.base k f fd ps sp) (hr : RoomH k (X.suite a ((a, oe) :: pn)).A) (hg : Gl X x) (hm : X.mg x = some (.ref f)) (hk : PySem.W.keepIn X.K (.ref f) = true) (hb : Binds X.K fd ps [])
    (ha : PA (X.suite a ((a, oe) :: pn)) (e :: es) t) (hdb : (x == ("__debug__" : Str)) = false := by decide) (he : starEach (e :: es) X.env = (false, eval e X.env) :: starEach es X.env := by rfl) (hpl : (backTo pos (starEach es X.env)).any (·.1) = false := by rfl) :
    PE (X.suite a ((a, oe) :: pn)) (.Call (.Name x q) (e :: es) [] pos) (tCallE a cls d sp t) := by
  refine ⟨fun pins s σ H Q I h => ?_⟩
  obtain ⟨D, rfl, rfl, h⟩ := h
  have hg' : Gl (X.suite a ((a, oe) :: pn)) x := hg
  refine wpAny_Call_Name_kw (ld_glob I hg' hm ?_ hdb)
  refine PySem.W.callWith_K (h₀ := X.base) I.ok.mod.kin hk (thn (ha.run pos pins s σ H _ I h) fun us s1 ⟨vs, H1, I1, r, q⟩ => ⟨I1.kIn, ?_⟩) he hpl
  have hl : us.length = ps.length := by rw [← r.length]; exact F.len _ _ _ _ _ _ q
  have b := hb s1 us I1.kIn (by rw [List.append_nil]; exact hl)
  rw [List.append_nil] at b
  have P1 := I1.pin (a, oe) (List.mem_append_left _ List.mem_cons_self)
  have hpin : PinOk X.stack H1 s1 (a, oe) := ⟨P1.1, P1.2.1, fun hm => (List.mem_cons.mp (I1.stkSub a hm)).elim P1.2.2.1 P1.2.2.2.1, P1.2.2.2.2⟩
  refine wpAny_call (codeAny_mono (F.run (X.suite a ((a, oe) :: pn)).A X.stack s1 H1 ⟨us, []⟩ us vs Q E0 (a, oe) D hr ⟨rfl, hz, hf⟩ hpin I1.env0 b r q) fun r s' hq => ?_)
  cases r with
  | error e => exact False.elim hq
  | ok fl =>
    cases fl with
    | ret u => exact I1.after hq
    | next => exact False.elim hq
    | brk => exact False.elim hq
    | cont => exact False.elim hq
end

/-! facts of the top's exception classes -/
/-- an exception class of the program, over ValueError -/
structure ExcT (K : PySem.W.Frag) (mg : Str → Option Value) (n : Str) (C : Addr) : Prop where
  g : mg n = some (.ref C)
  kp : PySem.W.keepIn K (.ref C) = true
  ex : PySem.W.excIn K C [.type "ValueError", .type "Exception", .type "BaseException", .type "object"] "ValueError.__new__" = true
  c : ExcC K C
  ty : PySem.W.typeIn K (.ref C) = some (.type "type")
  ve : PySem.W.subIn K (.ref C) (.type "ValueError") = some true
theorem any_isSome {α : Type} {o : Option α} {p : α → Bool} (h : o.any p = true) : o.isSome = true := by
  cases o with
  | none => cases h
  | some _ => rfl
section
variable {K : PySem.W.Frag} {mg : Str → Option Value} {n : Str} {C D : Addr} {b : Bool}
theorem ExcT.kit (T : ExcT K mg n C) (h : PySem.W.subIn K (.ref D) (.ref C) = some b) (hne : b = false → D ≠ C) : PySem.W.kitOne K (.ref D) (.ref C) = some b := by
  unfold PySem.W.kitOne
  by_cases e : D = C
  · subst e
    rw [if_pos (by simp)]
    cases b with
    | true => rfl
    | false => exact absurd rfl (hne rfl)
  · have e1 : ((Value.ref D) == (Value.ref C)) = false := by
      rw [beq_eq_false_iff_ne]; exact fun z => e (Value.ref.inj z)
    rw [e1, if_neg Bool.false_ne_true]
    unfold PySem.W.kitCls
    have e2 : (PySem.W.clsIn K C).isSome = true := any_isSome T.c.hd
    dsimp only
    rw [e2, T.ty]
    exact h
theorem ExcT.exm (T : ExcT K mg n C) (h : PySem.W.subIn K (.ref D) (.ref C) = some b) : PySem.W.exmOne K (.ref D) (.ref C) = some b := PySem.W.exm_ref T.c.hs T.c.hd T.ty h
theorem ExcT.kve (T : ExcT K mg n C) : PySem.W.kitOne K (.ref C) (.type "ValueError") = some true := by
  unfold PySem.W.kitOne
  rw [show ((Value.ref C) == (Value.type "ValueError")) = false from rfl, if_neg Bool.false_ne_true]
  exact T.ve
end
end Rc
namespace Rc
open PySem PySem.Spec PyProof.Rows L2

/-! tables: lists of objects; an object's content is told by g -/
abbrev RO (β : Type) := Addr × β
def rref {β : Type} (r : RO β) : V := V.ref r.1
def rosOwn {β : Type} (g : β → HO) (rows : List (RO β)) : List (Addr × HO) := rows.map fun r => (r.1, g r.2)
abbrev gI : List Int → HO := fun xs => .lst (xs.map V.int)
abbrev gB : List Bool → HO := fun xs => .lst (xs.map V.bl)
abbrev gV : List V → HO := fun xs => .lst xs
abbrev gVB : V × Bool → HO := fun p => .tup [p.1, V.bl p.2]
abbrev gII : Int × Int → HO := fun p => .tup [V.int p.1, V.int p.2]
section
variable {β : Type} {g : β → HO} {H0 H H' : Hp} {own pre : List (Addr × HO)} {ts : List (List (Addr × HO))} {T : List (Addr × HO)} {p : Addr} {o : HO} {rows : List (RO β)} {C : List β}
theorem flat_pull {α : Type} : ∀ {ts : List (List α)} {k : Nat} {T : List α}, ts[k]? = some T → ts.flatten.Perm (T ++ (ts.eraseIdx k).flatten)
  | [], _, _, h => by simp at h
  | t :: ts, 0, T, h => by cases (Option.some.inj h); exact List.Perm.refl _
  | t :: ts, k + 1, T, h => by
    have ih := flat_pull (ts := ts) (k := k) (T := T) h
    show (t ++ ts.flatten).Perm (T ++ (t ++ (ts.eraseIdx k).flatten))
    refine (List.Perm.append_left t ih).trans ?_
    rw [← List.append_assoc, ← List.append_assoc]
    exact List.Perm.append_right _ List.perm_append_comm
/-- a tail to the front of the tails -/
theorem Fr.tup (f : Fr H0 H (pre ++ ts.flatten)) (k : Nat) (h : ts[k]? = some T) : Fr H0 H (pre ++ (T :: ts.eraseIdx k).flatten) :=
  f.perm (List.Perm.append_left _ (flat_pull h))
/-- a tail is no longer told of -/
theorem Fr.tdrop (f : Fr H0 H (pre ++ ts.flatten)) (k : Nat) (h : ts[k]? = some T) : Fr H0 H (pre ++ (ts.eraseIdx k).flatten) :=
  (f.tup k h).sub (List.Sublist.append (List.Sublist.refl _) (List.sublist_append_right _ _))
theorem Fr.rmem (f : Fr H0 H (pre ++ ts.flatten)) (k : Nat) (h : ts[k]? = some (rosOwn g rows)) {r : RO β} (hr : r ∈ rows) : H r.1 = some (g r.2) := by
  refine f.mem (List.mem_append_right _ (List.mem_flatten.mpr ⟨_, List.mem_of_getElem? h, ?_⟩))
  exact List.mem_map.mpr ⟨r, hr, rfl⟩
/-- an own object becomes a row of a new tail -/
theorem Fr.rnew {x : β} (f : Fr H0 H ((p, g x) :: (pre ++ ts.flatten))) : Fr H0 H (pre ++ (rosOwn g [(p, x)] :: ts).flatten) :=
  f.perm List.perm_middle.symm
/-- an own object becomes the last row of the first tail -/
theorem Fr.radd {x : β} (f : Fr H0 H ((p, g x) :: (pre ++ (rosOwn g rows :: ts).flatten))) : Fr H0 H (pre ++ (rosOwn g (rows ++ [(p, x)]) :: ts).flatten) := by
  refine f.perm ?_
  have e : rosOwn g (rows ++ [(p, x)]) = rosOwn g rows ++ [(p, g x)] := by unfold rosOwn; rw [List.map_append]; rfl
  show ((p, g x) :: (pre ++ (rosOwn g rows ++ ts.flatten))).Perm (pre ++ (rosOwn g (rows ++ [(p, x)]) ++ ts.flatten))
  rw [e]
  refine List.perm_middle.symm.trans (List.Perm.append_left _ ?_)
  rw [List.append_assoc]
  exact List.perm_middle.symm
theorem Fr.rset {x : β} {i : Nat} (f : Fr H0 H ((p, g x) :: (pre ++ (rosOwn g rows :: ts).flatten))) (h : i < rows.length) : Fr H0 H (pre ++ (rosOwn g (rows.set i (p, x)) :: ts).flatten) := by
  obtain ⟨l', h1, h2⟩ := set_sub (z := ((p, x) : RO β)) h
  have e1 : (rosOwn g (rows.set i (p, x))).Perm ((p, g x) :: rosOwn g l') := h1.map _
  have s : List.Sublist ((p, g x) :: (pre ++ (rosOwn g l' ++ ts.flatten))) ((p, g x) :: (pre ++ (rosOwn g rows ++ ts.flatten))) :=
    List.Sublist.cons_cons _ (List.Sublist.append (List.Sublist.refl _) (List.Sublist.append (h2.map _) (List.Sublist.refl _)))
  refine (f.sub s).perm ?_
  refine List.perm_middle.symm.trans (List.Perm.append_left _ ?_)
  exact List.Perm.append_right _ e1.symm
/-- a row is written: own o at p becomes o' -/
theorem Fr.rwr {i : Nat} {y : β} {q : Addr} (f : Fr H0 H (pre ++ (rosOwn g rows :: ts).flatten)) (h : i < rows.length) (hq : q = (rows[i]).1) : Fr H0 (upd H q (g y)) (pre ++ (rosOwn g (rows.set i (q, y)) :: ts).flatten) := by
  subst hq
  obtain ⟨l', h1, h2⟩ := set_sub (z := (((rows[i]).1, y) : RO β)) h
  have p1 : rows.Perm (rows[i] :: rows.eraseIdx i) := by
    have := set_er' (l := rows) (z := rows[i]) h
    rwa [List.set_getElem_self] at this
  have p2 : (rows.set i ((rows[i]).1, y)).Perm (((rows[i]).1, y) :: rows.eraseIdx i) := set_er' h
  have e0 : (pre ++ (rosOwn g rows ++ ts.flatten)).Perm (((rows[i]).1, g (rows[i]).2) :: (pre ++ (rosOwn g (rows.eraseIdx i) ++ ts.flatten))) :=
    (List.Perm.append_left _ (List.Perm.append_right _ (p1.map _))).trans List.perm_middle
  have gg := f.perm e0
  refine (Fr.wr (o' := g y) gg).perm ?_
  have p3 : (rosOwn g (rows.set i ((rows[i]).1, y))).Perm (((rows[i]).1, g y) :: rosOwn g (rows.eraseIdx i)) := p2.map (fun r : RO β => (r.1, g r.2))
  refine List.perm_middle.symm.trans (List.Perm.append_left _ ?_)
  show ((((rows[i]).1, g y) :: rosOwn g (rows.eraseIdx i)) ++ ts.flatten).Perm (rosOwn g (rows.set i ((rows[i]).1, y)) ++ ts.flatten)
  exact List.Perm.append_right _ p3.symm
where
  set_er' {α : Type} : ∀ {l : List α} {i : Nat} {z : α}, i < l.length → (l.set i z).Perm (z :: l.eraseIdx i)
  | [], _, _, h => by simp at h
  | x :: l, 0, z, _ => List.Perm.refl _
  | x :: l, i + 1, z, h => by
    have := set_er' (l := l) (i := i) (z := z) (by simpa using h)
    exact (this.cons x).trans (List.Perm.swap _ _ _)
theorem Fr.rcat {rows' : List (RO β)} (f : Fr H0 H (pre ++ (rosOwn g rows :: rosOwn g rows' :: ts).flatten)) : Fr H0 H (pre ++ (rosOwn g (rows ++ rows') :: ts).flatten) := by
  have e : (rosOwn g rows :: rosOwn g rows' :: ts).flatten = (rosOwn g (rows ++ rows') :: ts).flatten := by
    show rosOwn g rows ++ (rosOwn g rows' ++ ts.flatten) = rosOwn g (rows ++ rows') ++ ts.flatten
    unfold rosOwn; rw [List.map_append, List.append_assoc]
  rw [← e]; exact f
theorem Fr.rrev (f : Fr H0 H (pre ++ (rosOwn g rows :: ts).flatten)) : Fr H0 H (pre ++ (rosOwn g rows.reverse :: ts).flatten) := by
  refine f.perm (List.Perm.append_left _ (List.Perm.append_right _ ?_))
  unfold rosOwn; rw [List.map_reverse]
  exact (List.reverse_perm _).symm

/-! addresses of rows and their contents -/
theorem snd_len (h : rows.map (·.2) = C) : rows.length = C.length := by rw [← h, List.length_map]
theorem snd_at (h : rows.map (·.2) = C) (d : β) (a : Addr) (i : Nat) (hi : i < C.length) : (rows.getD i (a, d)).2 = C.getD i d := by
  subst h
  rw [List.length_map] at hi
  simp [List.getD, hi]
theorem snd_get {i : Nat} {r : RO β} (h : rows.map (·.2) = C) (hr : rows[i]? = some r) : C[i]? = some r.2 := by subst h; rw [List.getElem?_map, hr]; rfl
theorem snd_app {x : β} (h : rows.map (·.2) = C) : (rows ++ [(p, x)]).map (·.2) = C ++ [x] := by rw [List.map_append, h]; rfl
theorem snd_set {x : β} {i : Nat} (h : rows.map (·.2) = C) : (rows.set i (p, x)).map (·.2) = C.set i x := by rw [List.map_set, h]
theorem snd_rev (h : rows.map (·.2) = C) : rows.reverse.map (·.2) = C.reverse := by rw [List.map_reverse, h]
theorem snd_cat {rows' : List (RO β)} {C' : List β} (h : rows.map (·.2) = C) (h' : rows'.map (·.2) = C') : (rows ++ rows').map (·.2) = C ++ C' := by rw [List.map_append, h, h']
theorem rref_set (i : Nat) (d : RO β) (y : β) (hi : i < rows.length) : rows.map rref = (rows.set i ((rows.getD i d).1, y)).map rref := by
  rw [List.map_set]
  show rows.map rref = (rows.map rref).set i (rref (rows.getD i d))
  rw [List.getD_eq_getElem?_getD, List.getElem?_eq_getElem hi]
  apply List.ext_getElem?
  intro j
  by_cases hj : i = j
  · subst hj; simp [hi]
  · simp [hj]
theorem lst_rref_app {x : β} : HO.lst (rows.map rref ++ [V.ref p]) = .lst ((rows ++ [(p, x)]).map rref) := by rw [List.map_append]; rfl
theorem lst_rref_cat {rows' : List (RO β)} : HO.lst (rows.map rref ++ rows'.map rref) = .lst ((rows ++ rows').map rref) := by rw [List.map_append]
theorem lst_rref_set {x : β} {i : Nat} : HO.lst ((rows.map rref).set i (V.ref p)) = .lst ((rows.set i (p, x)).map rref) := by rw [List.map_set]; rfl

/-! a table that stands -/
structure Tab (H : Hp) (g : β → HO) (a : Addr) (C : List β) : Prop where
  ex : ∃ r : List (RO β), r.map (·.2) = C ∧ H a = some (.lst (r.map rref)) ∧ ∀ z ∈ r, H z.1 = some (g z.2)
theorem Tab.same {a : Addr} (t : Tab H g a C) (s : Same H H') : Tab H' g a C := by
  obtain ⟨r, h1, h2, h3⟩ := t.ex
  exact ⟨r, h1, s _ _ h2, fun z hz => s _ _ (h3 z hz)⟩
/-- a new table, from a call -/
structure TabN (H H' : Hp) (g : β → HO) (a : Addr) (r : List (RO β)) (C : List β) : Prop where
  n : H a = none
  e : H' a = some (.lst (r.map rref))
  c : r.map (·.2) = C
  rw : ∀ z ∈ r, H z.1 = none ∧ H' z.1 = some (g z.2)
  nd : (a :: r.map (·.1)).Nodup
theorem Fr.ctab {r : List (RO β)} (f : Fr H0 H (pre ++ ts.flatten)) (s : Same H H') (t : TabN H H' g p r C) : Fr H0 H' (((p, .lst (r.map rref)) :: pre) ++ (rosOwn g r :: ts).flatten) := by
  have gg := f.cnew s t.n t.e
  have h1 : Fr H0 H' ((((p, HO.lst (r.map rref)) :: pre) ++ ts.flatten) ++ rosOwn g r) := by
    refine ⟨gg.same, fun z hz => ?_, ?_⟩
    · rcases List.mem_append.mp hz with hz | hz
      · exact gg.frs z hz
      · obtain ⟨r', hr', rfl⟩ := List.mem_map.mp hz
        exact ⟨f.fresh (t.rw r' hr').1, (t.rw r' hr').2⟩
    · rw [List.map_append]
      have e1 : (rosOwn g r).map (·.1) = r.map (·.1) := by unfold rosOwn; rw [List.map_map]; rfl
      rw [e1]
      have hn' := List.nodup_cons.mp t.nd
      refine List.nodup_append.mpr ⟨gg.nd, hn'.2, fun a ha b hb hab => ?_⟩
      subst hab
      rcases List.mem_cons.mp ha with rfl | ha
      · exact hn'.1 hb
      · obtain ⟨z, hz, rfl⟩ := List.mem_map.mp ha
        obtain ⟨r', hr', e2⟩ := List.mem_map.mp hb
        have := (t.rw r' hr').1
        rw [e2, (f.frs z hz).2] at this
        cases this
  refine h1.perm ?_
  show ((((p, HO.lst (r.map rref)) :: pre) ++ ts.flatten) ++ rosOwn g r).Perm (((p, HO.lst (r.map rref)) :: pre) ++ (rosOwn g r ++ ts.flatten))
  rw [List.append_assoc]
  exact List.Perm.append_left _ List.perm_append_comm
/-- new objects, from a call -/
theorem Fr.comp {new : List (Addr × HO)} (f : Fr H0 H own) (n : Fr H H' new) : Fr H0 H' (new ++ own) := by
  refine ⟨f.same.trans n.same, fun z hz => ?_, ?_⟩
  · rcases List.mem_append.mp hz with hz | hz
    · exact ⟨f.fresh (n.frs z hz).1, (n.frs z hz).2⟩
    · exact ⟨(f.frs z hz).1, n.same _ _ (f.frs z hz).2⟩
  · rw [List.map_append]
    refine List.nodup_append.mpr ⟨n.nd, f.nd, fun a ha b hb hab => ?_⟩
    subst hab
    obtain ⟨z, hz, rfl⟩ := List.mem_map.mp ha
    obtain ⟨y, hy, e⟩ := List.mem_map.mp hb
    have h1 := (n.frs z hz).1
    rw [← e, (f.frs y hy).2] at h1
    cases h1
/-- what is handed back -/
theorem Fr.tabback (f : Fr H0 H ((p, .lst (rows.map rref)) :: (pre ++ (rosOwn g rows :: ts).flatten))) (h : rows.map (·.2) = C) : TabN H0 H g p rows C := by
  have f1 : Fr H0 H ((p, .lst (rows.map rref)) :: rosOwn g rows) :=
    f.sub (List.Sublist.cons_cons _ ((List.sublist_append_left _ _).trans (List.sublist_append_right _ _)))
  refine ⟨f1.n0, f1.at0, h, fun z hz => f1.frs (z.1, g z.2) (List.mem_cons_of_mem _ (List.mem_map.mpr ⟨z, hz, rfl⟩)), ?_⟩
  have := f1.nd
  rw [List.map_cons] at this
  have e1 : (rosOwn g rows).map (·.1) = rows.map (·.1) := by unfold rosOwn; rw [List.map_map]; rfl
  rwa [e1] at this
theorem Fr.tabback0 (f : Fr H0 H ((p, .lst (([] : List (RO β)).map rref)) :: own)) : TabN H0 H g p [] ([] : List β) :=
  ⟨f.n0, f.at0, rfl, (fun _ h => nomatch h), List.nodup_cons.mpr ⟨(fun h => nomatch h), List.nodup_nil⟩⟩
/-- a table by own facts -/
theorem Fr.tab (f : Fr H0 H (pre ++ ts.flatten)) (k j : Nat) (ho : (pre ++ ts.flatten)[k]? = some (p, .lst (rows.map rref))) (h : ts[j]? = some (rosOwn g rows)) (hc : rows.map (·.2) = C) : Tab H g p C :=
  ⟨⟨rows, hc, f.mem (List.mem_of_getElem? ho), fun z hz => f.rmem j h hz⟩⟩
/-- a table by its parts -/
theorem tab_lit {a : Addr} (hr : ∀ z ∈ rows, H z.1 = some (g z.2)) (ha : H a = some (.lst (rows.map rref))) (hc : rows.map (·.2) = C) : Tab H g a C := ⟨⟨rows, hc, ha, hr⟩⟩
theorem ros_nil : ∀ z ∈ ([] : List (RO β)), H z.1 = some (g z.2) := fun _ h => nomatch h
theorem ros_cons {a : Addr} {x : β} (h : H a = some (g x)) (hr : ∀ z ∈ rows, H z.1 = some (g z.2)) : ∀ z ∈ (a, x) :: rows, H z.1 = some (g z.2) := fun z hz => by
  rcases List.mem_cons.mp hz with rfl | hz
  · exact h
  · exact hr z hz
end
/-! rows at a place, casts, unrolled loops -/
section
variable {β : Type} {g : β → HO} {H0 H H' : Hp} {own pre : List (Addr × HO)} {ts : List (List (Addr × HO))} {p : Addr} {o o' : HO} {rows : List (RO β)} {C : List β}
theorem Fr.castk (f : Fr H0 H own) (k : Nat) (h : own[k]? = some (p, o)) (e : o = o') : Fr H0 H (own.set k (p, o')) := by
  subst e
  refine f.perm ?_
  have : own.set k (p, o) = own := by
    apply List.ext_getElem?
    intro j
    by_cases hj : k = j
    · subst hj
      obtain ⟨hl, he⟩ := List.getElem?_eq_some_iff.mp h
      rw [h]; simp [hl]
    · simp [hj]
  rw [this]
theorem ros_at (hr : ∀ z ∈ rows, H z.1 = some (g z.2)) (hc : rows.map (·.2) = C) (d : β) (i : Nat) (hi : i < C.length) : H (rows.getD i (0, d)).1 = some (g (C.getD i d)) := by
  have hl : i < rows.length := by rw [snd_len hc]; exact hi
  have := hr _ (getD_mem (d := ((0, d) : RO β)) hl)
  rwa [snd_at hc d 0 i hi] at this
theorem Fr.rat (f : Fr H0 H (pre ++ ts.flatten)) (k : Nat) (h : ts[k]? = some (rosOwn g rows)) (hc : rows.map (·.2) = C) (d : β) (i : Nat) (hi : i < C.length) : H (rows.getD i (0, d)).1 = some (g (C.getD i d)) :=
  ros_at (fun z hz => f.rmem k h hz) hc d i hi
theorem Fr.rwrD {i : Nat} {y : β} (f : Fr H0 H (pre ++ (rosOwn g rows :: ts).flatten)) (hc : rows.map (·.2) = C) (d : β) (hi : i < C.length) (e : o' = g y) :
    Fr H0 (upd H (rows.getD i (0, d)).1 o') (pre ++ (rosOwn g (rows.set i ((rows.getD i (0, d)).1, y)) :: ts).flatten) := by
  subst e
  have hl : i < rows.length := by rw [snd_len hc]; exact hi
  refine f.rwr hl ?_
  rw [List.getD_eq_getElem?_getD, List.getElem?_eq_getElem hl]; rfl
theorem len_rows (h : rows.map (·.2) = C) : (rows.map rref).length = C.length := by rw [List.length_map]; exact snd_len h
theorem rref_setD (i : Nat) (d y : β) (hc : rows.map (·.2) = C) (hi : i < C.length) : HO.lst (rows.map rref) = .lst ((rows.set i ((rows.getD i (0, d)).1, y)).map rref) :=
  congrArg HO.lst (rref_set i (0, d) y (by rw [snd_len hc]; exact hi))
theorem atRow (hc : rows.map (·.2) = C) (d : β) {i : Int} (h0 : 0 ≤ i) (h1 : i < (C.length : Int)) : atI (rows.map rref) i = some (V.ref (rows.getD i.toNat (0, d)).1) :=
  atD (f := rref) ((0, d) : RO β) h0 (by rw [snd_len hc]; exact h1)
theorem atRowLast (hc : rows.map (·.2) = C) (d : β) (h : 0 < C.length) : atI (rows.map rref) (-1) = some (V.ref (rows.getD (C.length - 1) (0, d)).1) := by
  have := atLastD (f := rref) ((0, d) : RO β) (xs := rows) (by rw [snd_len hc]; exact h)
  rw [snd_len hc] at this
  exact this
theorem ixRow (hc : rows.map (·.2) = C) {i : Int} (h0 : 0 ≤ i) (h1 : i < (C.length : Int)) : ixN (rows.map rref).length i = some i.toNat := ixDm h0 (by rw [snd_len hc]; exact h1)
theorem walkT {K : PySem.W.Frag} {a : Addr} (hc : rows.map (·.2) = C) : Walk (Itl K a) C.length (fun H => H a = some (.lst (rows.map rref))) (fun i H x H' => H' = H ∧ ∃ y : RO β, rows[i]? = some y ∧ C[i]? = some y.2 ∧ x = V.ref y.1) := by
  have w := walkL (K := K) (a := a) rref rows
  rw [snd_len hc] at w
  refine w.mono (fun _ h => h) fun i H x H' _ _ y => ?_
  obtain ⟨e, z, hz, hx⟩ := y
  exact ⟨e, z, hz, snd_get hc hz, hx⟩
theorem mtn {α : Type} {f : α → β} {ns : List α} {i : Nat} {y : α} {x : β} (h : ns[i]? = some y) (e : x = f y) : (ns.take i).map f ++ [x] = (ns.take (i + 1)).map f := by
  rw [take_next h, List.map_append, e]; rfl
theorem mrn {f : Nat → β} {i : Nat} {x : β} (e : x = f i) : (List.range i).map f ++ [x] = (List.range (i + 1)).map f := by
  rw [List.range_succ, List.map_append, e]; rfl
/-- a loop over a list, item by item -/
def unr (K : PySem.W.Frag) (a : Addr) (all : List V) (g : TG) (tb : TS) (D : Ends) : List V → L2.St → Hp → Prop
  | [], σ, H => SqL K H a all ∧ D.nx σ H
  | x :: xs, σ, H => SqL K H a all ∧ g x σ H fun σ2 H2 => tb { D with nx := unr K a all g tb D xs, ct := unr K a all g tb D xs, bk := D.nx } σ2 H2
theorem for_unr {K : PySem.W.Frag} {a : Addr} {g : TG} {tb : TS} {D : Ends} {σ : L2.St} {H : Hp} (all : List V) (h : unr K a all g tb D all σ H) :
    ∃ W : Nat → Nat → L2.St → Hp → Prop, (∃ m, W 0 m σ H) ∧ ∀ i m σ H, W i m σ H →
      ((Itl K a).stop i H ∧ D.nx σ H) ∨ ((Itl K a).go i H ∧ ∃ N : L2.St → Hp → Prop, (∀ σ' H', N σ' H' → ∃ m', m' < m ∧ W (i + 1) m' σ' H') ∧ ∀ x H', (Itl K a).yld i H x H' → g x σ H' fun σ2 H2 => tb { D with nx := N, ct := N, bk := D.nx } σ2 H2) := by
  refine for_it (walk_list (xs := all)) (fun i σ H => unr K a all g tb D (all.drop i) σ H) h (fun i σ H _ p => ?_) (fun i x σ H H' hi p y => ?_) (fun σ H p => ?_)
  · cases e : all.drop i with
    | nil => rw [e] at p; exact p.1
    | cons x xs => rw [e] at p; exact p.1
  · obtain ⟨rfl, hx⟩ := y
    have e : all.drop i = x :: all.drop (i + 1) := by
      rw [List.drop_eq_getElem_cons hi]
      congr 1
      rw [List.getElem?_eq_getElem hi] at hx
      exact Option.some.inj hx
    rw [e] at p
    exact p.2
  · rw [List.drop_length] at p
    exact p.2
end
/-! == of tables -/
section
variable {β : Type} {g : β → HO} {K : PySem.W.Frag} {H : Hp} {a : Addr} {C : List β} {gd : β → PyData}
theorem dp_tab (t : Tab H g a C) (h : ∀ (b : Addr) (x : β), H b = some (g x) → Dp K H (.ref b) (gd x)) : Dp K H (.ref a) (.list (C.map gd)) := by
  obtain ⟨r, hc, ha, hr⟩ := t.ex
  subst hc
  refine .lst (SqL.of ha) ?_
  rw [List.map_map]
  clear ha t
  revert hr
  induction r with
  | nil => intro _; exact .nil
  | cons z r ih => intro hr; exact .cons (h _ _ (hr z List.mem_cons_self)) (ih fun w hw => hr w (List.mem_cons_of_mem _ hw))
theorem okd_tab {n : Nat} (h : ∀ x : β, Okd n (gd x)) : Okd (n + 1) (.list (C.map gd)) :=
  ⟨canAll (fun x => (h x).can) C, Nat.succ_le_succ (depthAll (fun x => (h x).dep) C)⟩
theorem dp_tabI {C : List (List Int)} (t : Tab H gI a C) : Dp K H (.ref a) (.list (C.map dI)) := dp_tab t fun _ _ h => dp_ints h
theorem dp_tabB {C : List (List Bool)} (t : Tab H gB a C) : Dp K H (.ref a) (.list (C.map dB)) := dp_tab t fun _ _ h => dp_bls h
theorem okd_tabI {n : Nat} (C : List (List Int)) : Okd (n + 2) (.list (C.map dI)) := okd_tab fun x => okd_ints x
theorem okd_tabB {n : Nat} (C : List (List Bool)) : Okd (n + 2) (.list (C.map dB)) := okd_tab fun x => okd_bls x
theorem eqv_tabI (C D : List (List Int)) : PyData.eqv (.list (C.map dI)) (.list (D.map dI)) = decide (C = D) := eqvAll_map (fun x y => eqv_ints x y) C D
theorem eqv_tabB (C D : List (List Bool)) : PyData.eqv (.list (C.map dB)) (.list (D.map dB)) = decide (C = D) := eqvAll_map (fun x y => eqv_bls x y) C D
theorem Tab.tov {C : List (List Int)} (t : Tab H gI a C) : Tab H gV a (C.map (List.map V.int)) := by
  obtain ⟨r, hc, ha, hr⟩ := t.ex
  refine ⟨r.map fun z => (z.1, z.2.map V.int), ?_, ?_, fun z hz => ?_⟩
  · rw [← hc, List.map_map, List.map_map]; rfl
  · rw [ha, List.map_map]; rfl
  · obtain ⟨w, hw, rfl⟩ := List.mem_map.mp hz
    exact hr w hw
theorem dp_tabV {C : List (List V)} (t : Tab H gV a C) (hs : ∀ x ∈ C, Sca x) : Dp K H (.ref a) (.list (C.map dV)) := by
  obtain ⟨r, hc, ha, hr⟩ := t.ex
  subst hc
  refine .lst (SqL.of ha) ?_
  rw [List.map_map]
  clear ha t
  revert hr hs
  induction r with
  | nil => intro _ _; exact .nil
  | cons z r ih =>
    intro hr hs
    refine .cons (dp_vals (hr z List.mem_cons_self) (hs z.2 ?_)) (ih (fun w hw => hr w (List.mem_cons_of_mem _ hw)) fun x hx => hs x ?_)
    · rw [List.map_cons]; exact List.mem_cons_self
    · rw [List.map_cons]; exact List.mem_cons_of_mem _ hx
theorem okd_tabV {n : Nat} {C : List (List V)} (hs : ∀ x ∈ C, Sca x) : Okd (n + 2) (.list (C.map dV)) := by
  refine ⟨?_, ?_⟩
  · show PyData.canLayAll0 (C.map dV) = true
    induction C with
    | nil => rfl
    | cons x C ih =>
      show ((dV x).canLay0 && PyData.canLayAll0 (C.map dV)) = true
      have h1 : Okd (n + 1) (dV x) := okd_vals (hs x List.mem_cons_self)
      rw [h1.can, ih fun v hv => hs v (List.mem_cons_of_mem _ hv)]; rfl
  · refine Nat.succ_le_succ (depthAll (n := n + 1) (fun xs => ?_) C)
    exact Nat.succ_le_succ (Nat.le_trans (depthAll (n := 0) (fun v => by cases v <;> exact Nat.zero_le _) xs) (Nat.zero_le _))
theorem eqv_II (a b c d : Int) : PyData.eqv (.tuple [.int a, .int b]) (.tuple [.int c, .int d]) = decide (a = c ∧ b = d) := by
  show ((a == c) && ((b == d) && true)) = _
  by_cases h : a = c
  · by_cases h' : b = d
    · simp [h, h']
    · simp [h']
  · simp [h]
end
end Rc
namespace Rc
open PySem PySem.Spec PyProof.Rows L2
section
variable {X : Cx}
theorem str_dec {i j : Str} : decide (V.str i = V.str j) = decide (i = j) := by
  by_cases h : i = j
  · subst h; rw [decide_eq_true rfl, decide_eq_true rfl]
  · rw [decide_eq_false h, decide_eq_false fun z => h (V.str.inj z)]
theorem op_eqStr : OpR X (compareOp .Eq) (fun x y H Q => ∃ i j : Str, x = .str i ∧ y = .str j ∧ (i = j → Q (.bl true) H) ∧ (¬ i = j → Q (.bl false) H)) := by
  intro pins s σ H x y v u Q I rx ry h
  obtain ⟨i, j, rfl, rfl, q1, q2⟩ := h
  refine op_eq pins s σ H _ _ v u Q I rx ry ⟨rfl, ?_⟩
  rw [str_dec]
  by_cases h : i = j
  · rw [decide_eq_true h]; exact q1 h
  · rw [decide_eq_false h]; exact q2 h
theorem op_neStr : OpR X (compareOp .NotEq) (fun x y H Q => ∃ i j : Str, x = .str i ∧ y = .str j ∧ (¬ i = j → Q (.bl true) H) ∧ (i = j → Q (.bl false) H)) := by
  intro pins s σ H x y v u Q I rx ry h
  obtain ⟨i, j, rfl, rfl, q1, q2⟩ := h
  refine op_ne pins s σ H _ _ v u Q I rx ry ⟨rfl, ?_⟩
  rw [str_dec]
  by_cases h : i = j
  · rw [decide_eq_true h]; exact q2 h
  · rw [decide_eq_false h]; exact q1 h
end
/-! words: parts that are whole -/
def intV : V → Int
  | .int x => x
  | _ => 0
def intsV (w : List V) : List Int := w.map intV
theorem intsV_map (w : List Int) : intsV (w.map V.int) = w := by
  unfold intsV; rw [List.map_map]; exact (List.map_congr_left fun _ _ => rfl).trans (List.map_id w)
theorem wordPart_int {m : Nat} {v : V} (h : wordPart m v = true) : v = V.int (intV v) ∧ 0 ≤ intV v ∧ intV v < (m : Int) := by
  cases v with
  | int z =>
    have h' : (decide (0 ≤ z) && decide (z < (m : Int))) = true := h
    rw [Bool.and_eq_true, decide_eq_true_eq, decide_eq_true_eq] at h'
    exact ⟨rfl, h'⟩
  | _ => cases h
theorem isWordV_ex {m : Nat} {w : List V} {n : Int} (h : isWordV m w n = true) : ∃ u : List Int, w = u.map V.int ∧ (∀ x ∈ u, 0 ≤ x ∧ x < (m : Int)) ∧ (u.length : Int) = n := by
  unfold isWordV at h
  rw [Bool.and_eq_true, decide_eq_true_eq, List.all_eq_true] at h
  refine ⟨intsV w, ?_, fun x hx => ?_, ?_⟩
  · unfold intsV; rw [List.map_map]
    refine (List.map_id w).symm.trans (List.map_congr_left fun v hv => ?_)
    exact (wordPart_int (h.2 v hv)).1
  · obtain ⟨v, hv, rfl⟩ := List.mem_map.mp hx
    exact (wordPart_int (h.2 v hv)).2
  · unfold intsV; rw [List.length_map]; exact h.1
end Rc
namespace Rc
open PySem PySem.Spec PyProof.Rows L2
/-! methods and makings that may raise -/
section
variable {X : Cx} {CX : CXT} {k : Nat} {f C : Addr} {fd : FuncData} {ps : List Str} {sp : Sp} {E : L2.St → XK} {x m : Str} {p pos apos : Pos} {e o : Expr} {es : List Expr} {ta : TE} {t : TA}
def tMethX (C : Addr) (m : Str) (sp : Sp) (E : L2.St → XK) (ta : TE) (t : TA) : TE := fun σ H Q => ta σ H fun x H1 => ∃ a dx fs, x = .ref a ∧ H1 a = some (.ins C dx fs) ∧ fs.lookup m = none ∧ t σ H1 fun vs H2 => sp (x :: vs) H2 Q (E σ)
theorem pe_methX {pl : Sem Bool} (he : PE X o ta) (c : Cls X.K C) (hm : Meth X.K C m f) (F : FnOk X.prog X.w X.K X.mg X.base CX k f fd ps sp) (hr : Room k X.A) (hb : Binds X.K fd ps []) (hx : ∀ σ, PassesAt CX X σ (E σ)) (ha : PA X (e :: es) t)
    (hst : starEach (e :: es) X.env = (false, eval e X.env) :: starEach es X.env := by rfl) (hpl : (backTo pos (starEach es X.env)).any (·.1) = false := by rfl)
    (ht : eval (.Call (.Attribute o m apos) (e :: es) [] pos) X.env = (do
      let ov ← eval o X.env
      standAt apos.atName
      let (f, first) ← holding [ov] (getMethod ov m pl)
      callWith pos f first (backTo pos (starEach (e :: es) X.env)) (backToKw pos (keywordEach [] X.env))) := by rfl) :
    PE X (.Call (.Attribute o m apos) (e :: es) [] pos) (tMethX C m sp E ta t) := by
  refine ⟨fun pins s σ H Q I h => ?_⟩
  refine PySem.W.methodCall_KW (pl := pl) (thn (he.run pins s σ H _ I h) fun u s1 ⟨x, H1, I1, rx, a, dx, fs, ex, ea, l, q⟩ => ?_) ht
  subst ex
  obtain rfl : u = Value.ref a := rx
  refine getmeth_ok I1 ea c hm l ?_
  refine PySem.W.callWith_K (first := [.ref a]) (h₀ := X.base) I.ok.mod.kin hm.kp (thn (ha.run pos pins s1 σ H1 _ I1 q) fun us s2 ⟨vs, H2, I2, r, q2⟩ => ⟨I2.kIn, ?_⟩) hst hpl
  exact run_fnS (us := .ref a :: us) (vs := .ref a :: vs) F hr hb (hx σ) I2 (.cons rfl r) q2
theorem pe_methX0 {pl : Sem Bool} (he : PE X o ta) (c : Cls X.K C) (hm : Meth X.K C m f) (F : FnOk X.prog X.w X.K X.mg X.base CX k f fd ps sp) (hr : Room k X.A) (hb : Binds X.K fd ps []) (hx : ∀ σ, PassesAt CX X σ (E σ))
    (ht : eval (.Call (.Attribute o m apos) [] [] pos) X.env = (do
      let ov ← eval o X.env
      standAt apos.atName
      let (f, first) ← holding [ov] (getMethod ov m pl)
      callWith pos f first (backTo pos (starEach [] X.env)) (backToKw pos (keywordEach [] X.env))) := by rfl) :
    PE X (.Call (.Attribute o m apos) [] [] pos) (tMethX C m sp E ta tNil) := by
  refine ⟨fun pins s σ H Q I h => ?_⟩
  refine PySem.W.methodCall_KW (pl := pl) (thn (he.run pins s σ H _ I h) fun u s1 ⟨x, H1, I1, rx, a, dx, fs, ex, ea, l, q⟩ => ?_) ht
  subst ex
  obtain rfl : u = Value.ref a := rx
  refine getmeth_ok I1 ea c hm l ?_
  exact PySem.W.callWith_K0 (first := [.ref a]) I1.kIn hm.kp (run_fnS (us := [.ref a]) (vs := [.ref a]) F hr hb (hx σ) I1 (.cons rfl .nil) q)
theorem run_makeX {pins : List (Addr × Obj)} {σ : L2.St} {H : Hp} {s : Shared} {Q : VK} {us : List Value} {vs : List V} (M : Mk X.K C f) (F : FnOk X.prog X.w X.K X.mg X.base CX k f fd ps sp) (hr : Room (k + 1) X.A) (hb : Binds X.K fd ps [])
    (hx : PassesAt CX X σ (E σ)) (I : Inv X pins σ H s) (r : Vals vs us)
    (h : ∀ x dx, H x = none → H dx = none → dx ≠ x → sp (.ref x :: vs) (upd (upd H dx (.own x)) x (.ins C dx [])) (fun v H2 => v = .non ∧ Q (.ref x) H2) (E σ)) :
    wpAny (model X.prog X.w) X.A (call (.ref C) us) (EP X pins σ Q) X.xe s := by
  have hq := h (s.heap.objs.size + 1) s.heap.objs.size (I.hok.fresh (Nat.le_succ _)) (I.hok.fresh (Nat.le_refl _)) (Nat.ne_of_lt (Nat.lt_succ_self _))
  have I2 := Inv.made (C := C) I
  have r2 : Vals (V.ref (s.heap.objs.size + 1) :: vs) (Value.ref (s.heap.objs.size + 1) :: us) := .cons rfl r
  have hl : (Value.ref (s.heap.objs.size + 1) :: us ++ []).length = ps.length := by
    have e := r2.length
    rw [F.len _ _ _ _ hq] at e
    rw [List.append_nil]
    exact e.symm
  have b := hb _ (Value.ref (s.heap.objs.size + 1) :: us) I2.kIn hl
  rw [List.append_nil] at b
  refine wpAny_call (make_map (f := f) I.kIn M.makes M.init (beq_iff_eq.mp M.fn) (codeAny_mono (F.run _ X.stack _ _ ⟨Value.ref (s.heap.objs.size + 1) :: us, []⟩ (Value.ref (s.heap.objs.size + 1) :: us) _ _ (E σ) (hr.make C us [])
    (I2.env0.make C us []) b r2 hq) fun r s' hq' => ?_))
  cases r with
  | error e => exact hx pins _ _ e s' I2 hq'
  | ok fl =>
    cases fl with
    | ret u =>
      obtain ⟨v, H', I3, rv, ev, q3⟩ := I2.after hq'
      subst ev
      exact ⟨rv, ⟨V.ref (s.heap.objs.size + 1), H', I3, rfl, q3⟩⟩
    | next => exact False.elim hq'
    | brk => exact False.elim hq'
    | cont => exact False.elim hq'
def tMakeX (C : Addr) (sp : Sp) (E : L2.St → XK) (t : TA) : TE := fun σ H Q => t σ H fun vs H1 => ∀ x dx, H1 x = none → H1 dx = none → dx ≠ x → sp (.ref x :: vs) (upd (upd H1 dx (.own x)) x (.ins C dx [])) (fun v H2 => v = .non ∧ Q (.ref x) H2) (E σ)
theorem pe_makeX (M : Mk X.K C f) (F : FnOk X.prog X.w X.K X.mg X.base CX k f fd ps sp) (hr : Room (k + 1) X.A) (hg : Gl X x) (hm : X.mg x = some (.ref C)) (hb : Binds X.K fd ps []) (hx : ∀ σ, PassesAt CX X σ (E σ))
    (ha : PA X (e :: es) t) (hdb : (x == ("__debug__" : Str)) = false := by decide) (he : starEach (e :: es) X.env = (false, eval e X.env) :: starEach es X.env := by rfl) (hpl : (backTo pos (starEach es X.env)).any (·.1) = false := by rfl) :
    PE X (.Call (.Name x p) (e :: es) [] pos) (tMakeX C sp E t) := by
  refine ⟨fun pins s σ H Q I h => ?_⟩
  refine wpAny_Call_Name_kw (ld_glob I hg hm ?_ hdb)
  refine PySem.W.callWith_K (h₀ := X.base) I.ok.mod.kin M.kp (thn (ha.run pos pins s σ H _ I h) fun us s1 ⟨vs, H1, I1, r, q⟩ => ⟨I1.kIn, ?_⟩) he hpl
  exact run_makeX M F hr hb (hx σ) I1 r q
end
end Rc
namespace Rc
open PySem PySem.Spec PyProof.Rows L2
/-! what is lent to a def that changes it -/
def minus (H : Hp) (as : List Addr) : Hp := fun b => if b ∈ as then none else H b
structure Lent (Hm H : Hp) (fp : List (Addr × HO)) : Prop where
  fr : Fr Hm H fp
  rest : ∀ b x, H b = some x → b ∉ fp.map (·.1) → Hm b = some x
section
variable {H0 H H1 Hm : Hp} {fp rest own' : List (Addr × HO)}
theorem Fr.mn (f : Fr H0 H (fp ++ rest)) : Fr H0 (minus H (fp.map (·.1))) rest := by
  have nd := f.nd
  rw [List.map_append] at nd
  have dis := (List.nodup_append.mp nd).2.2
  refine ⟨fun b x e => ?_, fun z hz => ?_, (List.nodup_append.mp nd).2.1⟩
  · unfold minus
    rw [if_neg]
    · exact f.same _ _ e
    · intro hb
      obtain ⟨z, hz, rfl⟩ := List.mem_map.mp hb
      have := (f.frs z (List.mem_append_left _ hz)).1
      rw [this] at e; cases e
  · refine ⟨(f.frs z (List.mem_append_right _ hz)).1, ?_⟩
    unfold minus
    rw [if_neg]
    · exact (f.frs z (List.mem_append_right _ hz)).2
    · intro hb
      exact dis _ hb _ (List.mem_map.mpr ⟨z, hz, rfl⟩) rfl
theorem Fr.lent (f : Fr H0 H (fp ++ rest)) : Lent (minus H (fp.map (·.1))) H fp := by
  have nd := f.nd
  rw [List.map_append] at nd
  refine ⟨⟨fun b x e => ?_, fun z hz => ⟨?_, (f.frs z (List.mem_append_left _ hz)).2⟩, (List.nodup_append.mp nd).1⟩, fun b x e hb => ?_⟩
  · unfold minus at e
    by_cases hb : b ∈ fp.map (·.1)
    · rw [if_pos hb] at e; cases e
    · rw [if_neg hb] at e; exact e
  · unfold minus; rw [if_pos (List.mem_map.mpr ⟨z, hz, rfl⟩)]
  · unfold minus; rw [if_neg hb]; exact e
theorem Fr.back (f : Fr H0 H (fp ++ rest)) (g : Fr (minus H (fp.map (·.1))) H1 own') : Fr H0 H1 (own' ++ rest) := by
  have m := f.mn
  refine ⟨fun b x e => g.same _ _ (m.same _ _ e), fun z hz => ?_, ?_⟩
  · rcases List.mem_append.mp hz with hz | hz
    · exact ⟨m.same.free (g.frs z hz).1, (g.frs z hz).2⟩
    · exact ⟨(m.frs z hz).1, g.same _ _ (m.frs z hz).2⟩
  · rw [List.map_append]
    refine List.nodup_append.mpr ⟨g.nd, m.nd, fun a ha b hb hab => ?_⟩
    subst hab
    obtain ⟨z, hz, rfl⟩ := List.mem_map.mp ha
    obtain ⟨y, hy, e⟩ := List.mem_map.mp hb
    have h1 := (g.frs z hz).1
    rw [← e, (m.frs y hy).2] at h1
    cases h1
/-- what was lent stands again as it was: all stands -/
theorem Lent.all (l : Lent Hm H fp) (f : Fr Hm H1 (fp ++ rest)) : Same H H1 := fun b x e => by
  by_cases hb : b ∈ fp.map (·.1)
  · obtain ⟨z, hz, rfl⟩ := List.mem_map.mp hb
    rw [(l.fr.frs z hz).2] at e
    cases e
    exact (f.frs z (List.mem_append_left _ hz)).2
  · exact f.same _ _ (l.rest b x e hb)
end
/-! the front of what is told: plain objects, then tails -/
section
variable {H0 H H1 Hm : Hp} {bpre pre bpre' new : List (Addr × HO)} {bts ts bts' : List (List (Addr × HO))}
theorem split_perm {α : Type} (a b : List α) (c d : List (List α)) : ((a ++ b) ++ (c ++ d).flatten).Perm ((a ++ c.flatten) ++ (b ++ d.flatten)) := by
  rw [List.flatten_append, List.append_assoc, List.append_assoc]
  refine List.Perm.append_left _ ?_
  rw [← List.append_assoc, ← List.append_assoc]
  exact List.Perm.append_right _ List.perm_append_comm
theorem Fr.split (f : Fr H0 H ((bpre ++ pre) ++ (bts ++ ts).flatten)) : Fr H0 H ((bpre ++ bts.flatten) ++ (pre ++ ts.flatten)) := f.perm (split_perm _ _ _ _)
theorem Fr.back2 (f : Fr H0 H ((bpre ++ bts.flatten) ++ (pre ++ ts.flatten))) (g : Fr (minus H ((bpre ++ bts.flatten).map (·.1))) H1 (bpre' ++ bts'.flatten)) : Fr H0 H1 ((bpre' ++ pre) ++ (bts' ++ ts).flatten) :=
  (f.back g).perm (split_perm _ _ _ _).symm
/-- new objects of a call that lends nothing -/
theorem Fr.comp2 (f : Fr H0 H (pre ++ ts.flatten)) (g : Fr H H1 (bpre' ++ bts'.flatten)) : Fr H0 H1 ((bpre' ++ pre) ++ (bts' ++ ts).flatten) :=
  (Fr.comp f g).perm (split_perm _ _ _ _).symm
end
theorem permS {α : Type} (X A R : List α) : (X ++ (A ++ R)).Perm (A ++ (X ++ R)) := by
  rw [← List.append_assoc, ← List.append_assoc A X R]; exact List.Perm.append_right _ List.perm_append_comm
/-! a riffle done: its tuple, marks, word -/
structure PE where
  t : Addr
  m : Addr
  w : Addr
  marks : List Bool
  word : List Int
def peRef (e : PE) : V := .ref e.t
def peOwn (e : PE) : List (Addr × HO) := [(e.t, .tup [.ref e.m, .ref e.w]), (e.m, .lst (e.marks.map V.bl)), (e.w, .lst (e.word.map V.int))]
def pesOwn (es : List PE) : List (Addr × HO) := es.flatMap peOwn
abbrev PC := List Bool × List Int
def peC (e : PE) : PC := (e.marks, e.word)
section
variable {H0 H H' H1 : Hp} {own pre : List (Addr × HO)} {ts : List (List (Addr × HO))} {T : List (Addr × HO)} {at_ am aw p : Addr} {marks : List Bool} {word : List Int} {es : List PE} {C : List PC}
theorem pesOwn_app (es es' : List PE) : pesOwn (es ++ es') = pesOwn es ++ pesOwn es' := by unfold pesOwn; rw [List.flatMap_append]
theorem pesOwn_one (e : PE) : pesOwn [e] = peOwn e := by unfold pesOwn; simp
/-- three own objects become the last riffle of the first tail -/
theorem Fr.padd (f : Fr H0 H ((at_, .tup [.ref am, .ref aw]) :: (am, .lst (marks.map V.bl)) :: (aw, .lst (word.map V.int)) :: (pre ++ (pesOwn es :: ts).flatten))) : Fr H0 H (pre ++ (pesOwn (es ++ [⟨at_, am, aw, marks, word⟩]) :: ts).flatten) := by
  refine f.perm ?_
  rw [pesOwn_app, pesOwn_one]
  show (peOwn ⟨at_, am, aw, marks, word⟩ ++ (pre ++ (pesOwn es ++ ts.flatten))).Perm (pre ++ ((pesOwn es ++ peOwn ⟨at_, am, aw, marks, word⟩) ++ ts.flatten))
  generalize peOwn ⟨at_, am, aw, marks, word⟩ = X
  generalize pesOwn es = Y
  rw [List.append_assoc Y X]
  refine (permS X pre _).trans (List.Perm.append_left _ ?_)
  exact permS X Y _
theorem Fr.pnew (f : Fr H0 H (pre ++ ts.flatten)) : Fr H0 H (pre ++ (pesOwn [] :: ts).flatten) := f
/-- the last riffle of the first tail is taken out -/
theorem Fr.ppop (f : Fr H0 H (pre ++ (pesOwn es :: ts).flatten)) (h : es ≠ []) :
    Fr H0 H (((es.getLast h).t, .tup [.ref (es.getLast h).m, .ref (es.getLast h).w]) :: ((es.getLast h).m, .lst ((es.getLast h).marks.map V.bl)) :: ((es.getLast h).w, .lst ((es.getLast h).word.map V.int)) :: (pre ++ (pesOwn es.dropLast :: ts).flatten)) := by
  have e : pesOwn es = pesOwn es.dropLast ++ peOwn (es.getLast h) := by
    rw [← pesOwn_one, ← pesOwn_app, List.dropLast_concat_getLast]
  refine f.perm ?_
  show (pre ++ (pesOwn es ++ ts.flatten)).Perm (peOwn (es.getLast h) ++ (pre ++ (pesOwn es.dropLast ++ ts.flatten)))
  rw [e]
  generalize peOwn (es.getLast h) = X
  generalize pesOwn es.dropLast = Y
  rw [List.append_assoc]
  refine (List.Perm.append_left pre (permS Y X _)).trans ?_
  exact permS pre X _
theorem pes_mem {e : PE} {z : Addr × HO} (he : e ∈ es) (hz : z ∈ peOwn e) : z ∈ pesOwn es := List.mem_flatMap.mpr ⟨e, he, hz⟩
/-- the riffles stand -/
def PesAt (H : Hp) (es : List PE) : Prop := ∀ z ∈ pesOwn es, H z.1 = some z.2
theorem PesAt.same (h : PesAt H es) (s : Same H H') : PesAt H' es := fun z hz => s _ _ (h z hz)
theorem PesAt.t {e : PE} (h : PesAt H es) (he : e ∈ es) : H e.t = some (.tup [.ref e.m, .ref e.w]) := h _ (pes_mem he List.mem_cons_self)
theorem PesAt.m {e : PE} (h : PesAt H es) (he : e ∈ es) : H e.m = some (.lst (e.marks.map V.bl)) := h _ (pes_mem he (List.mem_cons_of_mem _ List.mem_cons_self))
theorem PesAt.w {e : PE} (h : PesAt H es) (he : e ∈ es) : H e.w = some (.lst (e.word.map V.int)) := h _ (pes_mem he (List.mem_cons_of_mem _ (List.mem_cons_of_mem _ List.mem_cons_self)))
theorem Fr.pes (f : Fr H0 H (pre ++ ts.flatten)) (k : Nat) (h : ts[k]? = some (pesOwn es)) : PesAt H es := fun z hz =>
  f.mem (List.mem_append_right _ (List.mem_flatten.mpr ⟨_, List.mem_of_getElem? h, hz⟩))
theorem pc_len (h : es.map peC = C) : es.length = C.length := by rw [← h, List.length_map]
theorem pc_len2 (h : es.map peC = C) : (es.map peRef).length = C.length := by rw [List.length_map, pc_len h]
theorem pc_get {i : Nat} {e : PE} (h : es.map peC = C) (he : es[i]? = some e) : C[i]? = some (e.marks, e.word) := by subst h; rw [List.getElem?_map, he]; rfl
theorem pc_app (h : es.map peC = C) : (es ++ [(⟨at_, am, aw, marks, word⟩ : PE)]).map peC = C ++ [(marks, word)] := by rw [List.map_append, h]; rfl
theorem pc_pop (h : es.map peC = C) : es.dropLast.map peC = C.dropLast := by rw [← h, List.map_dropLast]
theorem pc_last (h : es.map peC = C) (hn : es ≠ []) (d : PC) : ((es.getLast hn).marks, (es.getLast hn).word) = C.getLastD d := by
  subst h
  rw [List.getLastD_eq_getLast?, List.getLast?_map, List.getLast?_eq_some_getLast hn]; rfl
theorem lst_pe_app : HO.lst (es.map peRef ++ [V.ref at_]) = .lst ((es ++ [(⟨at_, am, aw, marks, word⟩ : PE)]).map peRef) := by rw [List.map_append]; rfl
theorem lst_pe_pop : HO.lst ((es.map peRef).dropLast) = .lst (es.dropLast.map peRef) := by rw [List.map_dropLast]
/-- the place of a riffle, by a number -/
def peD (es : List PE) (i : Nat) : PE := es.getD i ⟨0, 0, 0, [], []⟩
theorem peD_mem {i : Nat} (h : i < es.length) : peD es i ∈ es := getD_mem h
theorem pc_at {i : Nat} (h : es.map peC = C) (hi : i < C.length) : (peD es i).marks = (C.getD i ([], [])).1 ∧ (peD es i).word = (C.getD i ([], [])).2 := by
  have hl : i < es.length := by rw [pc_len h]; exact hi
  subst h
  unfold peD
  simp [List.getD, hl, peC]
theorem atPe (h : es.map peC = C) {i : Int} (h0 : 0 ≤ i) (h1 : i < (C.length : Int)) : atI (es.map peRef) i = some (V.ref (peD es i.toNat).t) :=
  atD (f := peRef) ⟨0, 0, 0, [], []⟩ h0 (by rw [pc_len h]; exact h1)
theorem walkP {K : PySem.W.Frag} {a : Addr} (hc : es.map peC = C) : Walk (Itl K a) C.length (fun H => H a = some (.lst (es.map peRef))) (fun i H x H' => H' = H ∧ ∃ y : PE, es[i]? = some y ∧ C[i]? = some (y.marks, y.word) ∧ x = V.ref y.t) := by
  have w := walkL (K := K) (a := a) peRef es
  rw [pc_len hc] at w
  refine w.mono (fun _ h => h) fun i H x H' _ _ y => ?_
  obtain ⟨e, z, hz, hx⟩ := y
  exact ⟨e, z, hz, pc_get hc hz, hx⟩
/-- a pst from a call -/
structure PstAt (H : Hp) (a : Addr) (es : List PE) (C : List PC) : Prop where
  e : H a = some (.lst (es.map peRef))
  r : PesAt H es
  c : es.map peC = C
theorem PstAt.same {a : Addr} (h : PstAt H a es C) (s : Same H H') : PstAt H' a es C := ⟨s _ _ h.e, h.r.same s, h.c⟩
end
/-! a pack -/
def pkF (a b : Addr) : List (Str × V) := putF "past" (.ref b) (putF "cards" (.ref a) [])
theorem pk_ne : ¬ (("cards" : Str) = "past") := by decide +kernel
theorem pkF_eq (a b : Addr) : pkF a b = ([("cards", V.ref a), ("past", V.ref b)] : List (Str × V)) := by
  show (if ("cards" : Str) = "past" then [(("cards" : Str), V.ref b)] else (("cards" : Str), V.ref a) :: putF "past" (V.ref b) []) = _
  rw [if_neg pk_ne]; rfl
theorem pkF_cards (a b : Addr) : (pkF a b).lookup ("cards" : Str) = some (.ref a) := by
  unfold pkF; rw [lookup_putF, if_neg pk_ne, lookup_putF, if_pos rfl]
theorem pkF_past (a b : Addr) : (pkF a b).lookup ("past" : Str) = some (.ref b) := by
  unfold pkF; rw [lookup_putF, if_pos rfl]
theorem pkF_no (a b : Addr) {m : Str} (h1 : ¬ m = "past") (h2 : ¬ m = "cards") : (pkF a b).lookup m = none := by
  unfold pkF; rw [lookup_putF, if_neg h1, lookup_putF, if_neg h2]; rfl
theorem pkF_len (a b : Addr) : (pkF a b).length < 1000 := by rw [pkF_eq]; show 2 < 1000; decide
theorem pkF_put (a b c : Addr) : putF "cards" (.ref c) (pkF a b) = pkF c b := by
  rw [pkF_eq, pkF_eq]
  show (if ("cards" : Str) = "cards" then (("cards" : Str), V.ref c) :: [(("past" : Str), V.ref b)] else _) = _
  rw [if_pos rfl]
structure PK where
  dx : Addr
  a : Addr
  b : Addr
  es : List PE
  order : List Int
def PK.past (k : PK) : List PC := k.es.map peC
theorem pk_past (k : PK) : k.es.map peC = k.past := rfl
def pkOwn (C p : Addr) (k : PK) : List (Addr × HO) := [(p, .ins C k.dx (pkF k.a k.b)), (k.dx, .own p), (k.a, .lst (k.order.map V.int)), (k.b, .lst (k.es.map peRef))] ++ pesOwn k.es
/-- a pack that stands -/
def PkAt (C : Addr) (H : Hp) (p : Addr) (k : PK) : Prop := ∀ z ∈ pkOwn C p k, H z.1 = some z.2
section
variable {H0 H H' H1 : Hp} {pre : List (Addr × HO)} {ts : List (List (Addr × HO))} {C ap : Addr} {k : PK}
theorem PkAt.same (h : PkAt C H ap k) (s : Same H H') : PkAt C H' ap k := fun z hz => s _ _ (h z hz)
theorem PkAt.p (h : PkAt C H ap k) : H ap = some (.ins C k.dx (pkF k.a k.b)) := h _ List.mem_cons_self
theorem PkAt.a (h : PkAt C H ap k) : H k.a = some (.lst (k.order.map V.int)) := h _ (List.mem_cons_of_mem _ (List.mem_cons_of_mem _ List.mem_cons_self))
theorem PkAt.b (h : PkAt C H ap k) : H k.b = some (.lst (k.es.map peRef)) := h _ (List.mem_cons_of_mem _ (List.mem_cons_of_mem _ (List.mem_cons_of_mem _ List.mem_cons_self)))
theorem PkAt.es (h : PkAt C H ap k) : PesAt H k.es := fun z hz => h z (List.mem_append_right _ hz)
theorem PkAt.past (h : PkAt C H ap k) : PstAt H k.b k.es k.past := ⟨h.b, h.es, rfl⟩
theorem Fr.pk (f : Fr H0 H (pre ++ ts.flatten)) (j : Nat) (h : ts[j]? = some (pkOwn C ap k)) : PkAt C H ap k := fun z hz =>
  f.mem (List.mem_append_right _ (List.mem_flatten.mpr ⟨_, List.mem_of_getElem? h, hz⟩))
/-- a lent pack, opened -/
theorem Fr.pkopen (f : Fr H0 H (pre ++ (pkOwn C ap k :: ts).flatten)) :
    Fr H0 H (((ap, .ins C k.dx (pkF k.a k.b)) :: (k.dx, .own ap) :: (k.a, .lst (k.order.map V.int)) :: (k.b, .lst (k.es.map peRef)) :: pre) ++ (pesOwn k.es :: ts).flatten) := by
  refine f.perm ?_
  show (pre ++ ((([(ap, .ins C k.dx (pkF k.a k.b)), (k.dx, .own ap), (k.a, .lst (k.order.map V.int)), (k.b, .lst (k.es.map peRef))] : List (Addr × HO)) ++ pesOwn k.es) ++ ts.flatten)).Perm ((([(ap, .ins C k.dx (pkF k.a k.b)), (k.dx, .own ap), (k.a, .lst (k.order.map V.int)), (k.b, .lst (k.es.map peRef))] : List (Addr × HO)) ++ pre) ++ (pesOwn k.es ++ ts.flatten))
  generalize ([(ap, .ins C k.dx (pkF k.a k.b)), (k.dx, .own ap), (k.a, .lst (k.order.map V.int)), (k.b, .lst (k.es.map peRef))] : List (Addr × HO)) = X
  rw [List.append_assoc X, List.append_assoc X]
  exact permS pre X _
/-- a pack, closed -/
theorem Fr.pkclose {dx a b : Addr} {es : List PE} {order : List Int} (f : Fr H0 H (((ap, .ins C dx (pkF a b)) :: (dx, .own ap) :: (a, .lst (order.map V.int)) :: (b, .lst (es.map peRef)) :: pre) ++ (pesOwn es :: ts).flatten)) :
    Fr H0 H (pre ++ (pkOwn C ap ⟨dx, a, b, es, order⟩ :: ts).flatten) := by
  refine f.perm ?_
  show ((([(ap, .ins C dx (pkF a b)), (dx, .own ap), (a, .lst (order.map V.int)), (b, .lst (es.map peRef))] : List (Addr × HO)) ++ pre) ++ (pesOwn es ++ ts.flatten)).Perm (pre ++ ((([(ap, .ins C dx (pkF a b)), (dx, .own ap), (a, .lst (order.map V.int)), (b, .lst (es.map peRef))] : List (Addr × HO)) ++ pesOwn es) ++ ts.flatten))
  generalize ([(ap, .ins C dx (pkF a b)), (dx, .own ap), (a, .lst (order.map V.int)), (b, .lst (es.map peRef))] : List (Addr × HO)) = X
  rw [List.append_assoc X, List.append_assoc X]
  exact permS X pre _
end
end Rc
namespace Rc
open PySem PySem.Spec PyProof.Rows L2
section
variable {H0 H H1 Hm : Hp} {fp own : List (Addr × HO)} {bpre pre : List (Addr × HO)} {bts ts : List (List (Addr × HO))} {x dx : Addr} {o : HO} {es : List PE} {C : List PC}
theorem Lent.all0 (l : Lent Hm H fp) (f : Fr Hm H1 fp) : Same H H1 := l.all (rest := []) (by rw [List.append_nil]; exact f)
theorem Fr.unsplit (f : Fr H0 H ((bpre ++ bts.flatten) ++ (pre ++ ts.flatten))) : Fr H0 H ((bpre ++ pre) ++ (bts ++ ts).flatten) := f.perm (split_perm _ _ _ _).symm
theorem Fr.made (f : Fr H0 H own) (nx : H x = none) (ndx : H dx = none) (ne : dx ≠ x) : Fr H0 (upd (upd H dx (.own x)) x o) ((x, o) :: (dx, .own x) :: own) :=
  (f.new ndx).new (by rw [upd_ne (fun e => ne e.symm)]; exact nx)
theorem pc_ne (h : es.map peC = C) (hC : 0 < C.length) : es ≠ [] := fun z => by subst z; subst h; exact absurd hC (by decide)
theorem pe_last (h : es ≠ []) : (es.map peRef)[(es.map peRef).length - 1]? = some (V.ref (es.getLast h).t) := by
  rw [List.getElem?_map, List.length_map, ← List.getLast?_eq_getElem?, List.getLast?_eq_some_getLast h]; rfl
end
end Rc
namespace Rc
open PySem PySem.Spec PyProof.Rows L2
section
variable {β : Type} {g : β → HO} {H0 H : Hp} {pre : List (Addr × HO)} {ts : List (List (Addr × HO))} {rows : List (RO β)} {C : List β}
theorem tab_ne (h : rows.map (·.2) = C) (hC : 0 < C.length) : rows ≠ [] := fun z => by subst z; subst h; exact absurd hC (by simp)
theorem tab_last (h : rows ≠ []) : (rows.map rref)[(rows.map rref).length - 1]? = some (V.ref (rows.getLast h).1) := by
  rw [List.getElem?_map, List.length_map, ← List.getLast?_eq_getElem?, List.getLast?_eq_some_getLast h]; rfl
theorem lst_rref_pop : HO.lst ((rows.map rref).dropLast) = .lst (rows.dropLast.map rref) := by rw [List.map_dropLast]
theorem snd_pop (h : rows.map (·.2) = C) : rows.dropLast.map (·.2) = C.dropLast := by rw [← h, List.map_dropLast]
theorem Fr.rpop (f : Fr H0 H (pre ++ (rosOwn g rows :: ts).flatten)) (h : rows ≠ []) : Fr H0 H (((rows.getLast h).1, g (rows.getLast h).2) :: (pre ++ (rosOwn g rows.dropLast :: ts).flatten)) := by
  have e : rosOwn g rows = rosOwn g rows.dropLast ++ [((rows.getLast h).1, g (rows.getLast h).2)] := by
    unfold rosOwn
    conv => lhs; rw [← List.dropLast_concat_getLast h]
    rw [List.map_append]; rfl
  refine f.perm ?_
  show (pre ++ (rosOwn g rows ++ ts.flatten)).Perm (((rows.getLast h).1, g (rows.getLast h).2) :: (pre ++ (rosOwn g rows.dropLast ++ ts.flatten)))
  rw [e]
  generalize rosOwn g rows.dropLast = Y
  generalize ((rows.getLast h).1, g (rows.getLast h).2) = z
  rw [List.append_assoc]
  refine (List.Perm.append_left pre (permS Y [z] _)).trans ?_
  exact permS pre [z] _
theorem tab_getLast (h : rows.map (·.2) = C) (hn : rows ≠ []) (d : β) : (rows.getLast hn).2 = C.getLastD d := by
  subst h
  rw [List.getLastD_eq_getLast?, List.getLast?_map, List.getLast?_eq_some_getLast hn]; rfl
end
end Rc
namespace Rc
open PySem PySem.Spec PyProof.Rows L2
/-- a comprehension over a list, item by item -/
def unrc (K : PySem.W.Frag) (a D : Addr) (all : List V) (g : TG) (tt : TT) (te : TE) (vs : List Nat) (σ : L2.St) (Qd : Hp → Prop) : List V → Hp → Prop
  | [], H => SqL K H a all ∧ Qd H
  | x :: xs, H => SqL K H a all ∧ g x (wipe σ vs) H fun σ2 H2 => wipe σ2 vs = wipe σ vs ∧ tt σ2 H2 fun b H3 =>
      if b = true then te σ2 H3 fun y H4 => ∃ acc, H4 D = some (.lst acc) ∧ acc.length < sizeLine ∧ unrc K a D all g tt te vs σ Qd xs (upd H4 D (.lst (acc ++ [y]))) else unrc K a D all g tt te vs σ Qd xs H3
theorem lc_unr {K : PySem.W.Frag} {a D : Addr} {g : TG} {tt : TT} {te : TE} {vs : List Nat} {σ : L2.St} {H1 : Hp} {Qd : Hp → Prop} (all : List V) (h : unrc K a D all g tt te vs σ Qd all (upd H1 D (.lst []))) :
    ∃ W : Nat → Nat → Hp → Prop, (∃ m, W 0 m (upd H1 D (.lst []))) ∧ ∀ i m H, W i m H →
      ((Itl K a).stop i H ∧ Qd H) ∨ ((Itl K a).go i H ∧ ∃ Nx : Hp → Prop, (∀ H', Nx H' → ∃ m', m' < m ∧ W (i + 1) m' H') ∧ ∀ x H', (Itl K a).yld i H x H' → g x (wipe σ vs) H' fun σ2 H2 => wipe σ2 vs = wipe σ vs ∧ tt σ2 H2 fun b H3 =>
        if b = true then te σ2 H3 fun y H4 => ∃ acc, H4 D = some (.lst acc) ∧ acc.length < sizeLine ∧ Nx (upd H4 D (.lst (acc ++ [y]))) else Nx H3) := by
  refine lc_it (walk_list (xs := all)) (fun i H => unrc K a D all g tt te vs σ Qd (all.drop i) H) h (fun i H _ p => ?_) (fun i x H H' hi p y => ?_) (fun H p => ?_)
  · cases e : all.drop i with
    | nil => rw [e] at p; exact p.1
    | cons x xs => rw [e] at p; exact p.1
  · obtain ⟨rfl, hx⟩ := y
    have e : all.drop i = x :: all.drop (i + 1) := by
      rw [List.drop_eq_getElem_cons hi]
      congr 1
      rw [List.getElem?_eq_getElem hi] at hx
      exact Option.some.inj hx
    rw [e] at p
    exact p.2
  · rw [List.drop_length] at p
    exact p.2
/-! riffles that are scribbled over: no marks, a nine behind the word -/
def scr (e : PE) : PE := { e with marks := [], word := e.word ++ [9] }
def scrTo (es : List PE) (i : Nat) : List PE := (es.take i).map scr ++ es.drop i
section
variable {H0 H : Hp} {pre : List (Addr × HO)} {ts : List (List (Addr × HO))} {es : List PE} {i : Nat} {y : PE}
theorem scrTo_zero : scrTo es 0 = es := by unfold scrTo; rw [List.take_zero, List.map_nil, List.drop_zero]; rfl
theorem scrTo_get (h : es[i]? = some y) : (scrTo es i)[i]? = some y := by
  unfold scrTo
  have hi := (List.getElem?_eq_some_iff.mp h).1
  rw [List.getElem?_append_right (by rw [List.length_map, List.length_take]; omega), List.length_map, List.length_take, List.getElem?_drop]
  rw [show i + (i - min i es.length) = i by omega]; exact h
theorem scrTo_next (h : es[i]? = some y) : (scrTo es i).set i (scr y) = scrTo es (i + 1) := by
  have hi := (List.getElem?_eq_some_iff.mp h).1
  have hy := (List.getElem?_eq_some_iff.mp h).2
  unfold scrTo
  have hl : ((es.take i).map scr).length = i := by rw [List.length_map, List.length_take]; omega
  rw [List.set_append_right _ _ (by omega), hl, Nat.sub_self, List.drop_eq_getElem_cons hi, List.set_cons_zero, take_next h, List.map_append, List.append_assoc]
  rfl
theorem peOwn_split (h : es[i]? = some y) : (pesOwn es).Perm (peOwn y ++ pesOwn (es.eraseIdx i)) := by
  have p1 : es.Perm (y :: es.eraseIdx i) := getElem?_perm h
  unfold pesOwn
  exact (List.Perm.flatMap_right _ p1).trans (by rw [List.flatMap_cons])
theorem set_split {z : PE} (h : i < es.length) : (pesOwn (es.set i z)).Perm (peOwn z ++ pesOwn (es.eraseIdx i)) := by
  have h1 : (es.set i z)[i]? = some z := by simp [h]
  have e : (es.set i z).eraseIdx i = es.eraseIdx i := by
    rw [List.eraseIdx_eq_take_drop_succ, List.eraseIdx_eq_take_drop_succ, List.take_set, List.drop_set]
    rw [if_pos (by omega)]
    rw [List.set_eq_of_length_le (by rw [List.length_take]; omega)]
  have := peOwn_split h1
  rwa [e] at this
theorem Fr.psetm {ms : List Bool} (f : Fr H0 H (pre ++ (pesOwn es :: ts).flatten)) (h : es[i]? = some y) : Fr H0 (upd H y.m (.lst (ms.map V.bl))) (pre ++ (pesOwn (es.set i { y with marks := ms }) :: ts).flatten) := by
  have hi := (List.getElem?_eq_some_iff.mp h).1
  have f1 : Fr H0 H ((y.m, .lst (y.marks.map V.bl)) :: ((y.t, .tup [.ref y.m, .ref y.w]) :: (y.w, .lst (y.word.map V.int)) :: (pre ++ (pesOwn (es.eraseIdx i) ++ ts.flatten)))) := by
    refine f.perm ?_
    show (pre ++ (pesOwn es ++ ts.flatten)).Perm _
    refine (List.Perm.append_left pre (List.Perm.append_right _ (peOwn_split h))).trans ?_
    rw [List.append_assoc]
    refine (permS pre (peOwn y) _).trans ?_
    exact List.Perm.swap _ _ _
  refine (Fr.wr (o' := .lst (ms.map V.bl)) f1).perm ?_
  refine (List.Perm.swap _ _ _).trans ?_
  refine List.Perm.trans ?_ (List.Perm.append_left pre (List.Perm.append_right _ (set_split (z := { y with marks := ms }) hi))).symm
  rw [List.append_assoc]
  exact (permS pre (peOwn { y with marks := ms }) _).symm
theorem Fr.psetw {ws : List Int} (f : Fr H0 H (pre ++ (pesOwn es :: ts).flatten)) (h : es[i]? = some y) : Fr H0 (upd H y.w (.lst (ws.map V.int))) (pre ++ (pesOwn (es.set i { y with word := ws }) :: ts).flatten) := by
  have hi := (List.getElem?_eq_some_iff.mp h).1
  have f1 : Fr H0 H ((y.w, .lst (y.word.map V.int)) :: ((y.t, .tup [.ref y.m, .ref y.w]) :: (y.m, .lst (y.marks.map V.bl)) :: (pre ++ (pesOwn (es.eraseIdx i) ++ ts.flatten)))) := by
    refine f.perm ?_
    show (pre ++ (pesOwn es ++ ts.flatten)).Perm _
    refine (List.Perm.append_left pre (List.Perm.append_right _ (peOwn_split h))).trans ?_
    rw [List.append_assoc]
    refine (permS pre (peOwn y) _).trans ?_
    refine ((List.Perm.swap _ _ _).cons _).trans ?_
    exact List.Perm.swap _ _ _
  refine (Fr.wr (o' := .lst (ws.map V.int)) f1).perm ?_
  refine (List.Perm.swap _ _ _).trans ?_
  refine ((List.Perm.swap _ _ _).cons _).trans ?_
  refine List.Perm.trans ?_ (List.Perm.append_left pre (List.Perm.append_right _ (set_split (z := { y with word := ws }) hi))).symm
  rw [List.append_assoc]
  exact (permS pre (peOwn { y with word := ws }) _).symm
/-- one turn of the scribbling -/
theorem Fr.scr1 (f : Fr H0 H (pre ++ (pesOwn (scrTo es i) :: ts).flatten)) (h : es[i]? = some y) : Fr H0 (upd H y.m (.lst [])) (pre ++ (pesOwn ((scrTo es i).set i { y with marks := [] }) :: ts).flatten) := Fr.psetm (ms := []) f (scrTo_get h)
theorem scr1_get (h : es[i]? = some y) : ((scrTo es i).set i { y with marks := [] })[i]? = some { y with marks := [] } := by
  have hi := (List.getElem?_eq_some_iff.mp (scrTo_get h)).1
  simp [hi]
theorem Fr.scr2 (f : Fr H0 H (pre ++ (pesOwn ((scrTo es i).set i { y with marks := [] }) :: ts).flatten)) (h : es[i]? = some y) : Fr H0 (upd H y.w (.lst ((y.word ++ [9]).map V.int))) (pre ++ (pesOwn (scrTo es (i + 1)) :: ts).flatten) := by
  have e : ((scrTo es i).set i { y with marks := [] }).set i { ({ y with marks := [] } : PE) with word := y.word ++ [9] } = scrTo es (i + 1) := by
    rw [List.set_set, ← scrTo_next h]; rfl
  rw [← e]
  exact Fr.psetw (ws := y.word ++ [9]) f (scr1_get h)
theorem scr_at (f : Fr H0 H (pre ++ (pesOwn (scrTo es i) :: ts).flatten)) (h : es[i]? = some y) : H y.t = some (.tup [.ref y.m, .ref y.w]) ∧ H y.m = some (.lst (y.marks.map V.bl)) :=
  have p := Fr.pes (pre := pre) (ts := pesOwn (scrTo es i) :: ts) f 0 rfl
  ⟨p.t (List.mem_of_getElem? (scrTo_get h)), p.m (List.mem_of_getElem? (scrTo_get h))⟩
theorem scr_aw (f : Fr H0 H (pre ++ (pesOwn ((scrTo es i).set i { y with marks := [] }) :: ts).flatten)) (h : es[i]? = some y) : H y.w = some (.lst (y.word.map V.int)) :=
  PesAt.w (e := { y with marks := [] }) (Fr.pes (pre := pre) (ts := pesOwn ((scrTo es i).set i { y with marks := [] }) :: ts) f 0 rfl) (List.mem_of_getElem? (scr1_get h))
end
end Rc
namespace Rc
theorem pick60 (c : Int) : 1 ≤ ([60, 12] : List Int).getD (Int.toNat (min 1 (c % 8))) 0 ∧ ([60, 12] : List Int).getD (Int.toNat (min 1 (c % 8))) 0 ≤ 60 := by
  have h : min 1 (c % 8) = 0 ∨ min 1 (c % 8) = 1 := by omega
  rcases h with h | h <;> rw [h] <;> decide
def upto (n : Nat) : List Int := (List.range n).map fun i : Nat => (i : Int)
@[simp] theorem upto_length (n : Nat) : (upto n).length = n := by simp [upto]
theorem upto_succ (n : Nat) : upto (n + 1) = upto n ++ [(n : Int)] := by simp [upto, List.range_succ]
theorem mem_upto {n : Nat} {x : Int} : x ∈ upto n ↔ 0 ≤ x ∧ x < n := by
  unfold upto
  rw [List.mem_map]
  constructor
  · rintro ⟨i, hi, rfl⟩
    have := List.mem_range.mp hi
    omega
  · rintro ⟨h0, h1⟩
    exact ⟨x.toNat, List.mem_range.mpr (by omega), by omega⟩
theorem upto_nodup (n : Nat) : (upto n).Nodup := by
  unfold upto
  rw [List.nodup_iff_pairwise_ne, List.pairwise_map]
  exact (List.nodup_range (n := n)).imp fun h e => h (Int.ofNat.inj e)
theorem upto_getElem? {n i : Nat} (h : i < n) : (upto n)[i]? = some (i : Int) := by
  unfold upto; rw [List.getElem?_map, List.getElem?_range h]; rfl
theorem upto_getElem {n i : Nat} (h : i < (upto n).length) : (upto n)[i] = (i : Int) := by simp [upto]
/-- an order of its cards -/
def IsOrd (xs : List Int) : Prop := xs.Perm (upto xs.length)
theorem IsOrd.nodup {xs : List Int} (h : IsOrd xs) : xs.Nodup := h.nodup_iff.mpr (upto_nodup _)
theorem IsOrd.mem {xs : List Int} (h : IsOrd xs) {x : Int} : x ∈ xs ↔ 0 ≤ x ∧ x < xs.length := by rw [List.Perm.mem_iff h, mem_upto]
theorem IsOrd.bd {xs : List Int} (h : IsOrd xs) {i : Nat} {x : Int} (e : xs[i]? = some x) : 0 ≤ x ∧ x < xs.length := h.mem.mp (List.mem_of_getElem? e)
theorem isOrd_upto (n : Nat) : IsOrd (upto n) := by unfold IsOrd; rw [upto_length]
theorem isOrd_of {xs : List Int} {n : Nat} (h : xs.Perm (upto n)) : IsOrd xs := by
  have := h.length_eq
  rw [upto_length] at this
  unfold IsOrd; rwa [this]
theorem perm_of_nodup : ∀ {xs ys : List Int}, xs.Nodup → (∀ x ∈ xs, x ∈ ys) → ys.length ≤ xs.length → xs.Perm ys
  | [], ys, _, _, hl => by
    have : ys = [] := List.eq_nil_of_length_eq_zero (by simpa using hl)
    subst this; exact List.Perm.refl _
  | x :: xs, ys, hn, hs, hl => by
    have hx : x ∈ ys := hs x List.mem_cons_self
    have h1 := List.perm_cons_erase hx
    have hlen : (ys.erase x).length = ys.length - 1 := List.length_erase_of_mem hx
    have hn' := List.nodup_cons.mp hn
    have ih := perm_of_nodup (ys := ys.erase x) hn'.2 (fun y hy => by
      have hne : y ≠ x := fun e => hn'.1 (e ▸ hy)
      exact (List.mem_erase_of_ne hne).mpr (hs y (List.mem_cons_of_mem _ hy))) (by
        rw [List.length_cons] at hl; omega)
    exact (ih.cons x).trans h1.symm
theorem eraseIdx_perm {α : Type} : ∀ {ls : List α} {k : Nat} (h : k < ls.length), (ls[k] :: ls.eraseIdx k).Perm ls
  | [], _, h => by simp at h
  | _ :: _, 0, _ => List.Perm.refl _
  | x :: ls, k + 1, h => by
    have hk : k < ls.length := by simpa using h
    have ih := eraseIdx_perm hk
    show (ls[k] :: x :: ls.eraseIdx k).Perm (x :: ls)
    exact (List.Perm.swap _ _ _).trans (ih.cons x)
/-- as many different cards below their number -/
theorem isOrd_of_nodup {xs : List Int} (hn : xs.Nodup) (hb : ∀ x ∈ xs, 0 ≤ x ∧ x < xs.length) : IsOrd xs := by
  exact perm_of_nodup hn (fun x hx => mem_upto.mpr (hb x hx)) (by rw [upto_length]; exact Nat.le_refl _)
/-- a card taken out of what is left -/
theorem take_perm {os ls : List Int} {n k : Nat} (h : (os ++ ls).Perm (upto n)) (hk : k < ls.length) : ((os ++ [ls.getD k 0]) ++ ls.eraseIdx k).Perm (upto n) := by
  have e : ls.getD k 0 = ls[k] := by simp [List.getD, hk]
  have h1 : (ls[k] :: ls.eraseIdx k).Perm ls := eraseIdx_perm hk
  refine List.Perm.trans ?_ h
  rw [e, List.append_assoc]
  exact List.Perm.append_left _ h1
def placesI (o : List Int) : List Int := (List.range o.length).map fun c : Nat => (o.idxOf (c : Int) : Int)
def laidI (one other : List Int) : List Int := other.map fun p => one.getD p.toNat 0
@[simp] theorem placesI_length (o : List Int) : (placesI o).length = o.length := by simp [placesI]
@[simp] theorem laidI_length (one other : List Int) : (laidI one other).length = other.length := by simp [laidI]
theorem idxOf_lt {o : List Int} (h : IsOrd o) {c : Nat} (hc : c < o.length) : o.idxOf (c : Int) < o.length := List.idxOf_lt_length_of_mem (h.mem.mpr ⟨by omega, by omega⟩)
theorem idxOf_at {o : List Int} (h : o.Nodup) {i : Nat} {x : Int} (e : o[i]? = some x) : o.idxOf x = i := by
  obtain ⟨hi, rfl⟩ := List.getElem?_eq_some_iff.mp e
  exact h.idxOf_getElem i hi
theorem at_idxOf {o : List Int} {x : Int} (h : x ∈ o) : o.getD (o.idxOf x) 0 = x := by
  have hl := List.idxOf_lt_length_of_mem h
  rw [List.getD_eq_getElem?_getD, List.getElem?_eq_getElem hl, List.getElem_idxOf]; rfl
theorem placesI_getD {o : List Int} {c : Nat} (hc : c < o.length) : (placesI o).getD c 0 = (o.idxOf (c : Int) : Int) := by
  rw [List.getD_eq_getElem?_getD]; simp [placesI, hc]
theorem isOrd_placesI {o : List Int} (h : IsOrd o) : IsOrd (placesI o) := by
  refine isOrd_of_nodup ?_ ?_
  · unfold placesI
    rw [List.nodup_iff_pairwise_ne, List.pairwise_map]
    refine List.Pairwise.imp_of_mem ?_ (List.nodup_range (n := o.length))
    intro a b ha hb hne e
    have ha' := List.mem_range.mp ha
    have hb' := List.mem_range.mp hb
    have e1 : o.idxOf (a : Int) = o.idxOf (b : Int) := by omega
    have h1 := at_idxOf (h.mem.mpr ⟨show (0 : Int) ≤ (a : Int) by omega, show (a : Int) < o.length by omega⟩)
    have h2 := at_idxOf (h.mem.mpr ⟨show (0 : Int) ≤ (b : Int) by omega, show (b : Int) < o.length by omega⟩)
    rw [e1, h2] at h1
    omega
  · intro x hx
    obtain ⟨c, hc, rfl⟩ := List.mem_map.mp hx
    have := idxOf_lt h (List.mem_range.mp hc)
    rw [placesI_length]
    omega
theorem placesI_idxOf {o : List Int} (h : IsOrd o) {i : Nat} {x : Int} (e : o[i]? = some x) : (placesI o).idxOf (i : Int) = x.toNat := by
  have hb := h.bd e
  have hx : x.toNat < o.length := by omega
  refine idxOf_at (isOrd_placesI h).nodup ?_
  unfold placesI
  rw [List.getElem?_map, List.getElem?_range hx]
  have : ((x.toNat : Nat) : Int) = x := by omega
  simp only [Option.map_some, this, idxOf_at h.nodup e]
theorem placesI_placesI {o : List Int} (h : IsOrd o) : placesI (placesI o) = o := by
  apply List.ext_getElem?
  intro i
  by_cases hi : i < o.length
  · have e : o[i]? = some o[i] := List.getElem?_eq_getElem hi
    have := placesI_idxOf h e
    have hb := h.bd e
    rw [e]
    show ((List.range (placesI o).length).map fun c : Nat => ((placesI o).idxOf (c : Int) : Int))[i]? = _
    rw [List.getElem?_map, List.getElem?_range (by simpa using hi)]
    simp only [Option.map_some, this]
    congr 1; omega
  · rw [List.getElem?_eq_none (by simp; omega), List.getElem?_eq_none (by omega)]
theorem laidI_upto {o : List Int} (h : IsOrd o) : laidI (upto o.length) o = o := by
  unfold laidI
  conv => rhs; rw [← List.map_id o]
  apply List.map_congr_left
  intro x hx
  have := h.mem.mp hx
  rw [List.getD_eq_getElem?_getD, upto_getElem? (by omega)]
  simp; omega
theorem laidI_places {o : List Int} (h : IsOrd o) : laidI o (placesI o) = upto o.length := by
  unfold laidI placesI upto
  rw [List.map_map]
  apply List.map_congr_left
  intro c hc
  have hc' := List.mem_range.mp hc
  simp only [Function.comp]
  rw [Int.toNat_natCast]
  exact at_idxOf (h.mem.mpr ⟨by omega, by omega⟩)
theorem laidI_assoc {a b c : List Int} (hb : ∀ p ∈ c, 0 ≤ p ∧ p < b.length) : laidI (laidI a b) c = laidI a (laidI b c) := by
  unfold laidI
  rw [List.map_map]
  apply List.map_congr_left
  intro p hp
  have := hb p hp
  simp only [Function.comp]
  rw [List.getD_eq_getElem?_getD, List.getElem?_map, List.getD_eq_getElem?_getD (l := b), List.getElem?_eq_getElem (show p.toNat < b.length by omega)]
  rfl
theorem isOrd_laidI {a b : List Int} (ha : IsOrd a) (hb : IsOrd b) (hl : a.length = b.length) : IsOrd (laidI a b) := by
  have h1 : (laidI a b).Perm (laidI a (upto b.length)) := List.Perm.map _ hb
  have h2 : laidI a (upto b.length) = a := by
    unfold laidI upto
    rw [List.map_map, ← hl]
    apply List.ext_getElem
    · simp
    · intro i h1 h2
      simp only [List.getElem_map, List.getElem_range, Function.comp, Int.toNat_natCast]
      rw [List.getD_eq_getElem?_getD, List.getElem?_eq_getElem h2]; rfl
  rw [h2] at h1
  exact isOrd_of (h1.trans ha)
/-- the places as they are filled -/
def placesTo (o : List Int) (i : Nat) : List Int := (List.range o.length).map fun c : Nat => if o.idxOf (c : Int) < i then (o.idxOf (c : Int) : Int) else 0
theorem placesTo_zero (o : List Int) : placesTo o 0 = List.replicate o.length 0 := by
  unfold placesTo
  rw [List.eq_replicate_iff]
  simp
theorem placesTo_all {o : List Int} (h : IsOrd o) : placesTo o o.length = placesI o := by
  unfold placesTo placesI
  apply List.map_congr_left
  intro c hc
  rw [if_pos (idxOf_lt h (List.mem_range.mp hc))]
theorem placesTo_next {o : List Int} (h : IsOrd o) {i : Nat} {x : Int} (e : o[i]? = some x) : (placesTo o i).set x.toNat (i : Int) = placesTo o (i + 1) := by
  have hb := h.bd e
  have hi := idxOf_at h.nodup e
  apply List.ext_getElem
  · simp [placesTo]
  · intro c h1 h2
    have hc : c < o.length := by simpa [placesTo] using h2
    simp only [placesTo, List.getElem_set, List.getElem_map, List.getElem_range]
    by_cases ex : x.toNat = c
    · subst ex
      have : ((x.toNat : Nat) : Int) = x := by omega
      rw [if_pos rfl, this, hi, if_pos (by omega)]
    · rw [if_neg ex]
      have hne : o.idxOf (c : Int) ≠ i := by
        intro z
        have h3 := at_idxOf (h.mem.mpr ⟨show (0 : Int) ≤ (c : Int) by omega, show (c : Int) < o.length by omega⟩)
        rw [z, List.getD_eq_getElem?_getD, e] at h3
        simp at h3
        omega
      by_cases h4 : o.idxOf (c : Int) < i
      · rw [if_pos h4, if_pos (by omega)]
      · rw [if_neg h4, if_neg (by omega)]
theorem sorted_eq {a b x y : List Int} (ha : a.Pairwise (· ≤ ·)) (hb : b.Pairwise (· ≤ ·)) (pa : a.Perm x) (pb : b.Perm y) (h : x.Perm y) : a = b := by
  have hp : a.Perm b := pa.trans (h.trans pb.symm)
  clear pa pb h
  induction a generalizing b with
  | nil => exact (List.nil_perm.mp hp).symm
  | cons u a ih =>
    cases b with
    | nil => exact absurd hp.length_eq (by simp)
    | cons v b =>
      have h1 := List.pairwise_cons.mp ha
      have h2 := List.pairwise_cons.mp hb
      have e : u = v := by
        have hu : u ∈ v :: b := hp.mem_iff.mp List.mem_cons_self
        have hv : v ∈ u :: a := hp.mem_iff.mpr List.mem_cons_self
        rcases List.mem_cons.mp hu with e | hu
        · exact e
        · rcases List.mem_cons.mp hv with e | hv
          · exact e.symm
          · have := h1.1 v hv; have := h2.1 u hu; omega
      subst e
      rw [ih h1.2 h2.2 ((List.perm_cons u).mp hp)]
theorem ord_perm {a b : List Int} (ha : IsOrd a) (hb : IsOrd b) (hl : a.length = b.length) : a.Perm b := by
  unfold IsOrd at ha hb
  rw [hl] at ha
  exact ha.trans hb.symm
end Rc
namespace Rc
/-- the parts of a word for m heaps -/
def IsW (m : Nat) (w : List Int) : Prop := ∀ x ∈ w, 0 ≤ x ∧ x < m
theorem IsW.at {m : Nat} {w : List Int} (h : IsW m w) {i : Nat} {x : Int} (e : w[i]? = some x) : 0 ≤ x ∧ x < m := h x (List.mem_of_getElem? e)
theorem IsW.nil (m : Nat) : IsW m [] := fun _ h => nomatch h
theorem IsW.app {m : Nat} {w : List Int} {x : Int} (h : IsW m w) (h0 : 0 ≤ x) (h1 : x < m) : IsW m (w ++ [x]) := fun y hy => by
  rcases List.mem_append.mp hy with hy | hy
  · exact h y hy
  · rw [List.mem_singleton.mp hy]; exact ⟨h0, h1⟩
theorem take_nxt {α : Type} {ns : List α} {i : Nat} {y : α} (h : ns[i]? = some y) : ns.take (i + 1) = ns.take i ++ [y] := by rw [List.take_add_one, h]; rfl
/-- how often each heap stands -/
def sizesI (m : Nat) (w : List Int) : List Int := (List.range m).map fun h : Nat => (w.count (h : Int) : Int)
@[simp] theorem sizesI_length (m : Nat) (w : List Int) : (sizesI m w).length = m := by simp [sizesI]
theorem sizesI_getD {m : Nat} {w : List Int} {h : Nat} (hh : h < m) : (sizesI m w).getD h 0 = (w.count (h : Int) : Int) := by
  rw [List.getD_eq_getElem?_getD]; simp [sizesI, hh]
theorem sizesI_nil (m : Nat) : sizesI m [] = List.replicate m 0 := by
  unfold sizesI; rw [List.eq_replicate_iff]; simp
theorem sizesI_next {m : Nat} {w : List Int} (hw : IsW m w) {i : Nat} {x : Int} (e : w[i]? = some x) :
    (sizesI m (w.take i)).set x.toNat ((sizesI m (w.take i)).getD x.toNat 0 + 1) = sizesI m (w.take (i + 1)) := by
  have hb := hw.at e
  rw [take_nxt e, sizesI_getD (show x.toNat < m by omega)]
  apply List.ext_getElem
  · simp
  · intro c h1 h2
    have hc : c < m := by simpa using h2
    simp only [sizesI, List.getElem_set, List.getElem_map, List.getElem_range, List.count_append, List.count_singleton]
    by_cases ex : x.toNat = c
    · subst ex
      have : ((x.toNat : Nat) : Int) = x := by omega
      rw [if_pos rfl, this]; simp
    · rw [if_neg ex]
      have : (x == (c : Int)) = false := by rw [beq_eq_false_iff_ne]; omega
      simp [this]
/-- how many stand in heaps ahead of h -/
def startI (w : List Int) : Nat → Nat
  | 0 => 0
  | h + 1 => startI w h + w.count (h : Int)
theorem startI_mono (w : List Int) {h h' : Nat} (hh : h ≤ h') : startI w h ≤ startI w h' := by
  induction h' with
  | zero => have : h = 0 := by omega
            subst this; exact Nat.le_refl _
  | succ k ih =>
    by_cases e : h = k + 1
    · subst e; exact Nat.le_refl _
    · have := ih (by omega); show _ ≤ startI w k + _; omega
theorem startI_lt {w : List Int} {h h' : Nat} (hh : h < h') : startI w h + w.count (h : Int) ≤ startI w h' := startI_mono w (show h + 1 ≤ h' from hh)
theorem startI_filter (w : List Int) (hw : ∀ x ∈ w, 0 ≤ x) : ∀ h : Nat, startI w h = (w.filter fun x => decide (x < (h : Int))).length
  | 0 => by
    have : (w.filter fun x => decide (x < ((0 : Nat) : Int))) = [] := List.filter_eq_nil_iff.mpr fun x hx => by have := hw x hx; simp; omega
    rw [this]; rfl
  | h + 1 => by
    show startI w h + _ = _
    rw [startI_filter w hw h, show ((h + 1 : Nat) : Int) = (h : Int) + 1 by omega]
    clear hw
    induction w with
    | nil => rfl
    | cons x w ih =>
      simp only [List.count_cons, List.filter_cons]
      by_cases h1 : x < (h : Int)
      · have e1 : decide (x < (h : Int)) = true := decide_eq_true h1
        have e2 : decide (x < (h : Int) + 1) = true := decide_eq_true (by omega)
        have e3 : (x == (h : Int)) = false := by rw [beq_eq_false_iff_ne]; omega
        simp only [e1, e2, e3, if_true, List.length_cons]; simp; omega
      · have e1 : decide (x < (h : Int)) = false := decide_eq_false h1
        by_cases h2 : x = (h : Int)
        · have e2 : decide (x < (h : Int) + 1) = true := decide_eq_true (by omega)
          have e3 : (x == (h : Int)) = true := beq_iff_eq.mpr h2
          simp only [e1, e2, e3, if_true, List.length_cons]; simp; omega
        · have e2 : decide (x < (h : Int) + 1) = false := decide_eq_false (by omega)
          have e3 : (x == (h : Int)) = false := by rw [beq_eq_false_iff_ne]; omega
          simp only [e1, e2, e3]; simp; omega
theorem startI_all {m : Nat} {w : List Int} (hw : IsW m w) : startI w m = w.length := by
  rw [startI_filter w (fun x hx => (hw x hx).1)]
  congr 1
  exact List.filter_eq_self.mpr fun x hx => decide_eq_true (hw x hx).2
theorem sizesI_take_sum (m : Nat) (w : List Int) : ∀ {h : Nat}, h ≤ m → ((sizesI m w).take h).sum = startI w h
  | 0, _ => by simp; rfl
  | h + 1, hh => by
    have e : (sizesI m w)[h]? = some (w.count (h : Int) : Int) := by simp [sizesI, show h < m by omega]
    rw [take_nxt e, List.sum_append, sizesI_take_sum m w (by omega)]
    show _ + _ = ((startI w h + _ : Nat) : Int)
    simp
theorem sizesI_sum {m : Nat} {w : List Int} (hw : IsW m w) : (sizesI m w).sum = w.length := by
  have := sizesI_take_sum m w (Nat.le_refl m)
  rw [startI_all hw, List.take_of_length_le (by simp)] at this
  exact this
/-- the place from which the card comes that lies at place j: w[j] = h -/
def topI (ms : List Bool) (w : List Int) (h : Nat) (c : Nat) : Int := if ms.getD h false = true then (startI w h : Int) + w.count (h : Int) - 1 - c else startI w h + c
def cntI (w : List Int) (j : Nat) : Nat := (w.take j).count (w.getD j 0)
def numAt (ms : List Bool) (w : List Int) (j : Nat) : Int := topI ms w (w.getD j 0).toNat (cntI w j)
def numI (ms : List Bool) (w : List Int) : List Int := (List.range w.length).map (numAt ms w)
@[simp] theorem numI_length (ms : List Bool) (w : List Int) : (numI ms w).length = w.length := by simp [numI]
theorem getD_of {α : Type} {xs : List α} {i : Nat} {x d : α} (e : xs[i]? = some x) : xs.getD i d = x := by rw [List.getD_eq_getElem?_getD, e]; rfl
theorem getElem?_getD {α : Type} {xs : List α} {i : Nat} (d : α) (h : i < xs.length) : xs[i]? = some (xs.getD i d) := by
  rw [List.getD_eq_getElem?_getD, List.getElem?_eq_getElem h]; rfl
theorem cnt_lt {w : List Int} {j : Nat} {x : Int} (e : w[j]? = some x) : (w.take j).count x < w.count x := by
  have h1 := take_nxt e
  have h2 : (w.take (j + 1)).count x ≤ w.count x := (List.take_sublist _ _).count_le x
  rw [h1, List.count_append, List.count_singleton] at h2
  simp at h2
  omega
theorem topI_bd {m : Nat} {ms : List Bool} {w : List Int} (hw : IsW m w) {h c : Nat} (hh : h < m) (hc : c < w.count (h : Int)) :
    (startI w h : Int) ≤ topI ms w h c ∧ topI ms w h c < startI w h + w.count (h : Int) ∧ startI w h + w.count (h : Int) ≤ w.length := by
  have h1 := startI_lt (w := w) (show h < h + 1 by omega)
  have h2 := startI_mono w (show h + 1 ≤ m from hh)
  rw [startI_all hw] at h2
  have h3 : startI w (h + 1) = startI w h + w.count (h : Int) := rfl
  unfold topI
  split <;> omega
theorem numAt_bd {m : Nat} {ms : List Bool} {w : List Int} (hw : IsW m w) {j : Nat} (hj : j < w.length) : 0 ≤ numAt ms w j ∧ numAt ms w j < w.length := by
  have e := getElem?_getD 0 hj
  have hb := hw.at e
  have hc := cnt_lt e
  unfold numAt cntI
  have ex : (((w.getD j 0).toNat : Nat) : Int) = w.getD j 0 := by omega
  have := topI_bd (ms := ms) hw (h := (w.getD j 0).toNat) (c := (w.take j).count (w.getD j 0)) (by omega) (by rw [ex]; exact hc)
  rw [ex] at this
  omega
theorem numAt_inj {m : Nat} {ms : List Bool} {w : List Int} (hw : IsW m w) {i j : Nat} (hi : i < w.length) (hj : j < w.length) (he : numAt ms w i = numAt ms w j) : i = j := by
  have ei := getElem?_getD 0 hi
  have ej := getElem?_getD 0 hj
  have bi := hw.at ei
  have bj := hw.at ej
  have ci := cnt_lt ei
  have cj := cnt_lt ej
  have xi : (((w.getD i 0).toNat : Nat) : Int) = w.getD i 0 := by omega
  have xj : (((w.getD j 0).toNat : Nat) : Int) = w.getD j 0 := by omega
  have ti := topI_bd (ms := ms) hw (h := (w.getD i 0).toNat) (c := cntI w i) (by omega) (by rw [xi]; exact ci)
  have tj := topI_bd (ms := ms) hw (h := (w.getD j 0).toNat) (c := cntI w j) (by omega) (by rw [xj]; exact cj)
  have same : (w.getD i 0).toNat = (w.getD j 0).toNat := by
    unfold numAt at he
    rcases Nat.lt_trichotomy (w.getD i 0).toNat (w.getD j 0).toNat with h | h | h
    · have := startI_lt (w := w) h; omega
    · exact h
    · have := startI_lt (w := w) h; omega
  have sv : w.getD i 0 = w.getD j 0 := by omega
  have hcnt : cntI w i = cntI w j := by
    unfold numAt at he
    rw [same] at he
    unfold topI at he
    split at he <;> omega
  unfold cntI at hcnt
  rw [← sv] at hcnt
  rw [← sv] at ej
  rcases Nat.lt_trichotomy i j with h | h | h
  · have h1 : (w.take (i + 1)).count (w.getD i 0) ≤ (w.take j).count (w.getD i 0) := by
      have : (w.take (i + 1)).Sublist (w.take j) := List.take_sublist_take_left (by omega)
      exact this.count_le _
    rw [take_nxt ei, List.count_append, List.count_singleton_self] at h1
    omega
  · exact h
  · have h1 : (w.take (j + 1)).count (w.getD i 0) ≤ (w.take i).count (w.getD i 0) := by
      have : (w.take (j + 1)).Sublist (w.take i) := List.take_sublist_take_left (by omega)
      exact this.count_le _
    rw [take_nxt ej, List.count_append, List.count_singleton_self] at h1
    omega
theorem isOrd_numI {m : Nat} (ms : List Bool) {w : List Int} (hw : IsW m w) : IsOrd (numI ms w) := by
  refine isOrd_of_nodup ?_ ?_
  · unfold numI
    rw [List.nodup_iff_pairwise_ne, List.pairwise_map]
    refine List.Pairwise.imp_of_mem ?_ (List.nodup_range (n := w.length))
    intro a b ha hb hne e
    exact hne (numAt_inj hw (List.mem_range.mp ha) (List.mem_range.mp hb) e)
  · intro x hx
    obtain ⟨j, hj, rfl⟩ := List.mem_map.mp hx
    rw [numI_length]
    exact numAt_bd hw (List.mem_range.mp hj)
/-- the order behind a riffle, and the one ahead -/
def riffleI (o : List Int) (ms : List Bool) (w : List Int) : List Int := laidI o (numI ms w)
def undoneI (o : List Int) (ms : List Bool) (w : List Int) : List Int := laidI o (placesI (numI ms w))
@[simp] theorem riffleI_length (o : List Int) (ms : List Bool) (w : List Int) : (riffleI o ms w).length = w.length := by simp [riffleI]
@[simp] theorem undoneI_length (o : List Int) (ms : List Bool) (w : List Int) : (undoneI o ms w).length = w.length := by simp [undoneI]
theorem laidI_self_places {p : List Int} (h : IsOrd p) : laidI (placesI p) p = upto p.length := by
  have := laidI_places (isOrd_placesI h)
  rwa [placesI_placesI h, placesI_length] at this
theorem laidI_id {o : List Int} : laidI o (upto o.length) = o := by
  unfold laidI upto
  rw [List.map_map]
  apply List.ext_getElem
  · simp
  · intro i h1 h2
    simp only [List.getElem_map, List.getElem_range, Function.comp, Int.toNat_natCast]
    rw [List.getD_eq_getElem?_getD, List.getElem?_eq_getElem h2]; rfl
theorem riffle_undone {m : Nat} {o : List Int} {ms : List Bool} {w : List Int} (hw : IsW m w) (hl : o.length = w.length) : riffleI (undoneI o ms w) ms w = o := by
  have h := isOrd_numI ms hw
  unfold riffleI undoneI
  rw [laidI_assoc (fun p hp => by have := h.mem.mp hp; rwa [placesI_length]), laidI_self_places h, numI_length, ← hl, laidI_id]
theorem undone_riffle {m : Nat} {o : List Int} {ms : List Bool} {w : List Int} (hw : IsW m w) (hl : o.length = w.length) : undoneI (riffleI o ms w) ms w = o := by
  have h := isOrd_numI ms hw
  unfold riffleI undoneI
  rw [laidI_assoc (fun p hp => by have := (isOrd_placesI h).mem.mp hp; rwa [placesI_length] at this), laidI_places h, numI_length, ← hl, laidI_id]
theorem isOrd_riffleI {m : Nat} {o : List Int} (ms : List Bool) {w : List Int} (ho : IsOrd o) (hw : IsW m w) (hl : o.length = w.length) : IsOrd (riffleI o ms w) :=
  isOrd_laidI ho (isOrd_numI ms hw) (by simpa using hl)
theorem isOrd_undoneI {m : Nat} {o : List Int} (ms : List Bool) {w : List Int} (ho : IsOrd o) (hw : IsW m w) (hl : o.length = w.length) : IsOrd (undoneI o ms w) :=
  isOrd_laidI ho (isOrd_placesI (isOrd_numI ms hw)) (by simpa using hl)
theorem riffle_laid {m : Nat} {o : List Int} {ms : List Bool} {w : List Int} {n : Int} (hw : IsW m w) (hl : w.length = o.length) (hn : (o.length : Int) = n) : riffleI o ms w = laidI o (riffleI (upto n.toNat) ms w) := by
  have h := isOrd_numI ms hw
  subst hn
  unfold riffleI
  rw [Int.toNat_natCast, ← laidI_assoc (fun p hp => by have := h.mem.mp hp; rw [numI_length] at this; rw [upto_length]; omega), laidI_id]
theorem undone_laid {m : Nat} {o : List Int} {ms : List Bool} {w : List Int} {n : Int} (hw : IsW m w) (hl : w.length = o.length) (hn : (o.length : Int) = n) : undoneI o ms w = laidI o (undoneI (upto n.toNat) ms w) := by
  have h := isOrd_placesI (isOrd_numI ms hw)
  subst hn
  unfold undoneI
  rw [Int.toNat_natCast, ← laidI_assoc (fun p hp => by have := h.mem.mp hp; rw [placesI_length, numI_length] at this; rw [upto_length]; omega), laidI_id]
theorem ord_bd {a : List Int} {n : Nat} (h : IsOrd a) (hl : a.length = n) : ∀ p ∈ a, 0 ≤ p ∧ p < (n : Int) := fun p hp => by have := h.mem.mp hp; omega
/-! the programs' loops -/
theorem size_at {m : Nat} {w : List Int} {i : Nat} {y : Int} (e : (sizesI m w)[i]? = some y) : y = (w.count (i : Int) : Int) := by
  have hl := (List.getElem?_eq_some_iff.mp e).1
  have := getD_of (d := 0) e
  rw [sizesI_getD (by simpa using hl)] at this
  exact this.symm
def topsTo (ms : List Bool) (w : List Int) (n j : Nat) : List Int := (List.range n).map fun h => topI ms w h ((w.take j).count (h : Int))
theorem topI_t {ms : List Bool} {w : List Int} {h c : Nat} (hm : ms.getD (Int.toNat (h : Int)) false = true) : topI ms w h c = (startI w h : Int) + w.count (h : Int) - 1 - c := by
  rw [Int.toNat_natCast] at hm; unfold topI; rw [if_pos hm]
theorem topI_f {ms : List Bool} {w : List Int} {h c : Nat} (hm : ms.getD (Int.toNat (h : Int)) false = false) : topI ms w h c = (startI w h : Int) + c := by
  rw [Int.toNat_natCast] at hm; unfold topI; rw [if_neg (by rw [hm]; exact Bool.false_ne_true)]
theorem topsTo_next (ms : List Bool) (w : List Int) (n : Nat) {x : Int} (h : x = topI ms w n 0) : topsTo ms w n 0 ++ [x] = topsTo ms w (n + 1) 0 := by
  unfold topsTo; rw [List.range_succ, List.map_append, h]; simp
theorem topsTo_getD {ms : List Bool} {w : List Int} {n j h : Nat} (hh : h < n) : (topsTo ms w n j).getD h 0 = topI ms w h ((w.take j).count (h : Int)) := by
  rw [List.getD_eq_getElem?_getD]; simp [topsTo, hh]
def numTo (ms : List Bool) (w : List Int) (j : Nat) : List Int := (List.range j).map (numAt ms w)
theorem numTo_next {ms : List Bool} {w : List Int} (hw : IsW ms.length w) {i : Nat} {y : Int} (e : w[i]? = some y) : numTo ms w i ++ [(topsTo ms w ms.length i).getD y.toNat 0] = numTo ms w (i + 1) := by
  have hb := hw.at e
  unfold numTo
  rw [List.range_succ, List.map_append, topsTo_getD (by omega)]
  show _ = _ ++ [numAt ms w i]
  unfold numAt cntI
  rw [getD_of e, show ((y.toNat : Nat) : Int) = y by omega]
theorem tops_step {ms : List Bool} {w : List Int} (hw : IsW ms.length w) {i : Nat} {y v : Int} (e : w[i]? = some y) (hv : v = topI ms w y.toNat ((w.take i).count y + 1)) :
    (topsTo ms w ms.length i).set y.toNat v = topsTo ms w ms.length (i + 1) := by
  have hb := hw.at e
  apply List.ext_getElem
  · simp [topsTo]
  · intro c h1 h2
    simp only [topsTo, List.getElem_set, List.getElem_map, List.getElem_range]
    rw [take_nxt e, List.count_append, List.count_singleton]
    by_cases ex : y.toNat = c
    · subst ex
      have : ((y.toNat : Nat) : Int) = y := by omega
      rw [if_pos rfl, this, hv]; simp
    · rw [if_neg ex]
      have : (y == (c : Int)) = false := by rw [beq_eq_false_iff_ne]; omega
      simp [this]
theorem tops_t {ms : List Bool} {w : List Int} (hw : IsW ms.length w) {i : Nat} {y : Int} (e : w[i]? = some y) (hm : ms.getD y.toNat false = true) :
    (topsTo ms w ms.length i).set y.toNat ((topsTo ms w ms.length i).getD y.toNat 0 - 1) = topsTo ms w ms.length (i + 1) := by
  have hb := hw.at e
  refine tops_step hw e ?_
  rw [topsTo_getD (by omega), show ((y.toNat : Nat) : Int) = y by omega]
  unfold topI; rw [if_pos hm, if_pos hm]; omega
theorem tops_f {ms : List Bool} {w : List Int} (hw : IsW ms.length w) {i : Nat} {y : Int} (e : w[i]? = some y) (hm : ms.getD y.toNat false = false) :
    (topsTo ms w ms.length i).set y.toNat ((topsTo ms w ms.length i).getD y.toNat 0 + 1) = topsTo ms w ms.length (i + 1) := by
  have hb := hw.at e
  refine tops_step hw e ?_
  rw [topsTo_getD (by omega), show ((y.toNat : Nat) : Int) = y by omega]
  have hn : ¬ ms.getD y.toNat false = true := by rw [hm]; exact Bool.false_ne_true
  unfold topI; rw [if_neg hn, if_neg hn]; omega
def undoTo (o p : List Int) (i : Nat) : List Int := (List.range o.length).map fun c : Nat => if p.idxOf (c : Int) < i then o.getD (p.idxOf (c : Int)) 0 else 0
theorem undoTo_zero (o p : List Int) : o.map (fun _ => (0 : Int)) = undoTo o p 0 := by
  unfold undoTo
  apply List.ext_getElem
  · simp
  · intro i h1 h2; simp
theorem undoTo_all {o p : List Int} (h : IsOrd p) (hl : o.length = p.length) : undoTo o p (min o.length p.length) = laidI o (placesI p) := by
  unfold undoTo laidI placesI
  rw [List.map_map, hl, Nat.min_self]
  apply List.map_congr_left
  intro c hc
  rw [if_pos (idxOf_lt h (List.mem_range.mp hc))]; rfl
theorem undoTo_next {o p : List Int} (h : IsOrd p) (hl : o.length = p.length) {i : Nat} {x y : Int} (e : o[i]? = some x) (e2 : p[i]? = some y) : (undoTo o p i).set y.toNat x = undoTo o p (i + 1) := by
  have hb := h.bd e2
  have hi := idxOf_at h.nodup e2
  apply List.ext_getElem
  · simp [undoTo]
  · intro c h1 h2
    have hc : c < p.length := by rw [← hl]; simpa [undoTo] using h2
    simp only [undoTo, List.getElem_set, List.getElem_map, List.getElem_range]
    by_cases ex : y.toNat = c
    · subst ex
      have : ((y.toNat : Nat) : Int) = y := by omega
      rw [if_pos rfl, this, hi, if_pos (by omega), getD_of e]
    · rw [if_neg ex]
      have hne : p.idxOf (c : Int) ≠ i := by
        intro z
        have h3 := at_idxOf (h.mem.mpr ⟨show (0 : Int) ≤ (c : Int) by omega, show (c : Int) < p.length by omega⟩)
        rw [z, getD_of e2] at h3
        omega
      by_cases h4 : p.idxOf (c : Int) < i
      · rw [if_pos h4, if_pos (by omega)]
      · rw [if_neg h4, if_neg (by omega)]
/-! the law's heaps -/
def heapI (o : List Int) (ms : List Bool) (w : List Int) (h : Nat) : List Int :=
  if ms.getD h false = true then ((o.drop (startI w h)).take (w.count (h : Int))).reverse else (o.drop (startI w h)).take (w.count (h : Int))
def heapsTo (o : List Int) (ms : List Bool) (w : List Int) (n : Nat) : List (List Int) := (List.range n).map (heapI o ms w)
def heapsAt (o : List Int) (ms : List Bool) (w : List Int) (j : Nat) : List (List Int) := (List.range ms.length).map fun h => (heapI o ms w h).drop ((w.take j).count (h : Int))
theorem heapsTo_next (o : List Int) (ms : List Bool) (w : List Int) (n : Nat) : heapsTo o ms w (n + 1) = heapsTo o ms w n ++ [heapI o ms w n] := by
  unfold heapsTo; rw [List.range_succ, List.map_append]; rfl
theorem heapsAt_zero (o : List Int) (ms : List Bool) (w : List Int) : heapsAt o ms w 0 = heapsTo o ms w ms.length := by
  unfold heapsAt heapsTo
  apply List.map_congr_left
  intro h _; simp
theorem count_room {m : Nat} {w : List Int} (hw : IsW m w) {h : Nat} (hh : h < m) : startI w h + w.count (h : Int) ≤ w.length := by
  have h2 := startI_mono w (show h + 1 ≤ m from hh)
  rw [startI_all hw] at h2
  exact h2
theorem heapI_length {m : Nat} {o : List Int} {ms : List Bool} {w : List Int} (hw : IsW m w) (hl : w.length = o.length) {h : Nat} (hh : h < m) : (heapI o ms w h).length = w.count (h : Int) := by
  have := count_room hw hh
  unfold heapI
  split
  · rw [List.length_reverse, List.length_take, List.length_drop]; omega
  · rw [List.length_take, List.length_drop]; omega
theorem heapI_getD {m : Nat} {o : List Int} {ms : List Bool} {w : List Int} (hw : IsW m w) (hl : w.length = o.length) {h c : Nat} (hh : h < m) (hc : c < w.count (h : Int)) :
    (heapI o ms w h).getD c 0 = o.getD (topI ms w h c).toNat 0 := by
  have hr := count_room hw hh
  have hln := heapI_length (ms := ms) hw hl hh
  unfold heapI topI at *
  by_cases hm : ms.getD h false = true
  · rw [if_pos hm] at hln ⊢
    rw [if_pos hm]
    rw [List.getD_eq_getElem?_getD, List.getElem?_reverse (by rw [List.length_reverse] at hln; omega), List.getElem?_take_of_lt (by rw [List.length_reverse] at hln; omega), List.getElem?_drop, List.getD_eq_getElem?_getD]
    rw [List.length_reverse] at hln
    congr 2
    omega
  · rw [if_neg hm] at hln ⊢
    rw [if_neg hm]
    rw [List.getD_eq_getElem?_getD, List.getElem?_take_of_lt hc, List.getElem?_drop, List.getD_eq_getElem?_getD]
    congr 2
theorem heapsAt_row {o : List Int} {ms : List Bool} {w : List Int} {j : Nat} {y : Int} {rows : List (Nat × List Int)} (hl : w.length = o.length) (hb : 0 ≤ y ∧ y < ms.length) (hh : rows.map (·.2) = heapsAt o ms w j) :
    (rows.getD y.toNat (0, [])).2 = (heapI o ms w y.toNat).drop ((w.take j).count y) := by
  have e : (rows.map (·.2)).getD y.toNat [] = (rows.getD y.toNat (0, [])).2 := by
    rw [List.getD_eq_getElem?_getD, List.getElem?_map, List.getD_eq_getElem?_getD]
    cases rows[y.toNat]? <;> rfl
  rw [← e, hh, List.getD_eq_getElem?_getD]
  have : y.toNat < ms.length := by omega
  simp only [heapsAt, List.getElem?_map, List.getElem?_range this, Option.map_some, Option.getD_some]
  rw [show ((y.toNat : Nat) : Int) = y by omega]
theorem heapAt_length {o : List Int} {ms : List Bool} {w : List Int} (hw : IsW ms.length w) (hl : w.length = o.length) {i : Nat} {y : Int} (e : w[i]? = some y) :
    0 < ((heapI o ms w y.toNat).drop ((w.take i).count y)).length ∧ ((heapI o ms w y.toNat).drop ((w.take i).count y)).length ≤ w.length := by
  have hb := hw.at e
  have hc := cnt_lt e
  rw [List.length_drop, heapI_length hw hl (show y.toNat < ms.length by omega), show ((y.toNat : Nat) : Int) = y by omega]
  have := w.count_le_length (a := y)
  omega
def riffTo (o : List Int) (ms : List Bool) (w : List Int) (j : Nat) : List Int := (List.range j).map fun j => o.getD (numAt ms w j).toNat 0
theorem riffTo_all {o : List Int} {ms : List Bool} {w : List Int} (hw : IsW ms.length w) (hl : w.length = o.length) : riffTo o ms w w.length = riffleI o ms w := by
  unfold riffTo riffleI laidI numI
  rw [List.map_map]; rfl
theorem riffTo_next {o : List Int} {ms : List Bool} {w : List Int} (hw : IsW ms.length w) (hl : w.length = o.length) {i : Nat} {y : Int} (e : w[i]? = some y) :
    riffTo o ms w i ++ [((heapI o ms w y.toNat).drop ((w.take i).count y)).getD 0 0] = riffTo o ms w (i + 1) := by
  have hb := hw.at e
  have hc := cnt_lt e
  have ey : ((y.toNat : Nat) : Int) = y := by omega
  unfold riffTo
  rw [List.range_succ, List.map_append]
  congr 1
  have := heapI_getD (o := o) (ms := ms) hw hl (show y.toNat < ms.length by omega) (c := (w.take i).count y) (by rw [ey]; exact hc)
  rw [List.getD_eq_getElem?_getD, List.getElem?_drop, Nat.add_zero, ← List.getD_eq_getElem?_getD, this]
  show [_] = [o.getD (numAt ms w i).toNat 0]
  unfold numAt cntI
  rw [getD_of e]
theorem heapsAt_next {o : List Int} {ms : List Bool} {w : List Int} (hw : IsW ms.length w) {i : Nat} {y : Int} (e : w[i]? = some y) {r : List Int} (hr : r = ((heapI o ms w y.toNat).drop ((w.take i).count y)).drop 1) :
    (heapsAt o ms w i).set y.toNat r = heapsAt o ms w (i + 1) := by
  have hb := hw.at e
  apply List.ext_getElem
  · simp [heapsAt]
  · intro c h1 h2
    simp only [heapsAt, List.getElem_set, List.getElem_map, List.getElem_range]
    rw [take_nxt e, List.count_append, List.count_singleton]
    by_cases ex : y.toNat = c
    · subst ex
      have : ((y.toNat : Nat) : Int) = y := by omega
      rw [if_pos rfl, this, hr, List.drop_drop]; simp
    · rw [if_neg ex]
      have : (y == (c : Int)) = false := by rw [beq_eq_false_iff_ne]; omega
      simp [this]
end Rc
namespace Rc
open PySem PySem.Spec PyProof.Rows L2
theorem heap_cut {m : Nat} {o : List Int} {w : List Int} (hw : IsW m w) (hl : w.length = o.length) {h : Nat} (hh : h < m) {s : Int} (hs : s = (startI w h : Int)) :
    cutL o (some s) (some (s + (w.count (h : Int) : Int))) = (o.drop (startI w h)).take (w.count (h : Int)) := by
  have := count_room hw hh
  subst hs
  rw [cut_mid (by omega) (by omega) (by omega)]
  congr 1
  omega
theorem heap_t {o : List Int} {ms : List Bool} {w : List Int} (hw : IsW ms.length w) (hl : w.length = o.length) {h : Nat} (hh : h < ms.length) {s : Int} (hs : s = (startI w h : Int)) (hm : ms.getD (Int.toNat (h : Int)) false = true) :
    (cutL o (some s) (some (s + (w.count (h : Int) : Int)))).reverse = heapI o ms w h := by
  rw [Int.toNat_natCast] at hm
  rw [heap_cut hw hl hh hs]; unfold heapI; rw [if_pos hm]
theorem heap_f {o : List Int} {ms : List Bool} {w : List Int} (hw : IsW ms.length w) (hl : w.length = o.length) {h : Nat} (hh : h < ms.length) {s : Int} (hs : s = (startI w h : Int)) (hm : ms.getD (Int.toNat (h : Int)) false = false) :
    cutL o (some s) (some (s + (w.count (h : Int) : Int))) = heapI o ms w h := by
  rw [Int.toNat_natCast] at hm
  rw [heap_cut hw hl hh hs]; unfold heapI; rw [if_neg (by rw [hm]; exact Bool.false_ne_true)]
end Rc
namespace Rc
theorem heap_cut2 {m : Nat} {o left : List Int} {w : List Int} (hw : IsW m w) (hl : w.length = o.length) {h : Nat} (hh : h < m) {s : Int} (hs : ((w.count (h : Int) : Nat) : Int) = s) (hleft : left = o.drop (startI w h)) :
    cutL left none (some s) = (o.drop (startI w h)).take (w.count (h : Int)) ∧ cutL left (some s) none = o.drop (startI w (h + 1)) := by
  have hr := count_room hw hh
  subst hleft
  subst hs
  rw [cut_lo (by omega) (by rw [List.length_drop]; omega), cut_hi (by omega) (by rw [List.length_drop]; omega), Int.toNat_natCast, List.drop_drop]
  exact ⟨rfl, by rfl⟩
theorem heap_t2 {o x : List Int} {ms : List Bool} {w : List Int} {h : Nat} (hx : x = (o.drop (startI w h)).take (w.count (h : Int))) (hm : ms.getD (Int.toNat (h : Int)) false = true) : x.reverse = heapI o ms w h := by
  unfold heapI
  rw [Int.toNat_natCast] at hm
  rw [if_pos hm, hx]
theorem heap_f2 {o x : List Int} {ms : List Bool} {w : List Int} {h : Nat} (hx : x = (o.drop (startI w h)).take (w.count (h : Int))) (hm : ms.getD (Int.toNat (h : Int)) false = false) : x = heapI o ms w h := by
  unfold heapI
  rw [Int.toNat_natCast] at hm
  rw [if_neg (by rw [hm]; simp), hx]
theorem erase_drop (x : List Int) : x.eraseIdx (Int.toNat 0) = x.drop 1 := by cases x <;> rfl
end Rc
namespace Rc
/-! one heap of two turned -/
def cutW (o : List Int) (cut : Int) : List Int := o.map fun c => if cut ≤ c then 1 else 0
def leadsB (a b : Bool) (o : List Int) (cut : Int) : Bool := decide (0 ≤ cut) && decide (cut ≤ (o.length : Int)) && decide (riffleI (upto o.length) [a, b] (cutW o cut) = o)
theorem cutW_isW (o : List Int) (cut : Int) : IsW 2 (cutW o cut) := fun x hx => by
  obtain ⟨c, _, rfl⟩ := List.mem_map.mp hx
  split <;> omega
@[simp] theorem cutW_length (o : List Int) (cut : Int) : (cutW o cut).length = o.length := by simp [cutW]
theorem cutW_next {o : List Int} {cut : Int} {i : Nat} {y : Int} (e : o[i]? = some y) : cutW (o.take i) cut ++ [if cut ≤ y then 1 else 0] = cutW (o.take (i + 1)) cut := by
  rw [take_nxt e, cutW, cutW, List.map_append]; rfl
theorem isW_take {m : Nat} {o : List Int} {cut : Int} (i : Nat) : IsW 2 (cutW (o.take i) cut) := cutW_isW _ _
def ones (o : List Int) (cut : Int) (j : Nat) : Nat := ((cutW o cut).take j).count 1
def zers (o : List Int) (cut : Int) (j : Nat) : Nat := ((cutW o cut).take j).count 0
theorem cutW_getD {o : List Int} {cut : Int} {j : Nat} (h : j < o.length) : (cutW o cut)[j]? = some (if cut ≤ o.getD j 0 then 1 else 0) := by
  rw [cutW, List.getElem?_map, getElem?_getD 0 h]; rfl
theorem ones_succ {o : List Int} {cut : Int} {j : Nat} (h : j < o.length) : ones o cut (j + 1) = ones o cut j + if cut ≤ o.getD j 0 then 1 else 0 := by
  unfold ones
  rw [take_nxt (cutW_getD h), List.count_append]
  split <;> rfl
theorem zers_succ {o : List Int} {cut : Int} {j : Nat} (h : j < o.length) : zers o cut (j + 1) = zers o cut j + if cut ≤ o.getD j 0 then 0 else 1 := by
  unfold zers
  rw [take_nxt (cutW_getD h), List.count_append]
  split <;> rfl
theorem ones_zers {o : List Int} {cut : Int} : ∀ {j : Nat}, j ≤ o.length → ones o cut j + zers o cut j = j
  | 0, _ => rfl
  | j + 1, h => by
    rw [ones_succ (by omega), zers_succ (by omega)]
    have := ones_zers (o := o) (cut := cut) (j := j) (by omega)
    split <;> omega
theorem ones_mono {o : List Int} {cut : Int} {i j : Nat} (h : i ≤ j) (hj : j ≤ o.length) : ones o cut i ≤ ones o cut j := by
  induction j with
  | zero => rw [show i = 0 by omega]; exact Nat.le_refl _
  | succ j ih =>
    by_cases e : i = j + 1
    · subst e; exact Nat.le_refl _
    · have := ih (by omega) (by omega)
      rw [ones_succ (by omega)]; omega
theorem zers_mono {o : List Int} {cut : Int} {i j : Nat} (h : i ≤ j) (hj : j ≤ o.length) : zers o cut i ≤ zers o cut j := by
  induction j with
  | zero => rw [show i = 0 by omega]; exact Nat.le_refl _
  | succ j ih =>
    by_cases e : i = j + 1
    · subst e; exact Nat.le_refl _
    · have := ih (by omega) (by omega)
      rw [zers_succ (by omega)]; omega
theorem riff_first {ms : List Bool} {w : List Int} {n : Nat} (hw : IsW ms.length w) (hl : w.length = n) : riffleI (upto n) ms w = numI ms w := by
  unfold riffleI laidI
  conv => rhs; rw [← List.map_id (numI ms w)]
  apply List.map_congr_left
  intro p hp
  have := (isOrd_numI ms hw).mem.mp hp
  rw [numI_length] at this
  have hlt : p.toNat < n := by omega
  rw [List.getD_eq_getElem?_getD, upto_getElem? hlt]
  simp; omega
def vals (a b : Bool) (o : List Int) (cut : Int) (j : Nat) : Int :=
  if cut ≤ o.getD j 0 then (if b = true then (o.length : Int) - 1 - ones o cut j else (zers o cut o.length : Int) + ones o cut j)
  else (if a = true then (zers o cut o.length : Int) - 1 - zers o cut j else zers o cut j)
theorem num_vals {a b : Bool} {o : List Int} {cut : Int} {j : Nat} (h : j < o.length) : numAt [a, b] (cutW o cut) j = vals a b o cut j := by
  unfold numAt cntI vals
  rw [getD_of (cutW_getD h)]
  have hall : ones o cut o.length + zers o cut o.length = o.length := ones_zers (Nat.le_refl _)
  have e1 : (cutW o cut).count 1 = ones o cut o.length := by unfold ones; rw [List.take_of_length_le (by simp)]
  have e0 : (cutW o cut).count 0 = zers o cut o.length := by unfold zers; rw [List.take_of_length_le (by simp)]
  split
  · unfold topI
    show (if ([a, b].getD 1 false) = true then ((startI (cutW o cut) 1 : Nat) : Int) + ((cutW o cut).count 1 : Nat) - 1 - (ones o cut j : Nat) else ((startI (cutW o cut) 1 : Nat) : Int) + (ones o cut j : Nat)) = _
    rw [show startI (cutW o cut) 1 = 0 + (cutW o cut).count 0 from rfl, e0, e1]
    cases b
    · rw [if_neg (by simp), if_neg (by simp)]; omega
    · rw [if_pos (show [a, true].getD 1 false = true from rfl), if_pos rfl]; omega
  · unfold topI
    show (if ([a, b].getD 0 false) = true then ((startI (cutW o cut) 0 : Nat) : Int) + ((cutW o cut).count 0 : Nat) - 1 - (zers o cut j : Nat) else ((startI (cutW o cut) 0 : Nat) : Int) + (zers o cut j : Nat)) = _
    rw [show startI (cutW o cut) 0 = 0 from rfl, e0]
    cases a
    · rw [if_neg (by simp), if_neg (by simp)]; omega
    · rw [if_pos (show [true, b].getD 0 false = true from rfl), if_pos rfl]; omega
theorem leads_iff {a b : Bool} {o : List Int} {cut : Int} : leadsB a b o cut = true ↔ 0 ≤ cut ∧ cut ≤ o.length ∧ ∀ j, j < o.length → o.getD j 0 = vals a b o cut j := by
  unfold leadsB
  rw [Bool.and_eq_true, Bool.and_eq_true, decide_eq_true_eq, decide_eq_true_eq, decide_eq_true_eq, riff_first (ms := [a, b]) (cutW_isW o cut) (by simp)]
  constructor
  · rintro ⟨⟨h0, h1⟩, h2⟩
    refine ⟨h0, h1, fun j hj => ?_⟩
    have := congrArg (fun l => l.getD j 0) h2
    simp only [numI, cutW_length] at this
    rw [← this, ← num_vals hj, List.getD_eq_getElem?_getD]
    simp [hj]
  · rintro ⟨h0, h1, h2⟩
    refine ⟨⟨h0, h1⟩, ?_⟩
    apply List.ext_getElem
    · simp
    · intro j g1 g2
      have := h2 j g2
      rw [List.getD_eq_getElem?_getD, List.getElem?_eq_getElem g2, Option.getD_some] at this
      simp only [numI, List.getElem_map, List.getElem_range]
      rw [num_vals g2, this]
theorem leads_false {a b : Bool} {o : List Int} {cut : Int} (h : ¬ (0 ≤ cut ∧ cut ≤ o.length ∧ ∀ j, j < o.length → o.getD j 0 = vals a b o cut j)) : leadsB a b o cut = false := by
  cases e : leadsB a b o cut
  · rfl
  · exact absurd (leads_iff.mp e) h
/-! the second heap turned: low and high -/
def lh (o : List Int) : Nat → Int × Int
  | 0 => (0, (o.length : Int) - 1)
  | j + 1 => if o.getD j 0 = (lh o j).1 then ((lh o j).1 + 1, (lh o j).2) else if o.getD j 0 = (lh o j).2 then ((lh o j).1, (lh o j).2 - 1) else lh o j
def okAt (o : List Int) (j : Nat) : Prop := o.getD j 0 = (lh o j).1 ∨ o.getD j 0 = (lh o j).2
def okTo (o : List Int) (j : Nat) : Prop := ∀ i, i < j → okAt o i
theorem lh_low {o : List Int} {i : Nat} {y l h : Int} (e : o[i]? = some y) (hl : lh o i = (l, h)) (hy : y = l) : lh o (i + 1) = (l + 1, h) := by
  rw [lh, getD_of e, hl, if_pos hy]
theorem lh_high {o : List Int} {i : Nat} {y l h : Int} (e : o[i]? = some y) (hl : lh o i = (l, h)) (hy : ¬ y = l) (hy2 : y = h) : lh o (i + 1) = (l, h - 1) := by
  rw [lh, getD_of e, hl, if_neg hy, if_pos hy2]
theorem okTo_zero (o : List Int) : okTo o 0 := fun _ h => by omega
theorem okTo_next {o : List Int} {i : Nat} (h : okTo o i) (hi : okAt o i) : okTo o (i + 1) := fun j hj => by
  by_cases e : j = i
  · subst e; exact hi
  · exact h j (by omega)
theorem okAt_of {o : List Int} {i : Nat} {y l h : Int} (e : o[i]? = some y) (hl : lh o i = (l, h)) (hy : y = l ∨ y = h) : okAt o i := by
  unfold okAt; rw [getD_of e, hl]; exact hy
theorem not_okAt {o : List Int} {i : Nat} {y l h : Int} (e : o[i]? = some y) (hl : lh o i = (l, h)) (h1 : ¬ y = l) (h2 : ¬ y = h) : ¬ okAt o i := by
  unfold okAt; rw [getD_of e, hl]; exact fun z => z.elim h1 h2
theorem lh_sum {o : List Int} : ∀ {j : Nat}, okTo o j → (lh o j).1 + ((o.length : Int) - 1 - (lh o j).2) = j ∧ 0 ≤ (lh o j).1 ∧ (lh o j).2 ≤ (o.length : Int) - 1
  | 0, _ => by simp only [lh]; omega
  | j + 1, h => by
    have ih := lh_sum (j := j) (fun i hi => h i (by omega))
    have := h j (by omega)
    unfold okAt at this
    rw [lh]
    split
    · simp only []; omega
    · rw [if_pos (by omega)]; simp only []; omega
theorem lh_mono {o : List Int} (i : Nat) : ∀ d, (lh o i).1 ≤ (lh o (i + d)).1 ∧ (lh o (i + d)).2 ≤ (lh o i).2
  | 0 => ⟨Int.le_refl _, Int.le_refl _⟩
  | d + 1 => by
    have ih := lh_mono (o := o) i d
    rw [show i + (d + 1) = (i + d) + 1 by omega, lh]
    split
    · simp only []; omega
    · split
      · simp only []; omega
      · exact ih
/-- what lies among the first j -/
theorem lh_taken {o : List Int} : ∀ {j : Nat}, okTo o j → j ≤ o.length → ∀ x, x ∈ o.take j ↔ (0 ≤ x ∧ x < (lh o j).1) ∨ ((lh o j).2 < x ∧ x ≤ (o.length : Int) - 1)
  | 0, _, _ => by intro x; simp only [lh, List.take_zero, List.not_mem_nil, false_iff]; omega
  | j + 1, h, hj => by
    intro x
    have hj' : okTo o j := fun i hi => h i (by omega)
    have ih := lh_taken hj' (by omega) x
    have hs := lh_sum hj'
    have := h j (by omega)
    unfold okAt at this
    rw [take_nxt (getElem?_getD 0 (show j < o.length by omega)), List.mem_append, List.mem_singleton, ih, lh]
    split
    · simp only []; omega
    · rw [if_pos (by omega)]; simp only []; omega
theorem mem_drop_iff {o : List Int} (hn : o.Nodup) (j : Nat) {x : Int} : x ∈ o.drop j ↔ x ∈ o ∧ x ∉ o.take j := by
  have e : o.take j ++ o.drop j = o := List.take_append_drop j o
  have hd : ∀ y ∈ o.take j, ∀ z ∈ o.drop j, y ≠ z := by
    have := hn; rw [← e] at this; exact (List.nodup_append.mp this).2.2
  constructor
  · intro h
    exact ⟨List.mem_of_mem_drop h, fun h2 => hd x h2 x h rfl⟩
  · rintro ⟨h1, h2⟩
    rw [← e] at h1
    exact (List.mem_append.mp h1).resolve_left h2
theorem lh_left {o : List Int} (ho : IsOrd o) {j : Nat} (h : okTo o j) (hj : j < o.length) (x : Int) : x ∈ o.drop j ↔ (lh o j).1 ≤ x ∧ x ≤ (lh o j).2 := by
  have hs := lh_sum h
  rw [mem_drop_iff ho.nodup, lh_taken h (by omega), ho.mem]
  omega
theorem lh_min {o : List Int} (ho : IsOrd o) {j : Nat} (h : okTo o j) (hj : j < o.length) {m : Int} (h1 : m ∈ o.drop j) (h2 : ∀ x ∈ o.drop j, m ≤ x) : m = (lh o j).1 := by
  have hs := lh_sum h
  have a := (lh_left ho h hj m).mp h1
  have b := h2 _ ((lh_left ho h hj _).mpr ⟨Int.le_refl _, by omega⟩)
  omega
theorem lh_max {o : List Int} (ho : IsOrd o) {j : Nat} (h : okTo o j) (hj : j < o.length) {m : Int} (h1 : m ∈ o.drop j) (h2 : ∀ x ∈ o.drop j, x ≤ m) : m = (lh o j).2 := by
  have hs := lh_sum h
  have a := (lh_left ho h hj m).mp h1
  have b := h2 _ ((lh_left ho h hj _).mpr ⟨by omega, Int.le_refl _⟩)
  omega
def By2 (o : List Int) (b : Bool) (k : Int) : Prop := (b = true ∧ okTo o o.length ∧ k = o.getLastD 0) ∨ (b = false ∧ ∃ j, j < o.length ∧ okTo o j ∧ ¬ okAt o j ∧ k = (j : Int) + 1)
theorem last_getD {o : List Int} : o.getLastD 0 = o.getD (o.length - 1) 0 := by
  rw [List.getLastD_eq_getLast?, List.getLast?_eq_getElem?, List.getD_eq_getElem?_getD]
/-- a heap that leads there goes as low and high go -/
theorem leads_lh {o : List Int} {cut : Int} (h : ∀ j, j < o.length → o.getD j 0 = vals false true o cut j) : ∀ {i : Nat}, i < o.length → lh o i = ((zers o cut i : Int), (o.length : Int) - 1 - ones o cut i)
  | 0, _ => by simp [lh, zers, ones]
  | i + 1, hi => by
    have ih := leads_lh h (i := i) (by omega)
    have hv := h i (by omega)
    have hs := ones_zers (o := o) (cut := cut) (j := i) (by omega)
    rw [lh, ih]
    rw [zers_succ (by omega), ones_succ (by omega)]
    unfold vals at hv
    by_cases hc : cut ≤ o.getD i 0
    · rw [if_pos hc, if_pos rfl] at hv
      rw [if_neg (by simp only []; omega), if_pos (by simp only []; omega), if_pos hc, if_pos hc]
      refine Prod.ext ?_ ?_ <;> simp only [] <;> omega
    · rw [if_neg hc, if_neg (by simp)] at hv
      rw [if_pos (by simp only []; omega), if_neg hc, if_neg hc]
      refine Prod.ext ?_ ?_ <;> simp only [] <;> omega
theorem two_none {o : List Int} {j : Nat} (hj : j < o.length) (h : ¬ okAt o j) (cut : Int) : leadsB false true o cut = false := by
  refine leads_false fun ⟨_, _, hv⟩ => h ?_
  have e := leads_lh hv hj
  have hv := hv j hj
  unfold okAt
  rw [e]
  unfold vals at hv
  by_cases hc : cut ≤ o.getD j 0
  · rw [if_pos hc, if_pos rfl] at hv; exact .inr hv
  · rw [if_neg hc, if_neg (by simp)] at hv; exact .inl hv
theorem two_leads {o : List Int} (ho : IsOrd o) (h1 : 1 ≤ o.length) (h : okTo o o.length) : leadsB false true o (o.getLastD 0) = true := by
  rw [last_getD]
  have hm : o.getD (o.length - 1) 0 ∈ o := by
    rw [List.getD_eq_getElem?_getD, List.getElem?_eq_getElem (show o.length - 1 < o.length by omega)]; exact List.getElem_mem _
  have hb := ho.mem.mp hm
  have hlast : (lh o (o.length - 1)).1 = o.getD (o.length - 1) 0 ∧ (lh o (o.length - 1)).2 = o.getD (o.length - 1) 0 := by
    have hs := lh_sum (o := o) (j := o.length - 1) (fun i hi => h i (by omega))
    have := h (o.length - 1) (by omega)
    unfold okAt at this
    omega
  have key : ∀ j, j < o.length → lh o j = ((zers o (o.getD (o.length - 1) 0) j : Int), (o.length : Int) - 1 - ones o (o.getD (o.length - 1) 0) j) := by
    intro j
    induction j with
    | zero => intro _; simp [lh, zers, ones]
    | succ j ih =>
      intro hj
      have ih := ih (by omega)
      have ok := h j (by omega)
      have mono := lh_mono (o := o) (j + 1) (o.length - 1 - (j + 1))
      rw [show j + 1 + (o.length - 1 - (j + 1)) = o.length - 1 by omega, hlast.1, hlast.2] at mono
      unfold okAt at ok
      rw [zers_succ (by omega), ones_succ (by omega)]
      rw [lh] at mono ⊢
      by_cases hc : o.getD j 0 = (lh o j).1
      · rw [if_pos hc] at mono ⊢
        simp only [] at mono
        rw [if_neg (by omega), if_neg (by omega), ih]
        refine Prod.ext ?_ ?_ <;> simp only [] <;> omega
      · rw [if_neg hc, if_pos (by omega)] at mono ⊢
        simp only [] at mono
        rw [if_pos (by omega), if_pos (by omega), ih]
        refine Prod.ext ?_ ?_ <;> simp only [] <;> omega
  refine leads_iff.mpr ⟨by omega, by omega, fun j hj => ?_⟩
  have e := key j hj
  have ok := h j hj
  unfold okAt at ok
  unfold vals
  by_cases hl : j = o.length - 1
  · subst hl
    rw [if_pos (Int.le_refl _), if_pos rfl]
    have : (lh o (o.length - 1)).2 = (o.length : Int) - 1 - ones o (o.getD (o.length - 1) 0) (o.length - 1) := by rw [e]
    omega
  · have mono := lh_mono (o := o) (j + 1) (o.length - 1 - (j + 1))
    rw [show j + 1 + (o.length - 1 - (j + 1)) = o.length - 1 by omega, hlast.1, hlast.2, lh] at mono
    by_cases hc : o.getD j 0 = (lh o j).1
    · rw [if_pos hc] at mono
      simp only [] at mono
      rw [if_neg (by omega), if_neg (by simp), hc, e]
    · rw [if_neg hc, if_pos (by omega)] at mono
      simp only [] at mono
      rw [if_pos (by omega), if_pos rfl]
      have : (lh o j).2 = (o.length : Int) - 1 - ones o (o.getD (o.length - 1) 0) j := by rw [e]
      omega
theorem two_not {o : List Int} (ho : IsOrd o) (h1 : 1 ≤ o.length) : leadsB false true o (o.getLastD 0 - 1) = false := by
  rw [last_getD]
  refine leads_false fun ⟨h0, _, hv⟩ => ?_
  have hm : o.getD (o.length - 1) 0 ∈ o := by
    rw [List.getD_eq_getElem?_getD, List.getElem?_eq_getElem (show o.length - 1 < o.length by omega)]; exact List.getElem_mem _
  have hb := ho.mem.mp hm
  have hc : o.getD (o.length - 1) 0 - 1 ∈ o := ho.mem.mpr ⟨h0, by omega⟩
  obtain ⟨i, hi, he⟩ := List.mem_iff_getElem.mp hc
  have hi2 : o.getD i 0 = o.getD (o.length - 1) 0 - 1 := by rw [List.getD_eq_getElem?_getD, List.getElem?_eq_getElem hi]; exact he
  have v1 := hv i hi
  have v2 := hv (o.length - 1) (by omega)
  unfold vals at v1 v2
  rw [if_pos (by omega), if_pos rfl] at v1
  rw [if_pos (by omega), if_pos rfl] at v2
  have := ones_mono (o := o) (cut := o.getD (o.length - 1) 0 - 1) (show i ≤ o.length - 1 by omega) (by omega)
  omega
end Rc
namespace Rc
theorem cut_drop {o : List Int} {i : Nat} (h : i ≤ o.length) : cutL o (some (i : Int)) none = o.drop i := by
  rw [cut_hi (by omega) (by omega), Int.toNat_natCast]
theorem min_ok {o : List Int} {i : Nat} {m : Int} (ho : IsOrd o) (hok : okTo o i) (hi : i < o.length) (he : o.getD (Int.toNat (i : Int)) 0 = m) (h1 : m ∈ cutL o (some (i : Int)) none) (h2 : ∀ x ∈ cutL o (some (i : Int)) none, m ≤ x) : okAt o i := by
  rw [cut_drop (by omega)] at h1 h2
  rw [Int.toNat_natCast] at he
  exact .inl (he.trans (lh_min ho hok hi h1 h2))
theorem max_ok {o : List Int} {i : Nat} {m : Int} (ho : IsOrd o) (hok : okTo o i) (hi : i < o.length) (he : o.getD (Int.toNat (i : Int)) 0 = m) (h1 : m ∈ cutL o (some (i : Int)) none) (h2 : ∀ x ∈ cutL o (some (i : Int)) none, x ≤ m) : okAt o i := by
  rw [cut_drop (by omega)] at h1 h2
  rw [Int.toNat_natCast] at he
  exact .inr (he.trans (lh_max ho hok hi h1 h2))
theorem not_ok2 {o : List Int} {i : Nat} {m m' : Int} (ho : IsOrd o) (hok : okTo o i) (hi : i < o.length) (h2 : ∀ x ∈ cutL o (some (i : Int)) none, m ≤ x) (h1 : m ∈ cutL o (some (i : Int)) none) (hn : ¬ o.getD (Int.toNat (i : Int)) 0 = m)
    (h2' : ∀ x ∈ cutL o (some (i : Int)) none, x ≤ m') (h1' : m' ∈ cutL o (some (i : Int)) none) (hn' : ¬ o.getD (Int.toNat (i : Int)) 0 = m') : ¬ okAt o i := by
  rw [cut_drop (by omega)] at h1 h2 h1' h2'
  rw [Int.toNat_natCast] at hn hn'
  rw [lh_min ho hok hi h1 h2] at hn
  rw [lh_max ho hok hi h1' h2'] at hn'
  exact fun z => z.elim hn hn'
theorem isOrd_swap {o : List Int} {a b : Int} (ho : IsOrd o) (ha : 0 ≤ a ∧ a < o.length) (hb : 0 ≤ b ∧ b < o.length) : IsOrd ((o.set a.toNat (o.getD b.toNat 0)).set b.toNat (o.getD a.toNat 0)) := by
  have la : a.toNat < o.length := by omega
  have lb : b.toNat < o.length := by omega
  unfold IsOrd
  rw [List.length_set, List.length_set, List.getD_eq_getElem?_getD, List.getD_eq_getElem?_getD, List.getElem?_eq_getElem la, List.getElem?_eq_getElem lb]
  exact (List.set_set_perm la lb).trans ho
end Rc
namespace Rc
theorem filter_none {n : Nat} {f : Nat → Bool} {g : Nat → Int} (h : ∀ i, f i = false) : (List.map g (List.filter f (List.range n))).length = 0 := by
  rw [List.length_map, List.length_eq_zero_iff, List.filter_eq_nil_iff]
  intro i _; rw [h i]; simp
end Rc
namespace Rc
open PySem PySem.Spec PyProof.Rows L2
theorem by2_yes {o : List Int} {b : Bool} {k : Int} {v : V} (hby : By2 o b k) (hbr : (v = V.non ∧ okTo o o.length) ∨ (∃ j, j < o.length ∧ okTo o j ∧ ¬ okAt o j ∧ v = V.int ((j : Int) + 1))) (hn : v = V.non) : b = true ∧ okTo o o.length ∧ k = o.getLastD 0 := by
  rcases hby with h | ⟨_, j, h1, _, h3, _⟩
  · exact h
  · rcases hbr with ⟨_, h⟩ | ⟨j', _, _, _, h⟩
    · exact absurd (h j h1) h3
    · rw [hn] at h; cases h
theorem by2_no {o : List Int} {b : Bool} {k : Int} {v : V} (hby : By2 o b k) (hbr : (v = V.non ∧ okTo o o.length) ∨ (∃ j, j < o.length ∧ okTo o j ∧ ¬ okAt o j ∧ v = V.int ((j : Int) + 1))) (hn : ¬ v = V.non) : ∃ j, j < o.length ∧ ¬ okAt o j ∧ b = false ∧ k = (j : Int) + 1 ∧ v = V.int ((j : Int) + 1) := by
  rcases hbr with ⟨h, _⟩ | ⟨j, h1, h2, h3, h4⟩
  · exact absurd h hn
  · rcases hby with ⟨_, h, _⟩ | ⟨hb, j', g1, g2, g3, g4⟩
    · exact absurd (h j h1) h3
    · have e : j' = j := by
        rcases Nat.lt_trichotomy j' j with h | h | h
        · exact absurd (h2 j' h) g3
        · exact h
        · exact absurd (g2 j h) h3
      subst e
      exact ⟨j', h1, h3, hb, g4, h4⟩
theorem by2_sca {o : List Int} {b : Bool} {k : Int} {v : V} (h : ∃ j, j < o.length ∧ ¬ okAt o j ∧ b = false ∧ k = (j : Int) + 1 ∧ v = V.int ((j : Int) + 1)) : sca v = true := by
  obtain ⟨j, _, _, _, _, h⟩ := h
  subst h; rfl
end Rc
namespace Rc
def turnedI (marks others : List Bool) (heap other : Int) : Int := if marks.getD heap.toNat false = true then (others.length : Int) - 1 - other else other
def joinedRow (ms os : List Bool) (h n : Nat) : List Bool := (List.range n).map fun g : Nat => ms.getD h false != os.getD (turnedI ms os h g).toNat false
def joinedTo (ms os : List Bool) (n : Nat) : List Bool := (List.range n).flatMap fun h => joinedRow ms os h os.length
def joinedM (ms os : List Bool) : List Bool := joinedTo ms os ms.length
theorem turnedI_bd (ms os : List Bool) (h g : Int) (h0 : 0 ≤ g) (h1 : g < os.length) : 0 ≤ turnedI ms os h g ∧ turnedI ms os h g < os.length := by
  unfold turnedI; split <;> omega
theorem joinedRow_next (ms os : List Bool) (l : List Bool) (h n : Nat) : (l ++ joinedRow ms os h n) ++ [ms.getD h false != os.getD (turnedI ms os h n).toNat false] = l ++ joinedRow ms os h (n + 1) := by
  unfold joinedRow; rw [List.range_succ, List.map_append, List.append_assoc]; rfl
theorem joinedTo_next (ms os : List Bool) (n : Nat) : joinedTo ms os n ++ joinedRow ms os n os.length = joinedTo ms os (n + 1) := by
  unfold joinedTo; rw [List.range_succ, List.flatMap_append]; simp
theorem joinedTo_length (ms os : List Bool) (n : Nat) : (joinedTo ms os n).length = n * os.length := by
  induction n with
  | zero => simp [joinedTo]
  | succ n ih => rw [← joinedTo_next, List.length_append, ih]; simp [joinedRow, Nat.succ_mul]
theorem joined_size {ms os : List Bool} {h n : Nat} (hh : h < ms.length) (hn : n < os.length) (hm : ms.length * os.length ≤ 400) : (joinedTo ms os h ++ joinedRow ms os h n).length < 100000 := by
  rw [List.length_append, joinedTo_length]
  have : (joinedRow ms os h n).length = n := by simp [joinedRow]
  have h2 : (h + 1) * os.length ≤ ms.length * os.length := Nat.mul_le_mul_right _ hh
  rw [Nat.succ_mul] at h2
  omega
def dueRow (m : Bool) (os : List Bool) : List Bool := if m = true then os.reverse else os
def dueTo (ms os : List Bool) (i : Nat) : List Bool := (ms.take i).flatMap fun m => (dueRow m os).map fun o => m != o
theorem take_nx {α : Type} {ns : List α} {i : Nat} {y : α} (h : ns[i]? = some y) : ns.take (i + 1) = ns.take i ++ [y] := by rw [List.take_add_one, h]; rfl
theorem dueTo_next {ms os row : List Bool} {i : Nat} {m : Bool} (hy : ms[i]? = some m) (hj : row = dueRow m os) : dueTo ms os i ++ (row.take row.length).map (fun o => m != o) = dueTo ms os (i + 1) := by
  unfold dueTo; rw [take_nx hy, List.flatMap_append, List.take_length, hj]; simp
theorem dueRow_length (m : Bool) (os : List Bool) : (dueRow m os).length = os.length := by unfold dueRow; split <;> simp
theorem dueTo_length (ms os : List Bool) (i : Nat) (hi : i ≤ ms.length) : (dueTo ms os i).length = i * os.length := by
  induction i with
  | zero => simp [dueTo]
  | succ i ih =>
    have hy : ms[i]? = some ms[i] := List.getElem?_eq_getElem (by omega)
    rw [← dueTo_next hy rfl, List.length_append, ih (by omega), List.length_map, List.take_length, dueRow_length, Nat.succ_mul]
theorem due_size {ms os row : List Bool} {h n : Nat} {m : Bool} (hh : h < ms.length) (hn : n < row.length) (hm : ms.length * os.length ≤ 400) (hj : row = dueRow m os) : (dueTo ms os h).length + (row.take n).length < 100000 := by
  rw [dueTo_length _ _ _ (by omega), List.length_take]
  rw [hj, dueRow_length] at hn ⊢
  have h2 : (h + 1) * os.length ≤ ms.length * os.length := Nat.mul_le_mul_right _ hh
  rw [Nat.succ_mul] at h2
  omega
theorem dueRow_eq (ms os : List Bool) (h : Nat) : joinedRow ms os h os.length = (dueRow (ms.getD h false) os).map fun o => ms.getD h false != o := by
  unfold dueRow joinedRow turnedI
  rw [Int.toNat_natCast]
  generalize ms.getD h false = m
  split
  · rename_i hm
    apply List.ext_getElem
    · simp
    · intro i h1 h2
      have hi : i < os.length := by simpa using h1
      simp only [List.getElem_map, List.getElem_range, List.getElem_reverse]
      have : ((os.length : Int) - 1 - (i : Int)).toNat = os.length - 1 - i := by omega
      rw [this, List.getD_eq_getElem?_getD, List.getElem?_eq_getElem (by omega)]; rfl
  · apply List.ext_getElem
    · simp
    · intro i h1 h2
      have hi : i < os.length := by simpa using h1
      simp only [List.getElem_map, List.getElem_range]
      rw [Int.toNat_natCast, List.getD_eq_getElem?_getD, List.getElem?_eq_getElem (by omega)]; rfl
theorem dueTo_to (ms os : List Bool) (i : Nat) (hi : i ≤ ms.length) : dueTo ms os i = joinedTo ms os i := by
  induction i with
  | zero => rfl
  | succ i ih =>
    have hy : ms[i]? = some ms[i] := List.getElem?_eq_getElem (by omega)
    rw [← dueTo_next hy rfl, ih (by omega), ← joinedTo_next, List.take_length, dueRow_eq]
    have : ms.getD i false = ms[i] := by rw [List.getD_eq_getElem?_getD, hy]; rfl
    rw [this]
theorem dueTo_all (ms os : List Bool) : dueTo ms os ms.length = joinedM ms os := dueTo_to _ _ _ (Nat.le_refl _)
theorem prod20 {a b : Nat} (ha : a ≤ 20) (hb : b ≤ 20) : a * b ≤ 400 := Nat.mul_le_mul ha hb
theorem joinedM_length (ms os : List Bool) : (joinedM ms os).length = ms.length * os.length := joinedTo_length _ _ _
end Rc
namespace Rc
/-! two riffles as one -/
def ltW (ms : List Bool) (w : List Int) (i j : Nat) : Prop := w.getD i 0 < w.getD j 0 ∨ (w.getD i 0 = w.getD j 0 ∧ if ms.getD (w.getD i 0).toNat false = true then j < i else i < j)
theorem cnt_mono {w : List Int} {i j : Nat} (hij : i < j) (hj : j < w.length) (he : w.getD i 0 = w.getD j 0) : cntI w i < cntI w j := by
  unfold cntI
  rw [he]
  have hi : i < w.length := by omega
  have e1 : w.take (i + 1) = w.take i ++ [w.getD j 0] := by rw [take_nxt (getElem?_getD 0 hi), he]
  have h2 : ((w.take (i + 1)).count (w.getD j 0)) ≤ (w.take j).count (w.getD j 0) := by
    have : (w.take (i + 1)).Sublist (w.take j) := (List.take_prefix_take_left (show i + 1 ≤ j by omega)).sublist
    exact this.count_le _
  have e2 : List.count (w.getD j 0) [w.getD j 0] = 1 := by simp
  rw [e1, List.count_append, e2] at h2
  omega
theorem num_lt_of {m : Nat} {ms : List Bool} {w : List Int} (hw : IsW m w) {i j : Nat} (hi : i < w.length) (hj : j < w.length) (h : ltW ms w i j) : numAt ms w i < numAt ms w j := by
  have ei := getElem?_getD (0 : Int) hi
  have ej := getElem?_getD (0 : Int) hj
  have bi := hw.at ei
  have bj := hw.at ej
  have ci := cnt_lt ei
  have cj := cnt_lt ej
  have ti : (((w.getD i 0).toNat : Nat) : Int) = w.getD i 0 := by omega
  have tj : (((w.getD j 0).toNat : Nat) : Int) = w.getD j 0 := by omega
  unfold numAt
  rcases h with h | ⟨he, h⟩
  · have s := startI_lt (w := w) (show (w.getD i 0).toNat < (w.getD j 0).toNat by omega)
    rw [ti] at s
    unfold topI cntI
    rw [ti, tj]
    split <;> split <;> omega
  · unfold topI
    rw [← he]
    split at h
    · rename_i hm
      rw [if_pos hm, if_pos hm]
      have := cnt_mono h hi he.symm
      omega
    · rename_i hm
      rw [if_neg hm, if_neg hm]
      have := cnt_mono h hj he
      omega
theorem ltW_tri (ms : List Bool) (w : List Int) {i j : Nat} (h : i ≠ j) : ltW ms w i j ∨ ltW ms w j i := by
  unfold ltW
  rcases Int.lt_trichotomy (w.getD i 0) (w.getD j 0) with h1 | h1 | h1
  · exact .inl (.inl h1)
  · rw [h1]
    by_cases hm : ms.getD (w.getD j 0).toNat false = true
    · rw [if_pos hm, if_pos hm]
      rcases Nat.lt_or_gt_of_ne h with h2 | h2
      · exact .inr (.inr ⟨rfl, h2⟩)
      · exact .inl (.inr ⟨rfl, h2⟩)
    · rw [if_neg hm, if_neg hm]
      rcases Nat.lt_or_gt_of_ne h with h2 | h2
      · exact .inl (.inr ⟨rfl, h2⟩)
      · exact .inr (.inr ⟨rfl, h2⟩)
  · exact .inr (.inl h1)
theorem num_lt {m : Nat} {ms : List Bool} {w : List Int} (hw : IsW m w) {i j : Nat} (hi : i < w.length) (hj : j < w.length) : numAt ms w i < numAt ms w j ↔ ltW ms w i j := by
  refine ⟨fun h => ?_, num_lt_of hw hi hj⟩
  by_cases e : i = j
  · subst e; omega
  · rcases ltW_tri ms w e with h1 | h1
    · exact h1
    · have := num_lt_of hw hj hi h1; omega
/-- an order is told by its comparisons -/
theorem ord_rank {p : List Int} (h : IsOrd p) {j : Nat} (hj : j < p.length) : p.getD j 0 = (((List.range p.length).filter fun k => decide (p.getD k 0 < p.getD j 0)).length : Int) := by
  have hb := h.bd (getElem?_getD 0 hj)
  have e0 : ∀ t : Int, ((List.range p.length).filter fun k => decide (p.getD k 0 < t)).length = (p.filter fun x => decide (x < t)).length := by
    intro t
    have e : p = (List.range p.length).map fun k => p.getD k 0 := by
      apply List.ext_getElem
      · simp
      · intro i h1 h2
        simp [List.getD_eq_getElem?_getD, List.getElem?_eq_getElem h1]
    have e2 : (p.filter fun x => decide (x < t)).length = (((List.range p.length).map fun k => p.getD k 0).filter fun x => decide (x < t)).length := congrArg (fun l => (l.filter fun x => decide (x < t)).length) e
    rw [e2, List.filter_map, List.length_map]; rfl
  have e1 := e0 (p.getD j 0)
  rw [e1, (h.filter _).length_eq]
  have key : ∀ (n : Nat) (t : Int), 0 ≤ t → t ≤ n → (((upto n).filter fun x => decide (x < t)).length : Int) = t := by
    intro n
    induction n with
    | zero => intro t h0 h1; show ((([] : List Int).length : Nat) : Int) = t; simp; omega
    | succ n ih =>
      intro t h0 h1
      rw [upto_succ, List.filter_append, List.length_append]
      by_cases ht : t ≤ n
      · have := ih t h0 ht
        have e0 : List.filter (fun x => decide (x < t)) [(n : Int)] = [] := by simp; omega
        rw [e0]; simpa using this
      · have := ih n (by omega) (by omega)
        have e0 : List.filter (fun x => decide (x < t)) [(n : Int)] = [(n : Int)] := by simp; omega
        have e2 : (upto n).filter (fun x => decide (x < t)) = (upto n).filter (fun x => decide (x < (n : Int))) := by
          apply List.filter_congr
          intro x hx
          have := mem_upto.mp hx
          rw [decide_eq_decide]; omega
        rw [e0, e2]
        simp only [List.length_cons, List.length_nil]
        omega
  exact (key p.length _ hb.1 (by omega)).symm
theorem ord_ext {p q : List Int} (hp : IsOrd p) (hq : IsOrd q) (hl : p.length = q.length) (h : ∀ i j, i < p.length → j < p.length → (p.getD i 0 < p.getD j 0 ↔ q.getD i 0 < q.getD j 0)) : p = q := by
  apply List.ext_getElem hl
  intro j h1 h2
  have e1 := ord_rank hp h1
  have e2 := ord_rank hq h2
  have e : ((List.range p.length).filter fun k => decide (p.getD k 0 < p.getD j 0)).length = ((List.range q.length).filter fun k => decide (q.getD k 0 < q.getD j 0)).length := by
    rw [← hl]
    congr 1
    apply List.filter_congr
    intro k hk
    rw [decide_eq_decide]
    exact h k j (List.mem_range.mp hk) h1
  have e3 : p.getD j 0 = q.getD j 0 := by rw [e1, e2, e]
  rwa [List.getD_eq_getElem?_getD, List.getD_eq_getElem?_getD, List.getElem?_eq_getElem h1, List.getElem?_eq_getElem h2] at e3
/-- the word of both -/
def bothAt (ms : List Bool) (w : List Int) (os : List Bool) (more : List Int) (j : Nat) : Int :=
  w.getD (numAt os more j).toNat 0 * (os.length : Int) + turnedI ms os (w.getD (numAt os more j).toNat 0) (more.getD j 0)
def bothTo (ms : List Bool) (w : List Int) (os : List Bool) (more : List Int) (n : Nat) : List Int := (List.range n).map (bothAt ms w os more)
def bothW (ms : List Bool) (w : List Int) (os : List Bool) (more : List Int) : List Int := bothTo ms w os more more.length
theorem bothTo_next (ms : List Bool) (w : List Int) (os : List Bool) (more : List Int) (n : Nat) : bothTo ms w os more n ++ [bothAt ms w os more n] = bothTo ms w os more (n + 1) := by
  unfold bothTo; rw [List.range_succ, List.map_append]; rfl
@[simp] theorem bothW_length (ms : List Bool) (w : List Int) (os : List Bool) (more : List Int) : (bothW ms w os more).length = more.length := by simp [bothW, bothTo]
theorem bothW_getD {ms : List Bool} {w : List Int} {os : List Bool} {more : List Int} {j : Nat} (h : j < more.length) : (bothW ms w os more).getD j 0 = bothAt ms w os more j := by
  rw [List.getD_eq_getElem?_getD]; simp [bothW, bothTo, h]
theorem joinedM_getD {ms os : List Bool} {h g : Nat} (hh : h < ms.length) (hg : g < os.length) : (joinedM ms os).getD (h * os.length + g) false = (ms.getD h false != os.getD (turnedI ms os h g).toNat false) := by
  have key : ∀ n, h < n → (joinedTo ms os n).getD (h * os.length + g) false = (ms.getD h false != os.getD (turnedI ms os h g).toNat false) := by
    intro n
    induction n with
    | zero => intro hn; omega
    | succ n ih =>
      intro hn
      rw [← joinedTo_next, List.getD_eq_getElem?_getD]
      by_cases e : h = n
      · subst e
        rw [List.getElem?_append_right (by rw [joinedTo_length]; omega), joinedTo_length, show h * os.length + g - h * os.length = g by omega]
        simp [joinedRow, hg]
      · have hlt : h * os.length + g < (joinedTo ms os n).length := by
          rw [joinedTo_length]
          have : (h + 1) * os.length ≤ n * os.length := Nat.mul_le_mul_right _ (by omega)
          rw [Nat.add_mul] at this; omega
        rw [List.getElem?_append_left hlt, ← List.getD_eq_getElem?_getD]
        exact ih (by omega)
  exact key ms.length hh
theorem turned_turned {ms os : List Bool} {h g : Int} (hg : 0 ≤ g ∧ g < os.length) : turnedI ms os h (turnedI ms os h g) = g := by
  unfold turnedI
  split <;> omega
theorem mul_lt_iff {h h' t t' G : Int} (ht : 0 ≤ t ∧ t < G) (ht' : 0 ≤ t' ∧ t' < G) : h * G + t < h' * G + t' ↔ h < h' ∨ (h = h' ∧ t < t') := by
  constructor
  · intro e
    rcases Int.lt_trichotomy h h' with h1 | h1 | h1
    · exact .inl h1
    · subst h1; exact .inr ⟨rfl, by omega⟩
    · exfalso
      have : (h' + 1) * G ≤ h * G := Int.mul_le_mul_of_nonneg_right (by omega) (by omega)
      rw [Int.add_mul] at this; omega
  · rintro (h1 | ⟨h1, h2⟩)
    · have : (h + 1) * G ≤ h' * G := Int.mul_le_mul_of_nonneg_right (by omega) (by omega)
      rw [Int.add_mul] at this; omega
    · subst h1; omega
theorem mul_eq_iff {h h' t t' G : Int} (ht : 0 ≤ t ∧ t < G) (ht' : 0 ≤ t' ∧ t' < G) : h * G + t = h' * G + t' ↔ h = h' ∧ t = t' := by
  constructor
  · intro e
    rcases Int.lt_trichotomy h h' with h1 | h1 | h1
    · have := (mul_lt_iff ht ht').mpr (.inl h1); omega
    · subst h1; exact ⟨rfl, by omega⟩
    · have := (mul_lt_iff ht' ht).mpr (.inl h1); omega
  · rintro ⟨h1, h2⟩; rw [h1, h2]
theorem toNat_mul_add {a c : Int} {G : Nat} (ha : 0 ≤ a) (hc : 0 ≤ c) : (a * (G : Int) + c).toNat = a.toNat * G + c.toNat := by
  obtain ⟨x, rfl⟩ := Int.eq_ofNat_of_zero_le ha
  obtain ⟨y, rfl⟩ := Int.eq_ofNat_of_zero_le hc
  have : (x : Int) * (G : Int) + (y : Int) = ((x * G + y : Nat) : Int) := by push_cast; rfl
  rw [this]; rfl
section
variable {ms os : List Bool} {w more : List Int}
theorem both_bd (hw : IsW ms.length w) (hm : IsW os.length more) (hl : w.length = more.length) {j : Nat} (hj : j < more.length) :
    (numAt os more j).toNat < w.length ∧ (((numAt os more j).toNat : Nat) : Int) = numAt os more j ∧ 0 ≤ w.getD (numAt os more j).toNat 0 ∧ w.getD (numAt os more j).toNat 0 < ms.length ∧ 0 ≤ more.getD j 0 ∧ more.getD j 0 < os.length := by
  have b := numAt_bd (ms := os) hm hj
  have h1 : (numAt os more j).toNat < w.length := by omega
  have b1 := hw.at (getElem?_getD (0 : Int) h1)
  have b2 := hm.at (getElem?_getD (0 : Int) hj)
  exact ⟨h1, by omega, b1.1, b1.2, b2.1, b2.2⟩
theorem bothW_isW (hw : IsW ms.length w) (hm : IsW os.length more) (hl : w.length = more.length) : IsW (joinedM ms os).length (bothW ms w os more) := fun x hx => by
  obtain ⟨j, hj, rfl⟩ := List.mem_map.mp hx
  have b := both_bd hw hm hl (List.mem_range.mp hj)
  have t := turnedI_bd ms os (w.getD (numAt os more j).toNat 0) (more.getD j 0) b.2.2.2.2.1 b.2.2.2.2.2
  rw [joinedM_length]
  unfold bothAt
  have h1 : 0 ≤ w.getD (numAt os more j).toNat 0 * (os.length : Int) := Int.mul_nonneg b.2.2.1 (by omega)
  have h2 : (w.getD (numAt os more j).toNat 0 + 1) * (os.length : Int) ≤ (ms.length : Int) * os.length := Int.mul_le_mul_of_nonneg_right (by omega) (by omega)
  rw [Int.add_mul] at h2
  push_cast
  omega
theorem both_mark (hw : IsW ms.length w) (hm : IsW os.length more) (hl : w.length = more.length) {j : Nat} (hj : j < more.length) :
    (joinedM ms os).getD ((bothW ms w os more).getD j 0).toNat false = (ms.getD (w.getD (numAt os more j).toNat 0).toNat false != os.getD (more.getD j 0).toNat false) := by
  have b := both_bd hw hm hl hj
  have t := turnedI_bd ms os (w.getD (numAt os more j).toNat 0) (more.getD j 0) b.2.2.2.2.1 b.2.2.2.2.2
  rw [bothW_getD hj]
  unfold bothAt
  rw [toNat_mul_add b.2.2.1 t.1, joinedM_getD (by omega) (by omega)]
  congr 2
  rw [show (((w.getD (numAt os more j).toNat 0).toNat : Nat) : Int) = w.getD (numAt os more j).toNat 0 by omega, show (((turnedI ms os (w.getD (numAt os more j).toNat 0) (more.getD j 0)).toNat : Nat) : Int) = turnedI ms os (w.getD (numAt os more j).toNat 0) (more.getD j 0) by omega, turned_turned ⟨b.2.2.2.2.1, b.2.2.2.2.2⟩]
theorem both_lt (hw : IsW ms.length w) (hm : IsW os.length more) (hl : w.length = more.length) {i j : Nat} (hi : i < more.length) (hj : j < more.length) :
    ltW (joinedM ms os) (bothW ms w os more) i j ↔ ltW ms w (numAt os more i).toNat (numAt os more j).toNat := by
  have bi := both_bd hw hm hl hi
  have bj := both_bd hw hm hl hj
  have ti := turnedI_bd ms os (w.getD (numAt os more i).toNat 0) (more.getD i 0) bi.2.2.2.2.1 bi.2.2.2.2.2
  have tj := turnedI_bd ms os (w.getD (numAt os more j).toNat 0) (more.getD j 0) bj.2.2.2.2.1 bj.2.2.2.2.2
  have mk := both_mark hw hm hl hi
  have nlt := num_lt (ms := os) hm hi hj
  have ngt := num_lt (ms := os) hm hj hi
  unfold ltW at *
  rw [mk, bothW_getD hi, bothW_getD hj]
  unfold bothAt
  rw [mul_lt_iff ti tj, mul_eq_iff ti tj]
  generalize hA : w.getD (numAt os more i).toNat 0 = A at *
  generalize hB : w.getD (numAt os more j).toNat 0 = B at *
  by_cases hAB : A = B
  · subst hAB
    have e1 : (numAt os more i).toNat < (numAt os more j).toNat ↔ numAt os more i < numAt os more j := by omega
    have e2 : (numAt os more j).toNat < (numAt os more i).toNat ↔ numAt os more j < numAt os more i := by omega
    rw [e1, e2, nlt, ngt]
    unfold turnedI
    by_cases hms : ms.getD A.toNat false = true
    · rw [hms]
      simp only [if_true, if_pos]
      by_cases ht : more.getD i 0 = more.getD j 0
      · rw [ht]
        cases hos : os.getD (more.getD j 0).toNat false <;> simp <;> omega
      · have ht2 : ¬ more.getD j 0 = more.getD i 0 := fun z => ht z.symm
        constructor
        · rintro ((h | ⟨_, h⟩) | ⟨⟨_, h⟩, _⟩)
          · omega
          · exact .inr ⟨trivial, .inl (by omega)⟩
          · omega
        · rintro (h | ⟨_, h | ⟨h, _⟩⟩)
          · omega
          · exact .inl (.inr ⟨trivial, by omega⟩)
          · omega
    · have hms : ms.getD A.toNat false = false := by simpa using hms
      rw [hms]
      by_cases ht : more.getD i 0 = more.getD j 0
      · rw [ht]
        cases hos : os.getD (more.getD j 0).toNat false <;> simp <;> omega
      · have ht2 : ¬ more.getD j 0 = more.getD i 0 := fun z => ht z.symm
        simp [ht]
  · simp [hAB]
theorem riffle_joined {o : List Int} (hw : IsW ms.length w) (hm : IsW os.length more) (hl : w.length = more.length) (hlo : w.length = o.length) :
    riffleI o (joinedM ms os) (bothW ms w os more) = riffleI (riffleI o ms w) os more := by
  have hbw := bothW_isW hw hm hl
  unfold riffleI
  rw [laidI_assoc (ord_bd (isOrd_numI os hm) (by simp [hl]))]
  congr 1
  have hlen : (numI os more).length = (numI ms w).length := by simp [hl]
  refine ord_ext (isOrd_numI _ hbw) (isOrd_laidI (isOrd_numI ms hw) (isOrd_numI os hm) hlen.symm) (by simp [laidI]) fun i j hi hj => ?_
  have hi' : i < more.length := by simpa using hi
  have hj' : j < more.length := by simpa using hj
  have g1 : ∀ k, k < more.length → (numI (joinedM ms os) (bothW ms w os more)).getD k 0 = numAt (joinedM ms os) (bothW ms w os more) k := by
    intro k hk
    rw [List.getD_eq_getElem?_getD]; simp [numI, hk]
  have g2 : ∀ k, k < more.length → (laidI (numI ms w) (numI os more)).getD k 0 = numAt ms w (numAt os more k).toNat := by
    intro k hk
    have b := both_bd hw hm hl hk
    rw [List.getD_eq_getElem?_getD]
    simp [laidI, numI, hk, b.1, List.getD_eq_getElem?_getD]
  rw [g1 i hi', g1 j hj', g2 i hi', g2 j hj', num_lt hbw (by simpa using hi') (by simpa using hj'), both_lt hw hm hl hi' hj', num_lt hw (both_bd hw hm hl hi').1 (both_bd hw hm hl hj').1]
end
end Rc
namespace Rc
def cellI (s : List Int) (k : Int) : Int := if k < (s.length : Int) then s.getD (Int.toNat k) 0 else 0
theorem pick2 (a b c : Int) : ([a, b] : List Int).getD (Int.toNat (min 1 (c % 8))) 0 = a ∨ ([a, b] : List Int).getD (Int.toNat (min 1 (c % 8))) 0 = b := by
  have h0 := Int.emod_nonneg c (show (8 : Int) ≠ 0 by decide)
  rcases (show min 1 (c % 8) = 0 ∨ min 1 (c % 8) = 1 by omega) with h | h
  · rw [h]; exact .inl rfl
  · rw [h]; exact .inr rfl
theorem ahead_eq {os : List Bool} {more : List Int} {n : Nat} {i : Nat} {y : Int} (hm : IsW os.length more) (hl : more.length = n) (e : (riffleI (upto n) os more)[i]? = some y) : y = numAt os more i ∧ i < more.length := by
  rw [riff_first hm hl] at e
  have hi : i < more.length := by
    have := (List.getElem?_eq_some_iff.mp e).1
    simpa using this
  rw [numI, List.getElem?_map, List.getElem?_range hi] at e
  exact ⟨(Option.some.inj e).symm, hi⟩
theorem bothTo_step {ms os : List Bool} {w more : List Int} {i : Nat} {y z : Int} (h1 : y = numAt os more i) (h2 : more[i]? = some z) :
    bothTo ms w os more i ++ [w.getD (Int.toNat y) 0 * (os.length : Int) + turnedI ms os (w.getD (Int.toNat y) 0) z] = bothTo ms w os more (i + 1) := by
  rw [← bothTo_next]
  unfold bothAt
  rw [h1, getD_of h2]
end Rc
namespace Rc
open PySem PySem.Spec PyProof.Rows L2
theorem am_true {n : Nat} (h : 1 ≤ n ∧ n ≤ 400) : (decide (1 ≤ n) && decide (n ≤ 400)) = true := by rw [decide_eq_true h.1, decide_eq_true h.2]; rfl
theorem pk_pl (k : PK) : k.past.length = k.es.length := by unfold PK.past; rw [List.length_map]
theorem pk_app {dx a b at_ am aw : Addr} {es : List PE} {o : List Int} {marks : List Bool} {word : List Int} {C : List PC} (h : es.map peC = C) : (⟨dx, a, b, es ++ [⟨at_, am, aw, marks, word⟩], o⟩ : PK).past = C ++ [(marks, word)] := pc_app h
theorem pk_pop {dx a b : Addr} {es : List PE} {o : List Int} {C : List PC} (h : es.map peC = C) : (⟨dx, a, b, es.dropLast, o⟩ : PK).past = C.dropLast := pc_pop h
section
variable {m : List Bool} {w o : List Int} {L : PC}
theorem pk_lw (h : (m, w) = L) (hw : IsW L.1.length L.2) : IsW m.length w := by subst h; exact hw
theorem pk_ll (h : (m, w) = L) : m.length = L.1.length ∧ w.length = L.2.length := by subst h; exact ⟨rfl, rfl⟩
theorem pk_lu (h : (m, w) = L) : undoneI o m w = undoneI o L.1 L.2 := by subst h; rfl
end
end Rc
namespace Rc
open PySem PySem.Spec PyProof.Rows L2
/-! orders to which riffles lead -/
def ordTo (n : Nat) (P : List PC) : List Int := P.foldl (fun o e => riffleI o e.1 e.2) (upto n)
def PkOk (n : Nat) (P : List PC) : Prop := ∀ e ∈ P, 1 ≤ e.1.length ∧ e.1.length ≤ 400 ∧ e.2.length = n ∧ IsW e.1.length e.2
def ordsTo (n : Nat) (P : List PC) : List (List Int) := (List.range (P.length + 1)).map fun i => ordTo n (P.take i)
section
variable {n : Nat} {P : List PC} {e : PC} {m : List Bool} {w : List Int}
theorem ordTo_app : ordTo n (P ++ [e]) = riffleI (ordTo n P) e.1 e.2 := by unfold ordTo; rw [List.foldl_append]; rfl
theorem PkOk.nil : PkOk n [] := fun _ h => nomatch h
theorem PkOk.app (h : PkOk n P) (h1 : 1 ≤ m.length ∧ m.length ≤ 400) (h2 : w.length = n) (h3 : IsW m.length w) : PkOk n (P ++ [(m, w)]) := fun z hz => by
  rcases List.mem_append.mp hz with hz | hz
  · exact h z hz
  · cases List.mem_singleton.mp hz; exact ⟨h1.1, h1.2, h2, h3⟩
theorem PkOk.sub {Q : List PC} (h : PkOk n P) (hs : ∀ z ∈ Q, z ∈ P) : PkOk n Q := fun z hz => h z (hs z hz)
theorem PkOk.pop (h : PkOk n P) : PkOk n P.dropLast := h.sub fun _ hz => List.dropLast_subset _ hz
theorem PkOk.last (h : PkOk n P) (hn : 0 < P.length) : 1 ≤ (P.getLastD ([], [])).1.length ∧ (P.getLastD ([], [])).1.length ≤ 400 ∧ (P.getLastD ([], [])).2.length = n ∧ IsW (P.getLastD ([], [])).1.length (P.getLastD ([], [])).2 := by
  have hne : P ≠ [] := fun z => by subst z; exact absurd hn (by decide)
  rw [List.getLastD_eq_getLast?, List.getLast?_eq_some_getLast hne]
  exact h _ (List.getLast_mem hne)
theorem concat_last (hn : 0 < P.length) : P = P.dropLast ++ [P.getLastD ([], [])] := by
  have hne : P ≠ [] := fun z => by subst z; exact absurd hn (by decide)
  rw [List.getLastD_eq_getLast?, List.getLast?_eq_some_getLast hne]
  exact (List.dropLast_concat_getLast hne).symm
theorem ordTo_len (h : PkOk n P) : (ordTo n P).length = n := by
  by_cases hn : 0 < P.length
  · rw [concat_last hn, ordTo_app, riffleI_length]
    exact (h.last hn).2.2.1
  · have : P = [] := List.eq_nil_of_length_eq_zero (by omega)
    subst this
    exact upto_length n
theorem ordsTo_app : ordsTo n (P ++ [e]) = ordsTo n P ++ [ordTo n (P ++ [e])] := by
  unfold ordsTo
  rw [List.length_append, List.length_singleton, List.range_succ, List.map_append]
  congr 1
  · refine List.map_congr_left fun i hi => ?_
    rw [List.take_append_of_le_length (by have := List.mem_range.mp hi; omega)]
  · rw [List.map_singleton, List.take_of_length_le (by rw [List.length_append]; simp)]
theorem ordsTo_length : (ordsTo n P).length = P.length + 1 := by unfold ordsTo; simp
theorem ordsTo_nil : ordsTo n [] = [upto n] := rfl
theorem ordsTo_last : (ordsTo n P).getD ((ordsTo n P).length - 1) [] = ordTo n P := by
  rw [ordsTo_length, Nat.add_sub_cancel]
  unfold ordsTo
  rw [List.getD_eq_getElem?_getD, List.getElem?_map, List.getElem?_range (by omega)]
  show ordTo n (P.take P.length) = _
  rw [List.take_length]
theorem ordsTo_pop (hn : 0 < P.length) : (ordsTo n P).dropLast = ordsTo n P.dropLast := by
  have e : ordsTo n P = ordsTo n P.dropLast ++ [ordTo n P] := by
    have := ordsTo_app (n := n) (P := P.dropLast) (e := P.getLastD ([], []))
    rwa [← concat_last hn] at this
  rw [e, List.dropLast_concat]
theorem ordTo_undo (h : PkOk n P) (hn : 0 < P.length) : undoneI (ordTo n P) (P.getLastD ([], [])).1 (P.getLastD ([], [])).2 = ordTo n P.dropLast := by
  have hl := h.last hn
  conv => lhs; rw [concat_last hn]
  rw [← concat_last hn]
  have e : ordTo n P = riffleI (ordTo n P.dropLast) (P.getLastD ([], [])).1 (P.getLastD ([], [])).2 := by
    conv => lhs; rw [concat_last hn]
    exact ordTo_app
  rw [e]
  exact undone_riffle hl.2.2.2 (by rw [ordTo_len h.pop, hl.2.2.1])
end
/-! the pack, the orders, the riffles: they agree -/
structure Pk3 (n : Nat) (k : PK) (O : List (List Int)) (P : List PC) : Prop where
  past : k.past = P
  ords : O = ordsTo n P
  order : k.order = ordTo n P
  ok : PkOk n P
  nb : 1 ≤ n ∧ n ≤ 60
section
variable {n : Nat} {k k' : PK} {O : List (List Int)} {P : List PC} {m : List Bool} {w : List Int}
theorem Pk3.len (h : Pk3 n k O P) : k.order.length = n ∧ O.length = P.length + 1 ∧ k.past.length = P.length := by
  refine ⟨by rw [h.order, ordTo_len h.ok], by rw [h.ords, ordsTo_length], by rw [h.past]⟩
theorem Pk3.last (h : Pk3 n k O P) : O.getD (O.length - 1) [] = k.order := by rw [h.ords, ordsTo_last, h.order]
theorem Pk3.start {k : PK} {N : Int} (h0 : 1 ≤ N ∧ N ≤ 60) (h1 : k.order = upto (Int.toNat N)) (h2 : k.past = []) : Pk3 (Int.toNat N) k [upto (Int.toNat N)] [] :=
  ⟨h2, rfl, h1, PkOk.nil, by omega⟩
theorem Pk3.riffle (h : Pk3 n k O P) (hm : 1 ≤ m.length ∧ m.length ≤ 400) (hl : w.length = n) (hw : IsW m.length w) (h1 : k'.order = riffleI k.order m w) (h2 : k'.past = k.past ++ [(m, w)]) :
    Pk3 n k' (O ++ [riffleI (O.getD (O.length - 1) []) m w]) (P ++ [(m, w)]) := by
  refine ⟨by rw [h2, h.past], ?_, ?_, h.ok.app hm hl hw, h.nb⟩
  · rw [h.last, h.order, h.ords, ordsTo_app, ordTo_app]
  · rw [h1, h.order, ordTo_app]
theorem Pk3.undo (h : Pk3 n k O P) (hn : 0 < P.length) (h1 : k'.order = undoneI k.order (k.past.getLastD ([], [])).1 (k.past.getLastD ([], [])).2) (h2 : k'.past = k.past.dropLast) : Pk3 n k' O.dropLast P.dropLast := by
  refine ⟨by rw [h2, h.past], by rw [h.ords, ordsTo_pop hn], ?_, h.ok.pop, h.nb⟩
  rw [h1, h.past, h.order, ordTo_undo h.ok hn]
end
end Rc
namespace Rc
theorem pickP (a b x : Int) : ([a, b] : List Int).getD (Int.toNat (min 1 x)) 0 = a ∨ ([a, b] : List Int).getD (Int.toNat (min 1 x)) 0 = b := by
  by_cases h : 1 ≤ x
  · rw [Int.min_eq_left h]; exact .inr rfl
  · rw [show Int.toNat (min 1 x) = 0 by omega]; exact .inl rfl
end Rc
namespace Rc
open PySem PySem.Spec PyProof.Rows L2
/-- range(1, m, 3) -/
theorem rgc1_3 {m : Int} (h0 : 0 ≤ m) (h1 : m < 2 ^ 40) : RgC 1 m 3 (Int.toNat ((m + 1) / 3)) := by
  have hn : ((Int.toNat ((m + 1) / 3) : Nat) : Int) = if 1 < m then (m - 1 - 1) / 3 + 1 else 0 := by
    split <;> omega
  have hs : Builtin.Range.rangeSize 1 m 3 = Int.toNat ((m + 1) / 3) := by
    unfold Builtin.Range.rangeSize
    rw [if_pos (by decide), hn]
  refine ⟨by decide, by decide, ?_, hs⟩
  unfold Builtin.Range.small
  rw [hs, hn]
  simp only [Builtin.Range.rangeFitsLong, Bool.and_eq_true, Bool.or_eq_true, decide_eq_true_eq, beq_iff_eq]
  split
  · refine ⟨by omega, .inr ?_⟩
    rw [if_pos (by decide), Bool.and_eq_true, decide_eq_true_eq, decide_eq_true_eq]
    omega
  · exact ⟨by omega, .inl rfl⟩
end Rc
namespace Rc
open PySem PySem.Spec PyProof.Rows L2
/-! the one riffle -/
def whStep (z : PC) (e : PC) : PC := (joinedM z.1 e.1, bothW z.1 z.2 e.1 e.2)
def wholeP (n : Nat) (P : List PC) : PC := P.foldl whStep ([false], List.replicate n 0)
def heapsP (P : List PC) : Nat := P.foldl (fun a e => a * e.1.length) 1
section
variable {n i : Nat} {P : List PC} {e : PC}
theorem wholeP_app : wholeP n (P ++ [e]) = whStep (wholeP n P) e := by unfold wholeP; rw [List.foldl_append]; rfl
theorem heapsP_app : heapsP (P ++ [e]) = heapsP P * e.1.length := by unfold heapsP; rw [List.foldl_append]; rfl
theorem snoc_ind {p : List PC → Prop} (h0 : p []) (hs : ∀ P e, p P → p (P ++ [e])) : ∀ P, p P := fun P => by
  have key : ∀ Q : List PC, p Q.reverse := by
    intro Q
    induction Q with
    | nil => exact h0
    | cons e Q ih => rw [List.reverse_cons]; exact hs _ _ ih
  have := key P.reverse
  rwa [List.reverse_reverse] at this
theorem wholeP_heaps (P : List PC) : (wholeP n P).1.length = heapsP P := by
  induction P using snoc_ind with
  | h0 => rfl
  | hs P e ih => rw [wholeP_app, heapsP_app, ← ih]; exact joinedM_length _ _
theorem PkOk.init (h : PkOk n (P ++ [e])) : PkOk n P := h.sub fun _ hz => List.mem_append_left _ hz
theorem PkOk.end (h : PkOk n (P ++ [e])) : 1 ≤ e.1.length ∧ e.1.length ≤ 400 ∧ e.2.length = n ∧ IsW e.1.length e.2 := h e (List.mem_append_right _ List.mem_cons_self)
theorem PkOk.take (h : PkOk n P) : PkOk n (P.take i) := h.sub fun _ hz => List.mem_of_mem_take hz
theorem wholeP_ok (h : PkOk n P) : (wholeP n P).2.length = n ∧ IsW (wholeP n P).1.length (wholeP n P).2 := by
  revert h
  induction P using snoc_ind with
  | h0 =>
    intro _
    refine ⟨List.length_replicate, fun x hx => ?_⟩
    have : x = 0 := List.eq_of_mem_replicate hx
    subst this
    exact ⟨Int.le_refl _, (by decide : (0 : Int) < ((1 : Nat) : Int))⟩
  | hs P e ih =>
    intro h
    have ih := ih h.init
    have he := h.end
    rw [wholeP_app]
    refine ⟨?_, ?_⟩
    · show (bothW _ _ _ _).length = n
      rw [bothW_length]; exact he.2.2.1
    · exact bothW_isW ih.2 he.2.2.2 (by rw [ih.1, he.2.2.1])
theorem riffle_one (n : Nat) : riffleI (upto n) [false] (List.replicate n 0) = upto n := by
  have hw : IsW ([false] : List Bool).length (List.replicate n (0 : Int)) := fun x hx => by
    have : x = 0 := List.eq_of_mem_replicate hx
    subst this
    exact ⟨Int.le_refl _, by decide⟩
  rw [riff_first hw List.length_replicate]
  refine ord_ext (isOrd_numI _ hw) (isOrd_upto n) (by rw [numI_length, List.length_replicate, upto_length]) fun i j hi hj => ?_
  rw [numI_length, List.length_replicate] at hi hj
  have hi' : i < (List.replicate n (0 : Int)).length := by rw [List.length_replicate]; exact hi
  have hj' : j < (List.replicate n (0 : Int)).length := by rw [List.length_replicate]; exact hj
  have e1 : ∀ k, k < n → (numI [false] (List.replicate n (0 : Int))).getD k 0 = numAt [false] (List.replicate n (0 : Int)) k := fun k hk => by
    rw [List.getD_eq_getElem?_getD, numI, List.getElem?_map, List.getElem?_range (by rw [List.length_replicate]; exact hk)]; rfl
  have e2 : ∀ k, k < n → (upto n).getD k 0 = (k : Int) := fun k hk => by
    rw [List.getD_eq_getElem?_getD, upto, List.getElem?_map, List.getElem?_range hk]; rfl
  have e3 : ∀ k, k < n → (List.replicate n (0 : Int)).getD k 0 = 0 := fun k hk => by
    rw [List.getD_eq_getElem?_getD, List.getElem?_replicate, if_pos hk]; rfl
  rw [e1 i hi, e1 j hj, e2 i hi, e2 j hj, num_lt hw hi' hj']
  unfold ltW
  rw [e3 i hi, e3 j hj]
  constructor
  · rintro (h | ⟨_, h⟩)
    · omega
    · rw [if_neg (by decide)] at h; omega
  · intro h
    exact .inr ⟨rfl, by rw [if_neg (by decide)]; omega⟩
/-- it leads where all riffles lead -/
theorem wholeP_leads (h : PkOk n P) : riffleI (upto n) (wholeP n P).1 (wholeP n P).2 = ordTo n P := by
  revert h
  induction P using snoc_ind with
  | h0 => intro _; exact riffle_one n
  | hs P e ih =>
    intro h
    have w := wholeP_ok h.init
    have he := h.end
    rw [wholeP_app, ordTo_app, ← ih h.init]
    exact riffle_joined w.2 he.2.2.2 (by rw [w.1, he.2.2.1]) (by rw [w.1, upto_length])
theorem heapsP_pos (h : PkOk n P) : 1 ≤ heapsP P := by
  revert h
  induction P using snoc_ind with
  | h0 => intro _; exact Nat.le_refl _
  | hs P e ih =>
    intro h
    rw [heapsP_app]
    exact Nat.mul_pos (ih h.init) (by have := h.end; omega)
theorem heapsP_take (h : PkOk n P) (i : Nat) : heapsP (P.take i) ≤ heapsP P := by
  revert h
  induction P using snoc_ind with
  | h0 => intro _; rw [List.take_nil]; exact Nat.le_refl _
  | hs P e ih =>
    intro h
    by_cases hi : i ≤ P.length
    · rw [List.take_append_of_le_length hi, heapsP_app]
      exact Nat.le_trans (ih h.init) (Nat.le_mul_of_pos_right _ (by have := h.end; omega))
    · rw [List.take_of_length_le (by rw [List.length_append]; simp; omega)]
      exact Nat.le_refl _
/-- one turn -/
theorem wh_next {y : PC} (hy : P[i]? = some y) : wholeP n (P.take (i + 1)) = whStep (wholeP n (P.take i)) y := by rw [take_next hy, wholeP_app]
theorem hp_next {y : PC} (hy : P[i]? = some y) : heapsP (P.take (i + 1)) = heapsP (P.take i) * y.1.length := by rw [take_next hy, heapsP_app]
theorem wh_turn {m : List Bool} {w : List Int} (h : PkOk n P) (hy : P[i]? = some (m, w)) (h4 : heapsP (P.take i) * m.length ≤ 400) :
    (wholeP n (P.take i)).1.length = heapsP (P.take i) ∧ (wholeP n (P.take i)).1.length ≤ 400 ∧ (wholeP n (P.take i)).2.length = n ∧ IsW (wholeP n (P.take i)).1.length (wholeP n (P.take i)).2 ∧ IsW m.length w ∧ w.length = n ∧ 1 ≤ m.length ∧ m.length ≤ 400 ∧ (wholeP n (P.take i)).1.length * m.length ≤ 400 := by
  have hm := h _ (List.mem_of_getElem? hy)
  have w1 := wholeP_ok (h.take (i := i))
  have e := wholeP_heaps (n := n) (P.take i)
  have hle : heapsP (P.take i) ≤ 400 := Nat.le_trans (Nat.le_mul_of_pos_right _ (Nat.lt_of_lt_of_le Nat.zero_lt_one hm.1)) h4
  exact ⟨e, by omega, w1.1, w1.2, hm.2.2.2, hm.2.2.1, hm.1, hm.2.1, by rw [e]; exact h4⟩
theorem hp_turn {m : List Bool} {w : List Int} (h : PkOk n P) (hy : P[i]? = some (m, w)) : heapsP (P.take i) * m.length ≤ heapsP P ∧ m.length ≤ 400 ∧ (wholeP n (P.take i)).1.length = heapsP (P.take i) := by
  have e := hp_next hy
  have := heapsP_take h (i + 1)
  exact ⟨by rw [e] at this; exact this, (h _ (List.mem_of_getElem? hy)).2.1, wholeP_heaps _⟩
end
theorem prod_iff {a b : Nat} : (400 : Int) < (a : Int) * (b : Int) ↔ 400 < a * b := by
  rw [← Int.natCast_mul]; omega
end Rc
namespace Rc
open PySem PySem.Spec PyProof.Rows L2
theorem eqv_same {d e : PyData} (h : d = e) (hc : d.canLay0 = true) : PyData.eqv d e = true := by subst h; exact PySem.SeqAt.eqv_refl _ hc
/-! the marks and the word of two riffles, in the law's way -/
theorem bothTo_law {ms os : List Bool} {w more : List Int} {n i : Nat} {H : Int} (hm : IsW os.length more) (hl : more.length = n) (hi : i < n) (hH : H = w.getD (Int.toNat ((riffleI (upto n) os more).getD i 0)) 0) :
    bothTo ms w os more i ++ [H * (os.length : Int) + turnedI ms os H (more.getD i 0)] = bothTo ms w os more (i + 1) := by
  subst hH
  have hir : i < (riffleI (upto n) os more).length := by rw [riffleI_length, hl]; exact hi
  have e := getElem?_getD (0 : Int) hir
  have hy := ahead_eq hm hl e
  exact bothTo_step hy.1 (getElem?_getD (0 : Int) (by omega))
theorem mem4 {x : Int} {i : Nat} (h : ([20, 20, 1, 2] : List Int)[i]? = some x) : 1 ≤ x ∧ x ≤ 20 := by
  have := List.mem_of_getElem? h
  simp only [List.mem_cons, List.not_mem_nil, or_false] at this
  omega
end Rc
namespace Rc
open PySem PySem.Spec PyProof.Rows L2
section
variable {ms os : List Bool} {w more : List Int} {n i : Nat} {H : Int}
theorem bothTo_law_t (hm : IsW os.length more) (hl : more.length = n) (hi : i < n) (hH : H = w.getD (Int.toNat ((riffleI (upto n) os more).getD i 0)) 0) (hT : ms.getD (Int.toNat H) false = true) :
    bothTo ms w os more i ++ [H * (os.length : Int) + ((os.length : Int) - 1 - more.getD i 0)] = bothTo ms w os more (i + 1) := by
  rw [← bothTo_law hm hl hi hH]; unfold turnedI; rw [if_pos hT]
theorem bothTo_law_f (hm : IsW os.length more) (hl : more.length = n) (hi : i < n) (hH : H = w.getD (Int.toNat ((riffleI (upto n) os more).getD i 0)) 0) (hF : ms.getD (Int.toNat H) false = false) :
    bothTo ms w os more i ++ [H * (os.length : Int) + more.getD i 0] = bothTo ms w os more (i + 1) := by
  rw [← bothTo_law hm hl hi hH]; unfold turnedI; rw [if_neg (by rw [hF]; exact Bool.false_ne_true)]
end
end Rc
namespace Rc
open PySem PySem.Spec PyProof.Rows L2 Evl

local macro_rules | `(tactic| walk_at "sca") => `(tactic| first | assumption | exact Sca.ints _ | exact Sca.bls _ | rfl | decide | (simp_all; done))
local macro_rules | `(tactic| walk_at "side") => `(tactic| first | omega | assumption | (simp only [List.length_map, List.length_range, List.length_append, List.length_cons, List.length_nil, cutL_length]; omega) | (simp only [List.length_map, List.length_range, List.length_append, List.length_cons, List.length_nil] at *; omega) | (simp at *; omega))
local macro_rules | `(tactic| walk_at "size") => `(tactic| first | (refine Evl.sz_lt ?_; simp only [List.length_map, List.length_range, List.length_append, List.length_cons, List.length_nil, cutL_length, List.length_set, List.length_replicate, List.length_reverse]; omega) | (refine Evl.sz_of ?_; simp only [List.length_map, List.length_range, List.length_append, List.length_cons, List.length_nil, cutL_length, List.length_set, List.length_replicate, List.length_reverse]; omega) | (refine Evl.sz_lt ?_; simp; omega) | (refine Evl.sz_of ?_; simp; omega))
local macro_rules | `(tactic| walk_at "tsize") => `(tactic| (refine Evl.sz_lt ?_; simp only [List.length_map, List.length_append, List.length_cons, List.length_nil]; first | omega | (rw [snd_len (by assumption)]; omega)))
local macro_rules | `(tactic| walk_at "csize") => `(tactic| first | (refine Evl.sz_lt ?_; simp only [List.length_map, List.length_take, List.length_range]; omega) | (refine Evl.sz_lt ?_; simp only [List.length_map]; refine Nat.lt_of_le_of_lt (List.length_filter_le _ _) ?_; simp only [List.length_take, List.length_range]; omega))
local macro_rules | `(tactic| walk_at "inv") => `(tactic| first | omega | assumption | rfl | (simp only [List.length_append, List.length_cons, List.length_nil, List.length_set]; omega) | (simp; omega) | simp_all)
local macro_rules | `(tactic| walk_at "post") => `(tactic| first | rfl | assumption | omega | (simp_all; done) | (simp_all; omega))
local macro_rules | `(tactic| walk_at "mul") => `(tactic| first | exact .inl (by omega) | exact .inr (by omega))
local macro_rules | `(tactic| walk_at "txl") => `(tactic| first | omega | (simp only [List.length_append, List.length_cons, List.length_nil]; omega) | (simp only [List.length_append, List.length_cons, List.length_nil] at *; omega) | (simp; omega))
local macro_rules | `(tactic| walk_at "log") => `(tactic| exact log_lt (by omega))
local macro_rules | `(tactic| walk_at "div") => `(tactic| exact ⟨by omega, by omega⟩)
local macro_rules | `(tactic| walk_at "widediv") => `(tactic| first | exact ⟨by omega, wl_of (by omega) (by omega)⟩)
local macro_rules | `(tactic| walk_at "rgok") => `(tactic| exact ⟨by omega, by omega, by omega, by omega, by omega⟩)
local macro_rules | `(tactic| walk_at "rgc") => `(tactic| omega)
local macro_rules | `(tactic| walk_at "comp") => `(tactic| first | (simp_all; done) | (simp_all; omega) | grind)
def topS (i : Nat) : Stmt := PySem.Challenge.pw_riftcarry_k42_whole_the_one_riffle.main.body.getD i (.Pass ⟨0, 0, 0, 0⟩)
abbrev s_law_cell_at : Stmt := topS 32
abbrev s_first : Stmt := topS 14
abbrev s_is_whole : Stmt := topS 11
abbrev s_Pack___init : Stmt := inClass (topS 30) 0
abbrev s_is_word : Stmt := topS 16
abbrev s_must_be_word : Stmt := topS 17
abbrev s_sizes : Stmt := topS 18
abbrev s_numbers_in : Stmt := topS 19
abbrev s_riffled : Stmt := topS 20
abbrev s_are_marks : Stmt := topS 29
abbrev s_Pack_riffle : Stmt := inClass (topS 30) 1
abbrev s_law_riffled : Stmt := topS 37
abbrev s_check : Stmt := topS 25
abbrev s_turned_about : Stmt := topS 23
abbrev s_joined : Stmt := topS 26
abbrev s_joined_marks : Stmt := topS 24
abbrev s_Pack_whole : Stmt := inClass (topS 30) 5
abbrev s_law_is : Stmt := topS 38
abbrev s_law_leads : Stmt := topS 40
abbrev s_law_joined : Stmt := topS 39
abbrev s_law_refused : Stmt := topS 41
abbrev s_Pack_order : Stmt := inClass (topS 30) 3
abbrev s_law_told : Stmt := topS 42
abbrev s_law_rim : Stmt := topS 43
abbrev s_undone : Stmt := topS 21
abbrev s_Pack_undo : Stmt := inClass (topS 30) 2
abbrev s_law_mixed : Stmt := topS 33
abbrev s_law_marks : Stmt := topS 35
abbrev s_law_word : Stmt := topS 36
abbrev s_law : Stmt := topS 44
structure Txt (K : PySem.W.Frag) (mg : Str → Option Value) where
  C_Pack : Addr
  cl_Pack : Cls K C_Pack
  mg_Pack : mg "Pack" = some (.ref C_Pack)
  na_Pack_cards : NoAttr K C_Pack "cards"
  na_Pack_past : NoAttr K C_Pack "past"
  f_law_cell_at : Addr
  fd_law_cell_at : FuncData
  F_law_cell_at : Fun K "_law_cell_at" "_law_cell_at" s_law_cell_at f_law_cell_at fd_law_cell_at
  g_law_cell_at : mg "_law_cell_at" = some (.ref f_law_cell_at)
  b_law_cell_at : Binds K fd_law_cell_at ["_law_script", "_law_k"] []
  f_first : Addr
  fd_first : FuncData
  F_first : Fun K "first" "first" s_first f_first fd_first
  g_first : mg "first" = some (.ref f_first)
  b_first : Binds K fd_first ["n"] []
  f_is_whole : Addr
  fd_is_whole : FuncData
  F_is_whole : Fun K "is_whole" "is_whole" s_is_whole f_is_whole fd_is_whole
  g_is_whole : mg "is_whole" = some (.ref f_is_whole)
  b_is_whole : Binds K fd_is_whole ["thing"] []
  f_Pack___init : Addr
  fd_Pack___init : FuncData
  F_Pack___init : Fun K "__init__" "Pack.__init__" s_Pack___init f_Pack___init fd_Pack___init
  m_Pack___init : Meth K C_Pack "__init__" f_Pack___init
  mk_Pack : Mk K C_Pack f_Pack___init
  b_Pack___init : Binds K fd_Pack___init ["self", "n"] []
  f_is_word : Addr
  fd_is_word : FuncData
  F_is_word : Fun K "is_word" "is_word" s_is_word f_is_word fd_is_word
  g_is_word : mg "is_word" = some (.ref f_is_word)
  b_is_word : Binds K fd_is_word ["marks", "word", "n"] []
  f_must_be_word : Addr
  fd_must_be_word : FuncData
  F_must_be_word : Fun K "must_be_word" "must_be_word" s_must_be_word f_must_be_word fd_must_be_word
  g_must_be_word : mg "must_be_word" = some (.ref f_must_be_word)
  b_must_be_word : Binds K fd_must_be_word ["marks", "word", "n"] []
  f_sizes : Addr
  fd_sizes : FuncData
  F_sizes : Fun K "sizes" "sizes" s_sizes f_sizes fd_sizes
  g_sizes : mg "sizes" = some (.ref f_sizes)
  b_sizes : Binds K fd_sizes ["marks", "word"] []
  f_numbers_in : Addr
  fd_numbers_in : FuncData
  F_numbers_in : Fun K "numbers_in" "numbers_in" s_numbers_in f_numbers_in fd_numbers_in
  g_numbers_in : mg "numbers_in" = some (.ref f_numbers_in)
  b_numbers_in : Binds K fd_numbers_in ["marks", "word"] []
  f_riffled : Addr
  fd_riffled : FuncData
  F_riffled : Fun K "riffled" "riffled" s_riffled f_riffled fd_riffled
  g_riffled : mg "riffled" = some (.ref f_riffled)
  b_riffled : Binds K fd_riffled ["order", "marks", "word"] []
  f_are_marks : Addr
  fd_are_marks : FuncData
  F_are_marks : Fun K "are_marks" "are_marks" s_are_marks f_are_marks fd_are_marks
  g_are_marks : mg "are_marks" = some (.ref f_are_marks)
  b_are_marks : Binds K fd_are_marks ["marks"] []
  f_Pack_riffle : Addr
  fd_Pack_riffle : FuncData
  F_Pack_riffle : Fun K "riffle" "Pack.riffle" s_Pack_riffle f_Pack_riffle fd_Pack_riffle
  m_Pack_riffle : Meth K C_Pack "riffle" f_Pack_riffle
  b_Pack_riffle : Binds K fd_Pack_riffle ["self", "marks", "word"] []
  f_law_riffled : Addr
  fd_law_riffled : FuncData
  F_law_riffled : Fun K "_law_riffled" "_law_riffled" s_law_riffled f_law_riffled fd_law_riffled
  g_law_riffled : mg "_law_riffled" = some (.ref f_law_riffled)
  b_law_riffled : Binds K fd_law_riffled ["_law_order_here", "_law_marks_here", "_law_word_here"] []
  f_check : Addr
  fd_check : FuncData
  F_check : Fun K "check" "check" s_check f_check fd_check
  g_check : mg "check" = some (.ref f_check)
  b_check : Binds K fd_check ["marks", "word", "n"] []
  f_turned_about : Addr
  fd_turned_about : FuncData
  F_turned_about : Fun K "turned_about" "turned_about" s_turned_about f_turned_about fd_turned_about
  g_turned_about : mg "turned_about" = some (.ref f_turned_about)
  b_turned_about : Binds K fd_turned_about ["marks", "others", "heap", "other"] []
  f_joined : Addr
  fd_joined : FuncData
  F_joined : Fun K "joined" "joined" s_joined f_joined fd_joined
  g_joined : mg "joined" = some (.ref f_joined)
  b_joined : Binds K fd_joined ["marks", "word", "others", "more"] []
  f_joined_marks : Addr
  fd_joined_marks : FuncData
  F_joined_marks : Fun K "joined_marks" "joined_marks" s_joined_marks f_joined_marks fd_joined_marks
  g_joined_marks : mg "joined_marks" = some (.ref f_joined_marks)
  b_joined_marks : Binds K fd_joined_marks ["marks", "others"] []
  f_Pack_whole : Addr
  fd_Pack_whole : FuncData
  F_Pack_whole : Fun K "whole" "Pack.whole" s_Pack_whole f_Pack_whole fd_Pack_whole
  m_Pack_whole : Meth K C_Pack "whole" f_Pack_whole
  b_Pack_whole : Binds K fd_Pack_whole ["self"] []
  f_law_is : Addr
  fd_law_is : FuncData
  F_law_is : Fun K "_law_is" "_law_is" s_law_is f_law_is fd_law_is
  g_law_is : mg "_law_is" = some (.ref f_law_is)
  b_law_is : Binds K fd_law_is ["_law_marks_here", "_law_word_here", "_law_many", "_law_n"] []
  f_law_leads : Addr
  fd_law_leads : FuncData
  F_law_leads : Fun K "_law_leads" "_law_leads" s_law_leads f_law_leads fd_law_leads
  g_law_leads : mg "_law_leads" = some (.ref f_law_leads)
  b_law_leads : Binds K fd_law_leads ["_law_pack", "_law_order_here", "_law_many"] []
  f_law_joined : Addr
  fd_law_joined : FuncData
  F_law_joined : Fun K "_law_joined" "_law_joined" s_law_joined f_law_joined fd_law_joined
  g_law_joined : mg "_law_joined" = some (.ref f_law_joined)
  b_law_joined : Binds K fd_law_joined ["_law_past", "_law_n"] []
  f_law_refused : Addr
  fd_law_refused : FuncData
  F_law_refused : Fun K "_law_refused" "_law_refused" s_law_refused f_law_refused fd_law_refused
  g_law_refused : mg "_law_refused" = some (.ref f_law_refused)
  b_law_refused : Binds K fd_law_refused ["_law_pack"] []
  f_Pack_order : Addr
  fd_Pack_order : FuncData
  F_Pack_order : Fun K "order" "Pack.order" s_Pack_order f_Pack_order fd_Pack_order
  m_Pack_order : Meth K C_Pack "order" f_Pack_order
  b_Pack_order : Binds K fd_Pack_order ["self"] []
  f_law_told : Addr
  fd_law_told : FuncData
  F_law_told : Fun K "_law_told" "_law_told" s_law_told f_law_told fd_law_told
  g_law_told : mg "_law_told" = some (.ref f_law_told)
  b_law_told : Binds K fd_law_told ["_law_pack", "_law_orders", "_law_past"] []
  f_law_rim : Addr
  fd_law_rim : FuncData
  F_law_rim : Fun K "_law_rim" "_law_rim" s_law_rim f_law_rim fd_law_rim
  g_law_rim : mg "_law_rim" = some (.ref f_law_rim)
  b_law_rim : Binds K fd_law_rim ["_law_n", "_law_head"] []
  f_undone : Addr
  fd_undone : FuncData
  F_undone : Fun K "undone" "undone" s_undone f_undone fd_undone
  g_undone : mg "undone" = some (.ref f_undone)
  b_undone : Binds K fd_undone ["order", "marks", "word"] []
  f_Pack_undo : Addr
  fd_Pack_undo : FuncData
  F_Pack_undo : Fun K "undo" "Pack.undo" s_Pack_undo f_Pack_undo fd_Pack_undo
  m_Pack_undo : Meth K C_Pack "undo" f_Pack_undo
  b_Pack_undo : Binds K fd_Pack_undo ["self"] []
  f_law_mixed : Addr
  fd_law_mixed : FuncData
  F_law_mixed : Fun K "_law_mixed" "_law_mixed" s_law_mixed f_law_mixed fd_law_mixed
  g_law_mixed : mg "_law_mixed" = some (.ref f_law_mixed)
  b_law_mixed : Binds K fd_law_mixed ["_law_cell", "_law_k"] []
  f_law_marks : Addr
  fd_law_marks : FuncData
  F_law_marks : Fun K "_law_marks" "_law_marks" s_law_marks f_law_marks fd_law_marks
  g_law_marks : mg "_law_marks" = some (.ref f_law_marks)
  b_law_marks : Binds K fd_law_marks ["_law_cell", "_law_most"] []
  f_law_word : Addr
  fd_law_word : FuncData
  F_law_word : Fun K "_law_word" "_law_word" s_law_word f_law_word fd_law_word
  g_law_word : mg "_law_word" = some (.ref f_law_word)
  b_law_word : Binds K fd_law_word ["_law_cell", "_law_heaps", "_law_n"] []
  f_law : Addr
  fd_law : FuncData
  F_law : Fun K "law" "law" s_law f_law fd_law
  g_law : mg "law" = some (.ref f_law)
  b_law : Binds K fd_law ["_law_script"] []
  C_RiftError : Addr
  X_RiftError : ExcT K mg "RiftError" C_RiftError
  C_NoPack : Addr
  X_NoPack : ExcT K mg "NoPack" C_NoPack
  C_NoMarks : Addr
  X_NoMarks : ExcT K mg "NoMarks" C_NoMarks
  C_NoRiffle : Addr
  X_NoRiffle : ExcT K mg "NoRiffle" C_NoRiffle
  C_NoWay : Addr
  X_NoWay : ExcT K mg "NoWay" C_NoWay
  C_TooMany : Addr
  X_TooMany : ExcT K mg "TooMany" C_TooMany
  C_NoFigures : Addr
  X_NoFigures : ExcT K mg "NoFigures" C_NoFigures
  C_NoText : Addr
  X_NoText : ExcT K mg "NoText" C_NoText
  S_TooMany_NoFigures : PySem.W.subIn K (.ref C_TooMany) (.ref C_NoFigures) = some false
  N_TooMany_NoFigures : C_TooMany ≠ C_NoFigures
  S_TooMany_NoMarks : PySem.W.subIn K (.ref C_TooMany) (.ref C_NoMarks) = some false
  N_TooMany_NoMarks : C_TooMany ≠ C_NoMarks
  S_TooMany_NoPack : PySem.W.subIn K (.ref C_TooMany) (.ref C_NoPack) = some false
  N_TooMany_NoPack : C_TooMany ≠ C_NoPack
  S_TooMany_NoRiffle : PySem.W.subIn K (.ref C_TooMany) (.ref C_NoRiffle) = some false
  N_TooMany_NoRiffle : C_TooMany ≠ C_NoRiffle
  S_TooMany_NoText : PySem.W.subIn K (.ref C_TooMany) (.ref C_NoText) = some false
  N_TooMany_NoText : C_TooMany ≠ C_NoText
  S_TooMany_NoWay : PySem.W.subIn K (.ref C_TooMany) (.ref C_NoWay) = some false
  N_TooMany_NoWay : C_TooMany ≠ C_NoWay
  S_TooMany_RiftError : PySem.W.subIn K (.ref C_TooMany) (.ref C_RiftError) = some true
  S_TooMany_TooMany : PySem.W.subIn K (.ref C_TooMany) (.ref C_TooMany) = some true
  u_HEAPS : Value
  c_HEAPS : mg "HEAPS" = some u_HEAPS
  r_HEAPS : RelV (.int 400) u_HEAPS
  u_MOST : Value
  c_MOST : mg "MOST" = some u_MOST
  r_MOST : RelV (.int 60) u_MOST
  m_abs : mg "abs" = none
  m_all : mg "all" = none
  m_bool : mg "bool" = none
  m_enumerate : mg "enumerate" = none
  m_int : mg "int" = none
  m_isinstance : mg "isinstance" = none
  m_len : mg "len" = none
  m_list : mg "list" = none
  m_min : mg "min" = none
  m_range : mg "range" = none
  m_reversed : mg "reversed" = none
  m_tuple : mg "tuple" = none
  m_zip : mg "zip" = none
section
variable {P : Program} {w : World} {K : PySem.W.Frag} {mg : Str → Option Value} {base : Heap}
def sp_first (K : PySem.W.Frag) : Sp := fun vs H Q _ => ∃ (n : Int), vs = [V.int n] ∧ (0 ≤ n ∧ n ≤ 1000) ∧ (∀ (H1 : Hp) (rA : Addr) (res : List Int), (res = upto (Int.toNat n)) → Same H H1 → H rA = none → H1 rA = some (.lst (List.map V.int res)) → Q (V.ref rA) H1)
theorem sc_first : FnScope ["n"] ["n"] (defScope s_first) := ⟨rfl, rfl, rfl, by decide +kernel, rfl, by decide +kernel, by decide +kernel⟩
theorem ok_first (T : Txt K mg) : FnOk P w K mg base CX0 1 T.f_first T.fd_first ["n"] (sp_first K) := by
  refine T.F_first.ok sc_first (fun vs H Q E h => ?_) (fun cdv A outer s H vs Q E hr h => ?_)
  · obtain ⟨n, rfl, _⟩ := h; rfl
  · obtain ⟨n, rfl, pre0, q⟩ := h
    have fr := Fr.nil H
    refine ⟨_, (pss_one (ps_ret (pe_listRg rfl (by rfl) T.m_list (prg_1 (by rfl) T.m_range (pv 0))))), ?_⟩
    refine ⟨_, rfl, _, rfl, ?_, fun l_1 nl_2 => ?_⟩
    · walk_at "rgok"
    have fr : Fr H _ [(l_1, (.lst (List.map V.int ((rangeI n))) : HO))] := (fr.new nl_2).cast (lst_rng _)
    exact q _ _ ((rangeI n)) (by rfl) fr.same fr.n0 fr.at0
def sp_is_whole (K : PySem.W.Frag) : Sp := fun vs H Q _ => ∃ (thing : V), vs = [thing] ∧ (sca thing = true) ∧ (∀ (H1 : Hp) (res : Bool), (res = wholeV thing) → Same H H1 → Q (V.bl res) H1)
theorem sc_is_whole : FnScope ["thing"] ["thing"] (defScope s_is_whole) := ⟨rfl, rfl, rfl, by decide +kernel, rfl, by decide +kernel, by decide +kernel⟩
theorem ok_is_whole (T : Txt K mg) : FnOk P w K mg base CX0 1 T.f_is_whole T.fd_is_whole ["thing"] (sp_is_whole K) := by
  refine T.F_is_whole.ok sc_is_whole (fun vs H Q E h => ?_) (fun cdv A outer s H vs Q E hr h => ?_)
  · obtain ⟨thing, rfl, _⟩ := h; rfl
  · obtain ⟨thing, rfl, pre0, q⟩ := h
    have fr := Fr.nil H
    refine ⟨_, (pss_one (ps_ret (pe_and (pe_splS (pe_callB (show CallR _ _ (rIsi K) from call_isi) (by rfl) T.m_isinstance (by decide +kernel) (pa_cons (pv 0) (pa_cons (pe_bltn (v := .ty "int") (by rfl) T.m_int (by decide +kernel) rfl) pa_nil)))) (pe_one (pe_not (pe_callB (show CallR _ _ (rIsi K) from call_isi) (by rfl) T.m_isinstance (by decide +kernel) (pa_cons (pv 0) (pa_cons (pe_bltn (v := .ty "bool") (by rfl) T.m_bool (by decide +kernel) rfl) pa_nil)))))))), ?_⟩
    refine ⟨_, rfl, _, _, _, _, _, rfl, (ClsV.ty _), (tyx_val ?_), (kit_int ?_), _, rfl, ?_, ?_⟩
    · walk_at "side"
    · walk_at "side"
    · intro h1
      refine ⟨_, rfl, ?_⟩
      refine iteT ?_
      refine ⟨_, rfl, _, _, _, _, _, rfl, (ClsV.ty _), (tyx_val ?_), (kit_bool ?_), _, rfl, ?_⟩
      · walk_at "side"
      · walk_at "side"
      exact q _ ((!((is_bool thing)))) (by simp_all [wholeV]) fr.same
    · intro h1
      refine ⟨_, rfl, ?_⟩
      refine iteF ?_
      exact q _ false (by simp_all [wholeV]) fr.same
def sp_Pack___init {K : PySem.W.Frag} {mg : Str → Option Value} (T : Txt K mg) : Sp := fun vs H Q _ => ∃ (a_slf : Addr) (dx_slf : Addr) (n : Int) (Hm : Hp), vs = [V.ref a_slf, V.int n] ∧ Lent Hm H ([(a_slf, (.ins T.C_Pack dx_slf [] : HO)), (dx_slf, (.own a_slf : HO))] ++ List.flatten []) ∧ (1 ≤ n ∧ n ≤ 60) ∧ (∀ (H1 : Hp) (slf' : PK), (slf'.order = upto (Int.toNat n)) → (slf'.past = []) → Fr Hm H1 ([] ++ List.flatten [pkOwn T.C_Pack a_slf slf']) → Q (V.non) H1)
theorem sc_Pack___init : FnScope ["self", "n"] ["self", "n"] (defScope s_Pack___init) := ⟨rfl, rfl, rfl, by decide +kernel, rfl, by decide +kernel, by decide +kernel⟩
theorem ok_Pack___init (T : Txt K mg) : FnOk P w K mg base CX0 2 T.f_Pack___init T.fd_Pack___init ["self", "n"] (sp_Pack___init T) := by
  refine T.F_Pack___init.ok sc_Pack___init (fun vs H Q E h => ?_) (fun cdv A outer s H vs Q E hr h => ?_)
  · obtain ⟨a_slf, dx_slf, n, Hm, rfl, _⟩ := h; rfl
  · obtain ⟨a_slf, dx_slf, n, Hm, rfl, hl, pre0, q⟩ := h
    have fr : Fr Hm H [(a_slf, (.ins T.C_Pack dx_slf [] : HO)), (dx_slf, (.own a_slf : HO))] := hl.fr
    refine ⟨_, (pss_cons (ps_if (PW.pt (pw_or (pt_not (pt_valS (pe_call (ok_is_whole T) (hr.mono (by decide)) (by rfl) T.g_is_whole T.F_is_whole.kp T.b_is_whole .nil pass0 (pa_cons (pv 1) pa_nil)))) (pw_or (pt_cmpR op_ltS (pv 1) pe_int (nomark _)) (pw_or1 (pt_cmpR op_gtS (pv 1) (pe_glob rfl T.c_MOST T.r_MOST) (nomark _)))))) pss_never pss_nil)
          (pss_cons (ps_fld (pv 0) (pe_call (ok_first T) (hr.mono (by decide)) (by rfl) T.g_first T.F_first.kp T.b_first .nil pass0 (pa_cons (pv 1) pa_nil)) rfl)
          (pss_one (ps_fld (pv 0) (pe_lst pa_nil) rfl)))), ?_⟩
    refine ⟨_, rfl, ((V.int n)), rfl, ?_, fun H_1 is_whole_2 hp_4 sm_3 => ?_⟩
    · rfl
    have fr : Fr Hm _ [(a_slf, (.ins T.C_Pack dx_slf [] : HO)), (dx_slf, (.own a_slf : HO))] := fr.call sm_3
    subst hp_4
    refine ⟨_, rfl, ?_, ?_⟩
    · intro h5
      refine iteF ?_
      refine ⟨_, rfl, _, _, rfl, rfl, ?_, ?_⟩
      · intro h6
        exfalso
        omega
      · intro h6
        refine ⟨_, rfl, ?_⟩
        refine iteF ?_
        refine ⟨_, rfl, _, _, rfl, rfl, ?_, ?_⟩
        · intro h7
          exfalso
          omega
        · intro h7
          refine ⟨_, rfl, ?_⟩
          refine iteF ?_
          refine ⟨_, rfl, n, rfl, ?_, fun H_8 p_12 first_9 hp_11 sm_10 np_13 ep_14 => ?_⟩
          · omega
          have fr : Fr Hm _ [(p_12, (.lst (List.map V.int first_9) : HO)), (a_slf, (.ins T.C_Pack dx_slf [] : HO)), (dx_slf, (.own a_slf : HO))] := fr.cnew sm_10 np_13 ep_14
          subst hp_11
          refine ⟨_, rfl, _, _, _, _, rfl, fr.at1, T.cl_Pack, T.na_Pack_cards, (by show 0 < 1000; decide), ?_⟩
          have fr : Fr Hm _ [(p_12, (.lst (List.map V.int (((upto (Int.toNat n))))) : HO)), (a_slf, (.ins T.C_Pack dx_slf (putF "cards" (.ref p_12) []) : HO)), (dx_slf, (.own a_slf : HO))] := Fr.wrk fr 1 rfl rfl
          refine ⟨(Evl.sz_of (show 0 ≤ 100000 by decide)), fun l_15 nl_16 => ?_⟩
          have fr : Fr Hm _ [(l_15, (.lst [] : HO)), (p_12, (.lst (List.map V.int (((upto (Int.toNat n))))) : HO)), (a_slf, (.ins T.C_Pack dx_slf (putF "cards" (.ref p_12) []) : HO)), (dx_slf, (.own a_slf : HO))] := fr.new nl_16
          refine ⟨_, rfl, _, _, _, _, rfl, fr.at2, T.cl_Pack, T.na_Pack_past, (by show 1 < 1000; decide), ?_⟩
          have fr : Fr Hm _ [(l_15, (.lst [] : HO)), (p_12, (.lst (List.map V.int (((upto (Int.toNat n))))) : HO)), (a_slf, (.ins T.C_Pack dx_slf (pkF p_12 l_15) : HO)), (dx_slf, (.own a_slf : HO))] := Fr.wrk fr 2 rfl rfl
          have fr : Fr Hm _ ([(l_15, (.lst (List.map peRef (([] : List PE))) : HO)), (p_12, (.lst (List.map V.int (((upto (Int.toNat n))))) : HO)), (a_slf, (.ins T.C_Pack dx_slf (pkF p_12 l_15) : HO)), (dx_slf, (.own a_slf : HO))] ++ List.flatten [pesOwn (([] : List PE))]) := fr
          have fr : Fr Hm _ ([(p_12, (.lst (List.map V.int (((upto (Int.toNat n))))) : HO)), (l_15, (.lst (List.map peRef (([] : List PE))) : HO)), (a_slf, (.ins T.C_Pack dx_slf (pkF p_12 l_15) : HO)), (dx_slf, (.own a_slf : HO))] ++ List.flatten [pesOwn (([] : List PE))]) := Fr.upk fr 1 rfl
          have fr : Fr Hm _ ([(dx_slf, (.own a_slf : HO)), (p_12, (.lst (List.map V.int (((upto (Int.toNat n))))) : HO)), (l_15, (.lst (List.map peRef (([] : List PE))) : HO)), (a_slf, (.ins T.C_Pack dx_slf (pkF p_12 l_15) : HO))] ++ List.flatten [pesOwn (([] : List PE))]) := Fr.upk fr 3 rfl
          have fr : Fr Hm _ ([(a_slf, (.ins T.C_Pack dx_slf (pkF p_12 l_15) : HO)), (dx_slf, (.own a_slf : HO)), (p_12, (.lst (List.map V.int (((upto (Int.toNat n))))) : HO)), (l_15, (.lst (List.map peRef (([] : List PE))) : HO))] ++ List.flatten [pesOwn (([] : List PE))]) := Fr.upk fr 3 rfl
          have fr : Fr Hm _ ([] ++ List.flatten [pkOwn T.C_Pack a_slf ((⟨dx_slf, p_12, l_15, ([] : List PE), ((upto (Int.toNat n)))⟩ : PK))]) := Fr.pkclose (pre := []) (ts := []) fr
          exact q _ (⟨dx_slf, p_12, l_15, ([] : List PE), ((upto (Int.toNat n)))⟩ : PK) (by rfl) (by rfl)  fr
    · intro h5
      exfalso
      cases h5
def sp_are_marks (K : PySem.W.Frag) : Sp := fun vs H Q _ => ∃ (a_marks : Addr) (marks : List Bool), vs = [V.ref a_marks] ∧ H a_marks = some (.lst (List.map V.bl marks)) ∧ (marks.length ≤ 1000) ∧ (∀ (H1 : Hp) (res : Bool), (res = (decide (1 ≤ marks.length) && decide (marks.length ≤ 400))) → Same H H1 → Q (V.bl res) H1)
theorem sc_are_marks : FnScope ["marks", "mark"] ["marks"] (defScope s_are_marks) := ⟨rfl, rfl, rfl, by decide +kernel, rfl, by decide +kernel, by decide +kernel⟩
theorem ok_are_marks (T : Txt K mg) : FnOk P w K mg base CX0 1 T.f_are_marks T.fd_are_marks ["marks"] (sp_are_marks K) := by
  refine T.F_are_marks.ok sc_are_marks (fun vs H Q E h => ?_) (fun cdv A outer s H vs Q E hr h => ?_)
  · obtain ⟨a_marks, marks, rfl, _⟩ := h; rfl
  · obtain ⟨a_marks, marks, rfl, h_marks, pre0, q⟩ := h
    have fr := Fr.nil H
    refine ⟨_, (pss_cons (ps_if (PW.pt (pw_or (pt_cmpR op_ltS (pe_callB (show CallR _ _ (rLenL K) from call_lenL) (by rfl) T.m_len (by decide +kernel) (pa_cons (pv 0) pa_nil)) pe_int (nomark _)) (pw_or1 (pt_cmpR op_gtS (pe_callB (show CallR _ _ (rLenL K) from call_lenL) (by rfl) T.m_len (by decide +kernel) (pa_cons (pv 0) pa_nil)) (pe_glob rfl T.c_HEAPS T.r_HEAPS) (nomark _))))) (pss_one (ps_ret pe_bl)) pss_nil)
          (pss_cons (ps_for PassesOwn.never rfl (pi_list (pv 0)) (pg_name (i := 1) sc_are_marks.nd rfl (Or.inl rfl)) (pss_one (ps_if (pt_not (pt_valS (pe_callB (show CallR _ _ (rIsi K) from call_isi) (by rfl) T.m_isinstance (by decide +kernel) (pa_cons (pv 1) (pa_cons (pe_bltn (v := .ty "bool") (by rfl) T.m_bool (by decide +kernel) rfl) pa_nil))))) (pss_one (ps_ret pe_bl)) pss_nil)))
          (pss_one (ps_ret pe_bl)))), ?_⟩
    refine ⟨_, rfl, _, _, _, rfl, (SqL.of (fr.same _ _ h_marks)), (List.length_map _), _, _, rfl, rfl, ?_, ?_⟩
    · intro h1
      refine ⟨_, rfl, ?_⟩
      refine iteT ?_
      refine iteT ?_
      exact q _ false (by first | (rw [eq_comm, Bool.and_eq_true, decide_eq_true_eq, decide_eq_true_eq]; omega) | (rw [eq_comm, Bool.and_eq_false_iff, decide_eq_false_iff_not, decide_eq_false_iff_not]; omega)) fr.same
    · intro h1
      refine ⟨_, rfl, ?_⟩
      refine iteF ?_
      refine ⟨_, rfl, _, _, _, rfl, (SqL.of (fr.same _ _ h_marks)), (List.length_map _), _, _, rfl, rfl, ?_, ?_⟩
      · intro h2
        refine ⟨_, rfl, ?_⟩
        refine iteT ?_
        exact q _ false (by first | (rw [eq_comm, Bool.and_eq_true, decide_eq_true_eq, decide_eq_true_eq]; omega) | (rw [eq_comm, Bool.and_eq_false_iff, decide_eq_false_iff_not, decide_eq_false_iff_not]; omega)) fr.same
      · intro h2
        refine ⟨_, rfl, ?_⟩
        refine iteF ?_
        refine ⟨_, rfl, _, rfl, ⟨_, (SqL.of (fr.same _ _ h_marks))⟩, ?_⟩
        refine for_it (walkL V.bl marks) (fun (i : Nat) σ H1 => ∃ (y_3 : Option V), σ = [some (V.ref a_marks), y_3] ∧ Fr H H1 []) ?_ ?_ ?_ ?_
        · refine ⟨_, rfl, fr⟩
        · rintro i σ H1 hi ⟨y_3, rfl, fr⟩
          exact (fr.same _ _ h_marks)
        · rintro i_4 x_6 s_9 H_7 H_8 hi_5 ⟨y_3, rfl, fr⟩ ⟨rfl, y_10, hy_11, rfl⟩
          refine ⟨_, rfl, _, _, _, _, _, rfl, (ClsV.ty _), (.base (.bl _)), (kit_ty (r := true) (by decide +kernel)), _, rfl, fun _ => ?_, (fun h => nomatch h)⟩
          refine iteF ?_
          refine ⟨_, rfl, fr⟩
        rintro s_13 H_12 ⟨y_3, rfl, fr⟩
        exact q _ true (by first | (rw [eq_comm, Bool.and_eq_true, decide_eq_true_eq, decide_eq_true_eq]; omega) | (rw [eq_comm, Bool.and_eq_false_iff, decide_eq_false_iff_not, decide_eq_false_iff_not]; omega)) fr.same
def sp_is_word (K : PySem.W.Frag) : Sp := fun vs H Q _ => ∃ (a_marks : Addr) (marks : List Bool) (a_word : Addr) (word : List V) (n : Int), vs = [V.ref a_marks, V.ref a_word, V.int n] ∧ H a_marks = some (.lst (List.map V.bl marks)) ∧ H a_word = some (.lst word) ∧ (Sca word) ∧ (word.length ≤ 1000) ∧ (∀ (H1 : Hp) (res : Bool), (res = isWordV marks.length word n) → Same H H1 → Q (V.bl res) H1)
theorem sc_is_word : FnScope ["marks", "word", "n", "heap"] ["marks", "word", "n"] (defScope s_is_word) := ⟨rfl, rfl, rfl, by decide +kernel, rfl, by decide +kernel, by decide +kernel⟩
theorem ok_is_word (T : Txt K mg) : FnOk P w K mg base CX0 2 T.f_is_word T.fd_is_word ["marks", "word", "n"] (sp_is_word K) := by
  refine T.F_is_word.ok sc_is_word (fun vs H Q E h => ?_) (fun cdv A outer s H vs Q E hr h => ?_)
  · obtain ⟨a_marks, marks, a_word, word, n, rfl, _⟩ := h; rfl
  · obtain ⟨a_marks, marks, a_word, word, n, rfl, h_marks, h_word, pre0, pre1, q⟩ := h
    have fr := Fr.nil H
    refine ⟨_, (pss_cons (ps_if (pt_cmpR op_neS (pe_callB (show CallR _ _ (rLenL K) from call_lenL) (by rfl) T.m_len (by decide +kernel) (pa_cons (pv 1) pa_nil)) (pv 2) (nomark _)) (pss_one (ps_ret pe_bl)) pss_nil)
          (pss_one (ps_ret (pe_callB (show CallR _ _ (rAll K) from cr_all rfl) (by rfl) T.m_all (by decide +kernel) (pa_cons (pe_lc (own := [("heap", 3)]) (g := gName 3) (tt := tYes) rfl sc_is_word.nd (pi_list (pv 1)) (blkOk_by (N := ["marks", "word", "n", "heap"]) (sc := (defScope s_is_word)) (by decide +kernel)) (fun _ _ _ _ _ => pg_name (i := 3) sc_is_word.nd rfl (Or.inl rfl)) (fun _ _ _ _ _ => pts_nil) (fun _ _ _ _ _ => (pe_and (pe_splS (pe_call (ok_is_whole T) (hr.mono (by decide)) (by rfl) T.g_is_whole T.F_is_whole.kp T.b_is_whole .nil pass0 (pa_cons (pv 3) pa_nil))) (pe_one (pe_chain op_leS op_ltS pe_int (pv 3) (pe_callB (show CallR _ _ (rLenL K) from call_lenL) (by rfl) T.m_len (by decide +kernel) (pa_cons (pv 0) pa_nil))))))) pa_nil))))), ?_⟩
    refine ⟨_, rfl, _, _, _, rfl, (SqL.of (fr.same _ _ h_word)), rfl, _, rfl, _, _, rfl, rfl, ?_, ?_⟩
    · intro h1
      refine ⟨_, rfl, ?_⟩
      refine iteT ?_
      exact q _ false (by first | (simp_all [isWordV]; done) | (simp_all [isWordV]; exact (List.all_map ..).symm)) fr.same
    · intro h1
      refine ⟨_, rfl, ?_⟩
      refine iteF ?_
      refine ⟨_, rfl, _, rfl, ⟨_, (SqL.of (fr.same _ _ h_word))⟩, ?_⟩
      intro D_2 nD_3
      refine lc_it (walkV word) (fun (i : Nat) H1 => Fr H H1 [(D_2, (.lst (List.map V.bl ((List.map (fun y : V => wordPart marks.length y) (List.take i word)))) : HO))]) (fr.new nD_3) (fun i H1 hi fr => (fr.same _ _ h_word)) ?_ ?_
      · rintro i_5 x_9 H_7 H_8 hi_6 fr ⟨rfl, hy_11⟩
        refine ⟨rfl, ?_⟩
        refine ⟨_, rfl, x_9, rfl, ?_, fun H_12 is_whole_13 hp_15 sm_14 => ?_⟩
        · exact pre0 _ (List.mem_of_getElem? (by assumption))
        have fr : Fr H _ [(D_2, (.lst (List.map V.bl ((List.map (fun y : V => wordPart marks.length y) (List.take i_5 word)))) : HO))] := fr.call sm_14
        subst hp_15
        refine ⟨_, rfl, ?_, ?_⟩
        · intro h16
          obtain ⟨z_17, ez_18⟩ := wholeV_int h16
          subst ez_18
          refine ⟨_, rfl, ?_⟩
          refine iteT ?_
          refine ⟨_, rfl, _, _, rfl, rfl, ?_, ?_⟩
          · intro h19
            refine ⟨_, rfl, ?_⟩
            refine iteT ?_
            refine ⟨_, rfl, _, _, _, rfl, (SqL.of (fr.same _ _ h_marks)), (List.length_map _), _, _, rfl, rfl, ?_, ?_⟩
            · intro h20
              refine ⟨_, (Fr.atk fr 0 rfl), ?_, ?_⟩
              · walk_at "csize"
              exact (Fr.wr fr).cast (lc_lx hy_11 (by first | exact wp_no (by assumption) | exact wp_f1 (by assumption) | exact wp_f2 (by assumption) | exact wp_t (by assumption) (by assumption)))
            · intro h20
              refine ⟨_, (Fr.atk fr 0 rfl), ?_, ?_⟩
              · walk_at "csize"
              exact (Fr.wr fr).cast (lc_lx hy_11 (by first | exact wp_no (by assumption) | exact wp_f1 (by assumption) | exact wp_f2 (by assumption) | exact wp_t (by assumption) (by assumption)))
          · intro h19
            refine ⟨_, rfl, ?_⟩
            refine iteF ?_
            refine ⟨_, (Fr.atk fr 0 rfl), ?_, ?_⟩
            · walk_at "csize"
            exact (Fr.wr fr).cast (lc_lx hy_11 (by first | exact wp_no (by assumption) | exact wp_f1 (by assumption) | exact wp_f2 (by assumption) | exact wp_t (by assumption) (by assumption)))
        · intro h16
          refine ⟨_, rfl, ?_⟩
          refine iteF ?_
          refine ⟨_, (Fr.atk fr 0 rfl), ?_, ?_⟩
          · walk_at "csize"
          exact (Fr.wr fr).cast (lc_lx hy_11 (by first | exact wp_no (by assumption) | exact wp_f1 (by assumption) | exact wp_f2 (by assumption) | exact wp_t (by assumption) (by assumption)))
      intro H_21 fr
      have fr : Fr H _ [(D_2, (.lst (List.map V.bl ((List.map (fun y : V => wordPart marks.length y) word))) : HO))] := fr.cast (by rw [List.take_length])
      refine ⟨_, _, rfl, (SqL.of fr.at0), ?_⟩
      exact q _ ((List.all ((List.map (fun y : V => wordPart marks.length y) word)) id)) (by first | (simp_all [isWordV]; done) | (simp_all [isWordV]; exact (List.all_map ..).symm)) fr.same
def sp_must_be_word (K : PySem.W.Frag) : Sp := fun vs H Q _ => ∃ (a_marks : Addr) (marks : List Bool) (a_word : Addr) (word : List V) (n : Int), vs = [V.ref a_marks, V.ref a_word, V.int n] ∧ H a_marks = some (.lst (List.map V.bl marks)) ∧ H a_word = some (.lst word) ∧ (Sca word) ∧ (word.length ≤ 1000) ∧ (isWordV marks.length word n = true) ∧ (∀ (H1 : Hp), Same H H1 → Q V.non H1)
theorem sc_must_be_word : FnScope ["marks", "word", "n"] ["marks", "word", "n"] (defScope s_must_be_word) := ⟨rfl, rfl, rfl, by decide +kernel, rfl, by decide +kernel, by decide +kernel⟩
theorem ok_must_be_word (T : Txt K mg) : FnOk P w K mg base CX0 3 T.f_must_be_word T.fd_must_be_word ["marks", "word", "n"] (sp_must_be_word K) := by
  refine T.F_must_be_word.ok sc_must_be_word (fun vs H Q E h => ?_) (fun cdv A outer s H vs Q E hr h => ?_)
  · obtain ⟨a_marks, marks, a_word, word, n, rfl, _⟩ := h; rfl
  · obtain ⟨a_marks, marks, a_word, word, n, rfl, h_marks, h_word, pre0, pre1, pre2, q⟩ := h
    have fr := Fr.nil H
    refine ⟨_, (pss_one (ps_if (pt_not (pt_valS (pe_call (ok_is_word T) (hr.mono (by decide)) (by rfl) T.g_is_word T.F_is_word.kp T.b_is_word .nil pass0 (pa_cons (pv 0) (pa_cons (pv 1) (pa_cons (pv 2) pa_nil)))))) pss_never pss_nil)), ?_⟩
    refine ⟨_, rfl, _, rfl, _, rfl, a_marks, marks, a_word, word, n, rfl, (fr.same _ _ h_marks), (fr.same _ _ h_word), ?_, ?_, fun H_1 is_word_2 hp_4 sm_3 => ?_⟩
    · assumption
    · assumption
    have fr : Fr H _ [] := fr.call sm_3
    subst hp_4
    refine ⟨_, rfl, ?_, ?_⟩
    · intro h5
      refine iteF ?_
      exact q _  fr.same
    · intro h5
      exfalso
      rw [pre2] at h5; cases h5
def sp_sizes (K : PySem.W.Frag) : Sp := fun vs H Q _ => ∃ (a_marks : Addr) (marks : List Bool) (a_word : Addr) (word : List Int), vs = [V.ref a_marks, V.ref a_word] ∧ H a_marks = some (.lst (List.map V.bl marks)) ∧ H a_word = some (.lst (List.map V.int word)) ∧ (IsW marks.length word) ∧ (marks.length ≤ 400 ∧ word.length ≤ 1000) ∧ (∀ (H1 : Hp) (rA : Addr) (res : List Int), (res = sizesI marks.length word) → Same H H1 → H rA = none → H1 rA = some (.lst (List.map V.int res)) → Q (V.ref rA) H1)
theorem sc_sizes : FnScope ["marks", "word", "found", "heap", "mark"] ["marks", "word"] (defScope s_sizes) := ⟨rfl, rfl, rfl, by decide +kernel, rfl, by decide +kernel, by decide +kernel⟩
theorem ok_sizes (T : Txt K mg) : FnOk P w K mg base CX0 1 T.f_sizes T.fd_sizes ["marks", "word"] (sp_sizes K) := by
  refine T.F_sizes.ok sc_sizes (fun vs H Q E h => ?_) (fun cdv A outer s H vs Q E hr h => ?_)
  · obtain ⟨a_marks, marks, a_word, word, rfl, _⟩ := h; rfl
  · obtain ⟨a_marks, marks, a_word, word, rfl, h_marks, h_word, pre0, pre1, q⟩ := h
    have fr := Fr.nil H
    refine ⟨_, (pss_cons (ps_setLc (i := 2) (own := [("mark", 4)]) (g := gName 4) (tt := tYes) rfl sc_sizes.nd rfl rfl (sw_true rfl rfl rfl (by decide +kernel)) (pi_list (pv 0)) (blkOk_by (N := ["marks", "word", "found", "heap", "mark"]) (sc := (defScope s_sizes)) (by decide +kernel)) (fun _ _ _ _ _ => pg_name (i := 4) sc_sizes.nd rfl (Or.inl rfl)) (fun _ _ _ _ _ => pts_nil) (fun _ _ _ _ _ => pe_int))
          (pss_cons (ps_for PassesOwn.never rfl (pi_list (pv 1)) (pg_name (i := 3) sc_sizes.nd rfl (Or.inl rfl)) (pss_one (ps_augS (pv 2) (pv 3) get_list pe_int ip_add set_list)))
          (pss_one (ps_ret (pv 2))))), ?_⟩
    refine ⟨_, rfl, _, rfl, ⟨_, (SqL.of (fr.same _ _ h_marks))⟩, ?_⟩
    intro D_1 nD_2
    refine lc_it (walkL V.bl marks) (fun (i : Nat) H1 => Fr H H1 [(D_1, (.lst (List.map V.int ((List.map (fun y : Bool => 0) (List.take i marks)))) : HO))]) (fr.new nD_2) (fun i H1 hi fr => (fr.same _ _ h_marks)) ?_ ?_
    · rintro i_4 x_8 H_6 H_7 hi_5 fr ⟨rfl, y_9, hy_10, rfl⟩
      refine ⟨rfl, ?_⟩
      refine ⟨_, (Fr.atk fr 0 rfl), ?_, ?_⟩
      · walk_at "csize"
      exact (Fr.wr fr).cast (lc_l hy_10)
    intro H_11 fr
    have fr : Fr H _ [(D_1, (.lst (List.map V.int ((List.map (fun y : Bool => 0) marks))) : HO))] := fr.cast (by rw [List.take_length])
    refine ⟨_, rfl, _, rfl, ⟨_, (SqL.of (fr.same _ _ h_word))⟩, ?_⟩
    refine for_it (walkL V.int word) (fun (i : Nat) σ H1 => ∃ (found_12 : List Int) (y_13 : Option V), σ = [some (V.ref a_marks), some (V.ref a_word), some (V.ref D_1), y_13, none] ∧ Fr H H1 [(D_1, (.lst (List.map V.int found_12) : HO))] ∧ (found_12 = sizesI marks.length (word.take i))) ?_ ?_ ?_ ?_
    · refine ⟨(List.map (fun y : Bool => 0) marks), _, rfl, fr, ?_⟩
      · rw [List.take_zero, sizesI_nil]; exact map_c _ _
    · rintro i σ H1 hi ⟨found_12, y_13, rfl, fr, hf⟩
      exact (fr.same _ _ h_word)
    · rintro i_14 x_16 s_19 H_17 H_18 hi_15 ⟨found_12, y_13, rfl, fr, hf⟩ ⟨rfl, y_20, hy_21, rfl⟩
      have hb := pre0.at hy_21
      have hfl : found_12.length = marks.length := by rw [hf]; simp
      refine ⟨_, rfl, _, rfl, _, _, _, _, rfl, rfl, (SqL.of fr.at0), (atD 0 ?_ ?_), _, _, rfl, rfl, _, _, _, _, rfl, rfl, fr.at0, (ixDm ?_ ?_), ?_⟩
      · walk_at "side"
      · walk_at "side"
      · walk_at "side"
      · walk_at "side"
      have fr : Fr H _ [(D_1, (.lst (List.map V.int ((List.set found_12 (Int.toNat y_20) ((List.getD found_12 (Int.toNat y_20) 0) + 1)))) : HO))] := Fr.wrk fr 0 rfl (lst_set _ _ _ _)
      refine ⟨(List.set found_12 (Int.toNat y_20) ((List.getD found_12 (Int.toNat y_20) 0) + 1)), _, rfl, fr, ?_⟩
      · rw [hf]; exact sizesI_next pre0 hy_21
    rintro s_23 H_22 ⟨found_12, y_13, rfl, fr, hf⟩
    rw [List.take_length] at hf
    refine ⟨_, rfl, ?_⟩
    exact q _ _ found_12 (by walk_at "post") fr.same fr.n0 fr.at0
def sp_numbers_in (K : PySem.W.Frag) : Sp := fun vs H Q _ => ∃ (a_marks : Addr) (marks : List Bool) (a_word : Addr) (word : List Int), vs = [V.ref a_marks, V.ref a_word] ∧ H a_marks = some (.lst (List.map V.bl marks)) ∧ H a_word = some (.lst (List.map V.int word)) ∧ (IsW marks.length word) ∧ (marks.length ≤ 400 ∧ word.length ≤ 1000) ∧ (∀ (H1 : Hp) (rA : Addr) (res : List Int), (res = numI marks word) → Same H H1 → H rA = none → H1 rA = some (.lst (List.map V.int res)) → Q (V.ref rA) H1)
theorem sc_numbers_in : FnScope ["marks", "word", "tops", "start", "heap", "size", "found"] ["marks", "word"] (defScope s_numbers_in) := ⟨rfl, rfl, rfl, by decide +kernel, rfl, by decide +kernel, by decide +kernel⟩
theorem ok_numbers_in (T : Txt K mg) : FnOk P w K mg base CX0 2 T.f_numbers_in T.fd_numbers_in ["marks", "word"] (sp_numbers_in K) := by
  refine T.F_numbers_in.ok sc_numbers_in (fun vs H Q E h => ?_) (fun cdv A outer s H vs Q E hr h => ?_)
  · obtain ⟨a_marks, marks, a_word, word, rfl, _⟩ := h; rfl
  · obtain ⟨a_marks, marks, a_word, word, rfl, h_marks, h_word, pre0, pre1, q⟩ := h
    have fr := Fr.nil H
    refine ⟨_, (pss_cons (ps_set (i := 2) sc_numbers_in.nd rfl (Or.inl rfl) (pe_lst pa_nil))
          (pss_cons (ps_set (i := 3) sc_numbers_in.nd rfl (Or.inl rfl) pe_int)
          (pss_cons (ps_for PassesOwn.never rfl (pi_enum (by rfl) T.m_enumerate (pa_cons (pe_call (ok_sizes T) (hr.mono (by decide)) (by rfl) T.g_sizes T.F_sizes.kp T.b_sizes .nil pass0 (pa_cons (pv 0) (pa_cons (pv 1) pa_nil))) pa_nil)) (pg_tup rfl (pgs_cons (pg_name (i := 4) sc_numbers_in.nd rfl (Or.inl rfl)) (pgs_cons (pg_name (i := 5) sc_numbers_in.nd rfl (Or.inl rfl)) pgs_nil))) (pss_cons (ps_expr (pe_bmK (K := K) (pe_bm PySem.F.plainAttrs_list PySem.F.slot_list_append PySem.F.type_list_append mt_append (pv 2) (pa_cons (pe_ifExp (pt_valS (pe_ix (show IxR _ (rIxL K) from ix_list) (pv 0) (pv 4) (fun _ _ => rfl))) (pe_op op_sub (pe_op op_add (pv 3) (pv 5)) pe_int) (pv 3)) pa_nil))))
          (pss_one (ps_aug (i := 3) sc_numbers_in.nd rfl (Or.inl rfl) (pv 5) ip_add))))
          (pss_cons (ps_set (i := 6) sc_numbers_in.nd rfl (Or.inl rfl) (pe_lst pa_nil))
          (pss_cons (ps_for PassesOwn.never rfl (pi_list (pv 1)) (pg_name (i := 4) sc_numbers_in.nd rfl (Or.inl rfl)) (pss_cons (ps_expr (pe_bmK (K := K) (pe_bm PySem.F.plainAttrs_list PySem.F.slot_list_append PySem.F.type_list_append mt_append (pv 6) (pa_cons (pe_ix (show IxR _ (rIxL K) from ix_list) (pv 2) (pv 4) (fun _ _ => rfl)) pa_nil))))
          (pss_one (ps_if (pt_valS (pe_ix (show IxR _ (rIxL K) from ix_list) (pv 0) (pv 4) (fun _ _ => rfl))) (pss_one (ps_augS (pv 2) (pv 4) get_list pe_int ip_sub set_list)) (pss_one (ps_augS (pv 2) (pv 4) get_list pe_int ip_add set_list))))))
          (pss_one (ps_ret (pv 6)))))))), ?_⟩
    refine ⟨(Evl.sz_of (show 0 ≤ 100000 by decide)), fun l_1 nl_2 => ?_⟩
    have fr : Fr H _ [(l_1, (.lst [] : HO))] := fr.new nl_2
    have fr : Fr H _ [(l_1, (.lst (List.map V.int ([])) : HO))] := fr
    refine ⟨_, rfl, _, rfl, a_marks, marks, a_word, word, rfl, (fr.same _ _ h_marks), (fr.same _ _ h_word), ?_, ?_, fun H_3 p_7 sizes_4 hp_6 sm_5 np_8 ep_9 => ?_⟩
    · walk_at "side"
    · walk_at "side"
    have fr : Fr H _ [(p_7, (.lst (List.map V.int sizes_4) : HO)), (l_1, (.lst (List.map V.int ([])) : HO))] := fr.cnew sm_5 np_8 ep_9
    subst hp_6
    have hszl := sizesI_length marks.length word
    refine ⟨_, _, rfl, (SqL.of fr.at0), ?_⟩
    refine for_it (walkE V.int (((sizesI marks.length word)))) (fun (i : Nat) σ H1 => ∃ (tops_10 : List Int) (start_11 : Int) (y_12 : Option V) (y_13 : Option V), σ = [some (V.ref a_marks), some (V.ref a_word), some (V.ref l_1), some (V.int start_11), y_12, y_13, none] ∧ Fr H H1 [(p_7, (.lst (List.map V.int (((sizesI marks.length word)))) : HO)), (l_1, (.lst (List.map V.int tops_10) : HO))] ∧ (tops_10 = topsTo marks word i 0) ∧ (start_11 = (startI word i : Int))) ?_ ?_ ?_ ?_
    · refine ⟨[], 0, _, _, rfl, fr, ?_, ?_⟩
      · rfl
      · rfl
    · rintro i σ H1 hi ⟨tops_10, start_11, y_12, y_13, rfl, fr, ht, hs⟩
      exact fr.at0
    · rintro i_14 x_16 s_19 H_17 H_18 hi_15 ⟨tops_10, start_11, y_12, y_13, rfl, fr, ht, hs⟩ ⟨T_20, y_21, rfl, nT_23, rfl, hy_24⟩
      have fr := fr.tmp (o := .tup [(V.int ((i_14 : Int))), (V.int y_21)]) nT_23
      refine ⟨_, _, rfl, (SqT.of upd_same), rfl, _, _, rfl, _, _, rfl, rfl, ?_⟩
      have hsz := size_at hy_24
      have htl : tops_10.length = i_14 := by rw [ht]; simp [topsTo]
      refine ⟨_, rfl, (.inl ⟨rfl, _, (SqL.of fr.at1)⟩), _, rfl, _, rfl, _, _, _, _, rfl, rfl, (SqL.of (fr.same _ _ h_marks)), (atD false ?_ ?_), _, rfl, ?_, ?_⟩
      · walk_at "side"
      · walk_at "side"
      · intro h26
        refine iteT ?_
        refine ⟨_, rfl, _, rfl, _, _, rfl, rfl, _, _, rfl, rfl, _, _, _, rfl, rfl, fr.at1, ?_, ?_⟩
        · walk_at "size"
        have fr : Fr H _ [(p_7, (.lst (List.map V.int (((sizesI marks.length word)))) : HO)), (l_1, (.lst (List.map V.int ((tops_10 ++ [((start_11 + y_21) - 1)]))) : HO))] := Fr.wrk fr 1 rfl (lst_app V.int _ _)
        refine ⟨_, rfl, _, rfl, _, _, rfl, rfl, ?_⟩
        refine ⟨(tops_10 ++ [((start_11 + y_21) - 1)]), (start_11 + y_21), _, _, rfl, fr, ?_, ?_⟩
        · rw [ht]; exact topsTo_next _ _ _ (by first | (rw [topI_t (by assumption), hs, hsz]; omega) | (rw [topI_f (by assumption), hs]; omega))
        · rw [hs, hsz]; rfl
      · intro h26
        refine iteF ?_
        refine ⟨_, rfl, _, _, _, rfl, rfl, fr.at1, ?_, ?_⟩
        · walk_at "size"
        have fr : Fr H _ [(p_7, (.lst (List.map V.int (((sizesI marks.length word)))) : HO)), (l_1, (.lst (List.map V.int ((tops_10 ++ [start_11]))) : HO))] := Fr.wrk fr 1 rfl (lst_app V.int _ _)
        refine ⟨_, rfl, _, rfl, _, _, rfl, rfl, ?_⟩
        refine ⟨(tops_10 ++ [start_11]), (start_11 + y_21), _, _, rfl, fr, ?_, ?_⟩
        · rw [ht]; exact topsTo_next _ _ _ (by first | (rw [topI_t (by assumption), hs, hsz]; omega) | (rw [topI_f (by assumption), hs]; omega))
        · rw [hs, hsz]; rfl
    rintro s_28 H_27 ⟨tops_10, start_11, y_12, y_13, rfl, fr, ht, hs⟩
    rw [sizesI_length] at ht
    have fr : Fr H _ [(l_1, (.lst (List.map V.int tops_10) : HO))] := Fr.dk fr 0
    refine ⟨(Evl.sz_of (show 0 ≤ 100000 by decide)), fun l_29 nl_30 => ?_⟩
    have fr : Fr H _ [(l_29, (.lst [] : HO)), (l_1, (.lst (List.map V.int tops_10) : HO))] := fr.new nl_30
    have fr : Fr H _ [(l_29, (.lst (List.map V.int ([])) : HO)), (l_1, (.lst (List.map V.int tops_10) : HO))] := fr
    refine ⟨_, rfl, _, rfl, ⟨_, (SqL.of (fr.same _ _ h_word))⟩, ?_⟩
    refine for_it (walkL V.int word) (fun (i : Nat) σ H1 => ∃ (tops_31 : List Int) (y_32 : Option V) (found_33 : List Int), σ = [some (V.ref a_marks), some (V.ref a_word), some (V.ref l_1), some (V.int start_11), y_32, y_13, some (V.ref l_29)] ∧ Fr H H1 [(l_29, (.lst (List.map V.int found_33) : HO)), (l_1, (.lst (List.map V.int tops_31) : HO))] ∧ (tops_31 = topsTo marks word marks.length i) ∧ (found_33 = numTo marks word i)) ?_ ?_ ?_ ?_
    · refine ⟨tops_10, _, [], rfl, fr, ?_, ?_⟩
      · exact ht
      · rfl
    · rintro i σ H1 hi ⟨tops_31, y_32, found_33, rfl, fr, ht, hf⟩
      exact (fr.same _ _ h_word)
    · rintro i_34 x_36 s_39 H_37 H_38 hi_35 ⟨tops_31, y_32, found_33, rfl, fr, ht, hf⟩ ⟨rfl, y_40, hy_41, rfl⟩
      have hb := pre0.at hy_41
      have htl : tops_31.length = marks.length := by rw [ht]; simp [topsTo]
      have hfl : found_33.length = i_34 := by rw [hf]; simp [numTo]
      refine ⟨_, rfl, (.inl ⟨rfl, _, (SqL.of fr.at0)⟩), _, rfl, _, rfl, _, _, _, _, rfl, rfl, (SqL.of fr.at1), (atD 0 ?_ ?_), _, _, _, rfl, rfl, fr.at0, ?_, ?_⟩
      · walk_at "side"
      · walk_at "side"
      · walk_at "size"
      have fr : Fr H _ [(l_29, (.lst (List.map V.int ((found_33 ++ [(List.getD tops_31 (Int.toNat y_40) 0)]))) : HO)), (l_1, (.lst (List.map V.int tops_31) : HO))] := Fr.wrk fr 0 rfl (lst_app V.int _ _)
      refine ⟨_, rfl, _, rfl, _, _, _, _, rfl, rfl, (SqL.of (fr.same _ _ h_marks)), (atD false ?_ ?_), _, rfl, ?_, ?_⟩
      · walk_at "side"
      · walk_at "side"
      · intro h42
        refine iteT ?_
        refine ⟨_, rfl, _, rfl, _, _, _, _, rfl, rfl, (SqL.of fr.at1), (atD 0 ?_ ?_), _, _, rfl, rfl, _, _, _, _, rfl, rfl, fr.at1, (ixDm ?_ ?_), ?_⟩
        · walk_at "side"
        · walk_at "side"
        · walk_at "side"
        · walk_at "side"
        have fr : Fr H _ [(l_29, (.lst (List.map V.int ((found_33 ++ [(List.getD tops_31 (Int.toNat y_40) 0)]))) : HO)), (l_1, (.lst (List.map V.int ((List.set tops_31 (Int.toNat y_40) ((List.getD tops_31 (Int.toNat y_40) 0) - 1)))) : HO))] := Fr.wrk fr 1 rfl (lst_set _ _ _ _)
        refine ⟨(List.set tops_31 (Int.toNat y_40) ((List.getD tops_31 (Int.toNat y_40) 0) - 1)), _, (found_33 ++ [(List.getD tops_31 (Int.toNat y_40) 0)]), rfl, fr, ?_, ?_⟩
        · rw [ht]; first | exact tops_t pre0 hy_41 (by assumption) | exact tops_f pre0 hy_41 (by assumption)
        · rw [hf, ht]; exact numTo_next pre0 hy_41
      · intro h42
        refine iteF ?_
        refine ⟨_, rfl, _, rfl, _, _, _, _, rfl, rfl, (SqL.of fr.at1), (atD 0 ?_ ?_), _, _, rfl, rfl, _, _, _, _, rfl, rfl, fr.at1, (ixDm ?_ ?_), ?_⟩
        · walk_at "side"
        · walk_at "side"
        · walk_at "side"
        · walk_at "side"
        have fr : Fr H _ [(l_29, (.lst (List.map V.int ((found_33 ++ [(List.getD tops_31 (Int.toNat y_40) 0)]))) : HO)), (l_1, (.lst (List.map V.int ((List.set tops_31 (Int.toNat y_40) ((List.getD tops_31 (Int.toNat y_40) 0) + 1)))) : HO))] := Fr.wrk fr 1 rfl (lst_set _ _ _ _)
        refine ⟨(List.set tops_31 (Int.toNat y_40) ((List.getD tops_31 (Int.toNat y_40) 0) + 1)), _, (found_33 ++ [(List.getD tops_31 (Int.toNat y_40) 0)]), rfl, fr, ?_, ?_⟩
        · rw [ht]; first | exact tops_t pre0 hy_41 (by assumption) | exact tops_f pre0 hy_41 (by assumption)
        · rw [hf, ht]; exact numTo_next pre0 hy_41
    rintro s_44 H_43 ⟨tops_31, y_32, found_33, rfl, fr, ht, hf⟩
    refine ⟨_, rfl, ?_⟩
    exact q _ _ found_33 (by rw [hf]; rfl) fr.same fr.n0 fr.at0
def sp_riffled (K : PySem.W.Frag) : Sp := fun vs H Q _ => ∃ (a_order : Addr) (order : List Int) (a_marks : Addr) (marks : List Bool) (a_word : Addr) (word : List Int), vs = [V.ref a_order, V.ref a_marks, V.ref a_word] ∧ H a_order = some (.lst (List.map V.int order)) ∧ H a_marks = some (.lst (List.map V.bl marks)) ∧ H a_word = some (.lst (List.map V.int word)) ∧ (IsW marks.length word) ∧ (word.length = order.length ∧ marks.length ≤ 400 ∧ order.length ≤ 60) ∧ (∀ (H1 : Hp) (rA : Addr) (res : List Int), (res = riffleI order marks word) → Same H H1 → H rA = none → H1 rA = some (.lst (List.map V.int res)) → Q (V.ref rA) H1)
theorem sc_riffled : FnScope ["order", "marks", "word", "place"] ["order", "marks", "word"] (defScope s_riffled) := ⟨rfl, rfl, rfl, by decide +kernel, rfl, by decide +kernel, by decide +kernel⟩
theorem ok_riffled (T : Txt K mg) : FnOk P w K mg base CX0 4 T.f_riffled T.fd_riffled ["order", "marks", "word"] (sp_riffled K) := by
  refine T.F_riffled.ok sc_riffled (fun vs H Q E h => ?_) (fun cdv A outer s H vs Q E hr h => ?_)
  · obtain ⟨a_order, order, a_marks, marks, a_word, word, rfl, _⟩ := h; rfl
  · obtain ⟨a_order, order, a_marks, marks, a_word, word, rfl, h_order, h_marks, h_word, pre0, pre1, q⟩ := h
    have fr := Fr.nil H
    refine ⟨_, (pss_cons (ps_expr (pe_call (ok_must_be_word T) (hr.mono (by decide)) (by rfl) T.g_must_be_word T.F_must_be_word.kp T.b_must_be_word .nil pass0 (pa_cons (pv 1) (pa_cons (pv 2) (pa_cons (pe_callB (show CallR _ _ (rLenL K) from call_lenL) (by rfl) T.m_len (by decide +kernel) (pa_cons (pv 0) pa_nil)) pa_nil)))))
          (pss_one (ps_ret (pe_lc (own := [("place", 3)]) (g := gName 3) (tt := tYes) rfl sc_riffled.nd (pi_list (pe_call (ok_numbers_in T) (hr.mono (by decide)) (by rfl) T.g_numbers_in T.F_numbers_in.kp T.b_numbers_in .nil pass0 (pa_cons (pv 1) (pa_cons (pv 2) pa_nil)))) (blkOk_by (N := ["order", "marks", "word", "place"]) (sc := (defScope s_riffled)) (by decide +kernel)) (fun _ _ _ _ _ => pg_name (i := 3) sc_riffled.nd rfl (Or.inl rfl)) (fun _ _ _ _ _ => pts_nil) (fun _ _ _ _ _ => (pe_ix (show IxR _ (rIxL K) from ix_list) (pv 0) (pv 3) (fun _ _ => rfl))))))), ?_⟩
    refine ⟨_, rfl, _, rfl, _, rfl, _, _, _, rfl, (SqL.of (fr.same _ _ h_order)), (List.length_map _), a_marks, marks, a_word, ((List.map V.int word)), ((order.length : Int)), rfl, (fr.same _ _ h_marks), (fr.same _ _ h_word), ?_, ?_, ?_, fun H_1  sm_3 => ?_⟩
    · exact Sca.ints _
    · simp; omega
    · exact isWordV_ints pre0 (by omega)
    have fr : Fr H _ [] := fr.call sm_3
    refine ⟨_, rfl, _, rfl, a_marks, marks, a_word, word, rfl, (fr.same _ _ h_marks), (fr.same _ _ h_word), ?_, ?_, fun H_4 p_8 numbers_in_5 hp_7 sm_6 np_9 ep_10 => ?_⟩
    · exact pre0
    · omega
    have fr : Fr H _ [(p_8, (.lst (List.map V.int numbers_in_5) : HO))] := fr.cnew sm_6 np_9 ep_10
    subst hp_7
    have hnl := numI_length marks word
    refine ⟨_, rfl, ⟨_, (SqL.of fr.at0)⟩, ?_⟩
    intro D_11 nD_12
    refine lc_it (walkL V.int (((numI marks word)))) (fun (i : Nat) H1 => Fr H H1 [(D_11, (.lst (List.map V.int ((List.map (fun y : Int => (List.getD order (Int.toNat y) 0)) (List.take i (((numI marks word))))))) : HO)), (p_8, (.lst (List.map V.int (((numI marks word)))) : HO))]) (fr.new nD_12) (fun i H1 hi fr => fr.at1) ?_ ?_
    · rintro i_14 x_18 H_16 H_17 hi_15 fr ⟨rfl, y_19, hy_20, rfl⟩
      refine ⟨rfl, ?_⟩
      have hb := (isOrd_numI marks pre0).bd hy_20; rw [numI_length] at hb
      refine ⟨_, rfl, _, rfl, _, _, _, _, rfl, rfl, (SqL.of (fr.same _ _ h_order)), (atD 0 ?_ ?_), _, (Fr.atk fr 0 rfl), ?_, ?_⟩
      · walk_at "side"
      · walk_at "side"
      · walk_at "csize"
      exact (Fr.wr fr).cast (lc_l hy_20)
    intro H_21 fr
    have fr : Fr H _ [(D_11, (.lst (List.map V.int ((List.map (fun y : Int => (List.getD order (Int.toNat y) 0)) ((numI marks word))))) : HO)), (p_8, (.lst (List.map V.int (((numI marks word)))) : HO))] := fr.cast (by rw [List.take_length])
    exact q _ _ ((List.map (fun y : Int => (List.getD order (Int.toNat y) 0)) ((numI marks word)))) (by rfl) fr.same fr.n0 fr.at0
def sp_Pack_riffle {K : PySem.W.Frag} {mg : Str → Option Value} (T : Txt K mg) : Sp := fun vs H Q _ => ∃ (a_slf : Addr) (slf : PK) (a_marks : Addr) (marks : List Bool) (a_word : Addr) (word : List Int) (Hm : Hp), vs = [V.ref a_slf, V.ref a_marks, V.ref a_word] ∧ Lent Hm H ([] ++ List.flatten [pkOwn T.C_Pack a_slf slf]) ∧ Hm a_marks = some (.lst (List.map V.bl marks)) ∧ Hm a_word = some (.lst (List.map V.int word)) ∧ (IsW marks.length word) ∧ (word.length = slf.order.length ∧ 1 ≤ marks.length ∧ marks.length ≤ 400 ∧ slf.order.length ≤ 60) ∧ (slf.past.length ≤ 1000) ∧ (∀ (H1 : Hp) (slf' : PK) (rA : Addr) (res : List Int), (slf'.order = riffleI slf.order marks word) → (slf'.past = slf.past ++ [(marks, word)]) → (res = riffleI slf.order marks word) → Fr Hm H1 ([(rA, (.lst (List.map V.int res) : HO))] ++ List.flatten [pkOwn T.C_Pack a_slf slf']) → Q (V.ref rA) H1)
theorem sc_Pack_riffle : FnScope ["self", "marks", "word"] ["self", "marks", "word"] (defScope s_Pack_riffle) := ⟨rfl, rfl, rfl, by decide +kernel, rfl, by decide +kernel, by decide +kernel⟩
theorem ok_Pack_riffle (T : Txt K mg) : FnOk P w K mg base CX0 5 T.f_Pack_riffle T.fd_Pack_riffle ["self", "marks", "word"] (sp_Pack_riffle T) := by
  refine T.F_Pack_riffle.ok sc_Pack_riffle (fun vs H Q E h => ?_) (fun cdv A outer s H vs Q E hr h => ?_)
  · obtain ⟨a_slf, slf, a_marks, marks, a_word, word, Hm, rfl, _⟩ := h; rfl
  · obtain ⟨a_slf, slf, a_marks, marks, a_word, word, Hm, rfl, hl, h_marks, h_word, pre0, pre1, pre2, q⟩ := h
    have fr : Fr Hm _ ([] ++ List.flatten [pkOwn T.C_Pack a_slf slf]) := hl.fr
    have fr : Fr Hm _ ([(a_slf, (.ins T.C_Pack slf.dx (pkF slf.a slf.b) : HO)), (slf.dx, (.own a_slf : HO)), (slf.a, (.lst (List.map V.int slf.order) : HO)), (slf.b, (.lst (List.map peRef slf.es) : HO))] ++ List.flatten [pesOwn slf.es]) := Fr.pkopen (pre := []) (ts := []) fr
    have hpl := pk_pl slf
    refine ⟨_, (pss_cons (ps_if (pt_not (pt_valS (pe_call (ok_are_marks T) (hr.mono (by decide)) (by rfl) T.g_are_marks T.F_are_marks.kp T.b_are_marks .nil pass0 (pa_cons (pv 1) pa_nil)))) pss_never pss_nil)
          (pss_cons (ps_fld (pv 0) (pe_call (ok_riffled T) (hr.mono (by decide)) (by rfl) T.g_riffled T.F_riffled.kp T.b_riffled .nil pass0 (pa_cons (pe_fld (pv 0) rfl) (pa_cons (pv 1) (pa_cons (pv 2) pa_nil)))) rfl)
          (pss_cons (ps_expr (pe_bmK (K := K) (pe_bm PySem.F.plainAttrs_list PySem.F.slot_list_append PySem.F.type_list_append mt_append (pe_fld (pv 0) rfl) (pa_cons (pe_tup (pa_cons (pe_callTy (show CallR _ _ (rListL K) from call_listL) (by rfl) T.m_list (by decide +kernel) (pa_cons (pv 1) pa_nil)) (pa_cons (pe_callTy (show CallR _ _ (rListL K) from call_listL) (by rfl) T.m_list (by decide +kernel) (pa_cons (pv 2) pa_nil)) pa_nil))) pa_nil))))
          (pss_one (ps_ret (pe_callTy (show CallR _ _ (rListL K) from call_listL) (by rfl) T.m_list (by decide +kernel) (pa_cons (pe_fld (pv 0) rfl) pa_nil))))))), ?_⟩
    refine ⟨_, rfl, a_marks, marks, rfl, (fr.same _ _ h_marks), ?_, fun H_1 are_marks_2 hp_4 sm_3 => ?_⟩
    · omega
    have fr : Fr Hm _ ([(a_slf, (.ins T.C_Pack slf.dx (pkF slf.a slf.b) : HO)), (slf.dx, (.own a_slf : HO)), (slf.a, (.lst (List.map V.int slf.order) : HO)), (slf.b, (.lst (List.map peRef slf.es) : HO))] ++ List.flatten [pesOwn slf.es]) := fr.call sm_3
    subst hp_4
    refine ⟨_, rfl, ?_, ?_⟩
    · intro h5
      refine iteF ?_
      refine ⟨_, rfl, _, _, _, _, _, rfl, fr.at0, T.cl_Pack, T.na_Pack_cards, (pkF_cards _ _), _, rfl, _, rfl, slf.a, slf.order, a_marks, marks, a_word, word, rfl, fr.at2, (fr.same _ _ h_marks), (fr.same _ _ h_word), ?_, ?_, fun H_6 p_10 riffled_7 hp_9 sm_8 np_11 ep_12 => ?_⟩
      · exact pre0
      · omega
      have fr : Fr Hm _ ([(p_10, (.lst (List.map V.int riffled_7) : HO)), (a_slf, (.ins T.C_Pack slf.dx (pkF slf.a slf.b) : HO)), (slf.dx, (.own a_slf : HO)), (slf.a, (.lst (List.map V.int slf.order) : HO)), (slf.b, (.lst (List.map peRef slf.es) : HO))] ++ List.flatten [pesOwn slf.es]) := fr.cnew sm_8 np_11 ep_12
      subst hp_9
      refine ⟨_, rfl, _, _, _, _, rfl, fr.at1, T.cl_Pack, T.na_Pack_cards, (pkF_len _ _), ?_⟩
      have fr : Fr Hm _ ([(p_10, (.lst (List.map V.int (((riffleI slf.order marks word)))) : HO)), (a_slf, (.ins T.C_Pack slf.dx (pkF p_10 slf.b) : HO)), (slf.dx, (.own a_slf : HO)), (slf.a, (.lst (List.map V.int slf.order) : HO)), (slf.b, (.lst (List.map peRef slf.es) : HO))] ++ List.flatten [pesOwn slf.es]) := Fr.wrk fr 1 rfl (congrArg (HO.ins T.C_Pack slf.dx) (pkF_put slf.a slf.b p_10))
      have fr : Fr Hm _ ([(p_10, (.lst (List.map V.int (((riffleI slf.order marks word)))) : HO)), (a_slf, (.ins T.C_Pack slf.dx (pkF p_10 slf.b) : HO)), (slf.dx, (.own a_slf : HO)), (slf.b, (.lst (List.map peRef slf.es) : HO))] ++ List.flatten [pesOwn slf.es]) := Fr.dk fr 3
      refine ⟨_, rfl, _, _, _, _, _, rfl, fr.at1, T.cl_Pack, T.na_Pack_past, (pkF_past _ _), (.inl ⟨rfl, _, (SqL.of fr.at3)⟩), _, rfl, _, _, rfl, (.inl (SqL.of (fr.same _ _ h_marks))), fun l_13 nl_14 => ?_⟩
      have fr : Fr Hm _ ([(l_13, (.lst (List.map V.bl marks) : HO)), (p_10, (.lst (List.map V.int (((riffleI slf.order marks word)))) : HO)), (a_slf, (.ins T.C_Pack slf.dx (pkF p_10 slf.b) : HO)), (slf.dx, (.own a_slf : HO)), (slf.b, (.lst (List.map peRef slf.es) : HO))] ++ List.flatten [pesOwn slf.es]) := fr.new nl_14
      refine ⟨_, rfl, _, _, rfl, (.inl (SqL.of (fr.same _ _ h_word))), fun l_15 nl_16 => ?_⟩
      have fr : Fr Hm _ ([(l_15, (.lst (List.map V.int word) : HO)), (l_13, (.lst (List.map V.bl marks) : HO)), (p_10, (.lst (List.map V.int (((riffleI slf.order marks word)))) : HO)), (a_slf, (.ins T.C_Pack slf.dx (pkF p_10 slf.b) : HO)), (slf.dx, (.own a_slf : HO)), (slf.b, (.lst (List.map peRef slf.es) : HO))] ++ List.flatten [pesOwn slf.es]) := fr.new nl_16
      refine ⟨(Evl.sz_of (show 2 ≤ 100000 by decide)), fun t_17 nt_18 => ?_⟩
      have fr : Fr Hm _ ([(t_17, (.tup [(V.ref l_13), (V.ref l_15)] : HO)), (l_15, (.lst (List.map V.int word) : HO)), (l_13, (.lst (List.map V.bl marks) : HO)), (p_10, (.lst (List.map V.int (((riffleI slf.order marks word)))) : HO)), (a_slf, (.ins T.C_Pack slf.dx (pkF p_10 slf.b) : HO)), (slf.dx, (.own a_slf : HO)), (slf.b, (.lst (List.map peRef slf.es) : HO))] ++ List.flatten [pesOwn slf.es]) := fr.new nt_18
      refine ⟨_, _, _, rfl, rfl, (Fr.atk fr 6 rfl), ?_, ?_⟩
      · rw [pc_len2 (pk_past slf)]; refine Evl.sz_lt ?_; omega
      have fr : Fr Hm _ ([(t_17, (.tup [(V.ref l_13), (V.ref l_15)] : HO)), (l_15, (.lst (List.map V.int word) : HO)), (l_13, (.lst (List.map V.bl marks) : HO)), (p_10, (.lst (List.map V.int (((riffleI slf.order marks word)))) : HO)), (a_slf, (.ins T.C_Pack slf.dx (pkF p_10 slf.b) : HO)), (slf.dx, (.own a_slf : HO)), (slf.b, (.lst (List.map peRef ((slf.es ++ [(⟨t_17, l_13, l_15, marks, word⟩ : PE)]))) : HO))] ++ List.flatten [pesOwn slf.es]) := Fr.wrk fr 6 rfl lst_pe_app
      have fr : Fr Hm _ ([(l_15, (.lst (List.map V.int word) : HO)), (t_17, (.tup [(V.ref l_13), (V.ref l_15)] : HO)), (l_13, (.lst (List.map V.bl marks) : HO)), (p_10, (.lst (List.map V.int (((riffleI slf.order marks word)))) : HO)), (a_slf, (.ins T.C_Pack slf.dx (pkF p_10 slf.b) : HO)), (slf.dx, (.own a_slf : HO)), (slf.b, (.lst (List.map peRef ((slf.es ++ [(⟨t_17, l_13, l_15, marks, word⟩ : PE)]))) : HO))] ++ List.flatten [pesOwn slf.es]) := Fr.upk fr 1 rfl
      have fr : Fr Hm _ ([(l_13, (.lst (List.map V.bl marks) : HO)), (l_15, (.lst (List.map V.int word) : HO)), (t_17, (.tup [(V.ref l_13), (V.ref l_15)] : HO)), (p_10, (.lst (List.map V.int (((riffleI slf.order marks word)))) : HO)), (a_slf, (.ins T.C_Pack slf.dx (pkF p_10 slf.b) : HO)), (slf.dx, (.own a_slf : HO)), (slf.b, (.lst (List.map peRef ((slf.es ++ [(⟨t_17, l_13, l_15, marks, word⟩ : PE)]))) : HO))] ++ List.flatten [pesOwn slf.es]) := Fr.upk fr 2 rfl
      have fr : Fr Hm _ ([(t_17, (.tup [(V.ref l_13), (V.ref l_15)] : HO)), (l_13, (.lst (List.map V.bl marks) : HO)), (l_15, (.lst (List.map V.int word) : HO)), (p_10, (.lst (List.map V.int (((riffleI slf.order marks word)))) : HO)), (a_slf, (.ins T.C_Pack slf.dx (pkF p_10 slf.b) : HO)), (slf.dx, (.own a_slf : HO)), (slf.b, (.lst (List.map peRef ((slf.es ++ [(⟨t_17, l_13, l_15, marks, word⟩ : PE)]))) : HO))] ++ List.flatten [pesOwn slf.es]) := Fr.upk fr 2 rfl
      have fr : Fr Hm _ ([(p_10, (.lst (List.map V.int (((riffleI slf.order marks word)))) : HO)), (a_slf, (.ins T.C_Pack slf.dx (pkF p_10 slf.b) : HO)), (slf.dx, (.own a_slf : HO)), (slf.b, (.lst (List.map peRef ((slf.es ++ [(⟨t_17, l_13, l_15, marks, word⟩ : PE)]))) : HO))] ++ List.flatten [pesOwn ((slf.es ++ [(⟨t_17, l_13, l_15, marks, word⟩ : PE)]))]) := Fr.padd (pre := [(p_10, (.lst (List.map V.int (((riffleI slf.order marks word)))) : HO)), (a_slf, (.ins T.C_Pack slf.dx (pkF p_10 slf.b) : HO)), (slf.dx, (.own a_slf : HO)), (slf.b, (.lst (List.map peRef ((slf.es ++ [(⟨t_17, l_13, l_15, marks, word⟩ : PE)]))) : HO))]) (ts := []) (es := slf.es) fr
      refine ⟨_, rfl, _, _, _, _, _, rfl, fr.at1, T.cl_Pack, T.na_Pack_cards, (pkF_cards _ _), _, _, rfl, (.inl (SqL.of fr.at0)), fun l_19 nl_20 => ?_⟩
      have fr : Fr Hm _ ([(l_19, (.lst (List.map V.int (((riffleI slf.order marks word)))) : HO)), (p_10, (.lst (List.map V.int (((riffleI slf.order marks word)))) : HO)), (a_slf, (.ins T.C_Pack slf.dx (pkF p_10 slf.b) : HO)), (slf.dx, (.own a_slf : HO)), (slf.b, (.lst (List.map peRef ((slf.es ++ [(⟨t_17, l_13, l_15, marks, word⟩ : PE)]))) : HO))] ++ List.flatten [pesOwn ((slf.es ++ [(⟨t_17, l_13, l_15, marks, word⟩ : PE)]))]) := fr.new nl_20
      have fr : Fr Hm _ ([(slf.b, (.lst (List.map peRef ((slf.es ++ [(⟨t_17, l_13, l_15, marks, word⟩ : PE)]))) : HO)), (l_19, (.lst (List.map V.int (((riffleI slf.order marks word)))) : HO)), (p_10, (.lst (List.map V.int (((riffleI slf.order marks word)))) : HO)), (a_slf, (.ins T.C_Pack slf.dx (pkF p_10 slf.b) : HO)), (slf.dx, (.own a_slf : HO))] ++ List.flatten [pesOwn ((slf.es ++ [(⟨t_17, l_13, l_15, marks, word⟩ : PE)]))]) := Fr.upk fr 4 rfl
      have fr : Fr Hm _ ([(p_10, (.lst (List.map V.int (((riffleI slf.order marks word)))) : HO)), (slf.b, (.lst (List.map peRef ((slf.es ++ [(⟨t_17, l_13, l_15, marks, word⟩ : PE)]))) : HO)), (l_19, (.lst (List.map V.int (((riffleI slf.order marks word)))) : HO)), (a_slf, (.ins T.C_Pack slf.dx (pkF p_10 slf.b) : HO)), (slf.dx, (.own a_slf : HO))] ++ List.flatten [pesOwn ((slf.es ++ [(⟨t_17, l_13, l_15, marks, word⟩ : PE)]))]) := Fr.upk fr 2 rfl
      have fr : Fr Hm _ ([(slf.dx, (.own a_slf : HO)), (p_10, (.lst (List.map V.int (((riffleI slf.order marks word)))) : HO)), (slf.b, (.lst (List.map peRef ((slf.es ++ [(⟨t_17, l_13, l_15, marks, word⟩ : PE)]))) : HO)), (l_19, (.lst (List.map V.int (((riffleI slf.order marks word)))) : HO)), (a_slf, (.ins T.C_Pack slf.dx (pkF p_10 slf.b) : HO))] ++ List.flatten [pesOwn ((slf.es ++ [(⟨t_17, l_13, l_15, marks, word⟩ : PE)]))]) := Fr.upk fr 4 rfl
      have fr : Fr Hm _ ([(a_slf, (.ins T.C_Pack slf.dx (pkF p_10 slf.b) : HO)), (slf.dx, (.own a_slf : HO)), (p_10, (.lst (List.map V.int (((riffleI slf.order marks word)))) : HO)), (slf.b, (.lst (List.map peRef ((slf.es ++ [(⟨t_17, l_13, l_15, marks, word⟩ : PE)]))) : HO)), (l_19, (.lst (List.map V.int (((riffleI slf.order marks word)))) : HO))] ++ List.flatten [pesOwn ((slf.es ++ [(⟨t_17, l_13, l_15, marks, word⟩ : PE)]))]) := Fr.upk fr 4 rfl
      have fr : Fr Hm _ ([(l_19, (.lst (List.map V.int (((riffleI slf.order marks word)))) : HO))] ++ List.flatten [pkOwn T.C_Pack a_slf ((⟨slf.dx, p_10, slf.b, (slf.es ++ [(⟨t_17, l_13, l_15, marks, word⟩ : PE)]), ((riffleI slf.order marks word))⟩ : PK))]) := Fr.pkclose (pre := [(l_19, (.lst (List.map V.int (((riffleI slf.order marks word)))) : HO))]) (ts := []) fr
      exact q _ (⟨slf.dx, p_10, slf.b, (slf.es ++ [(⟨t_17, l_13, l_15, marks, word⟩ : PE)]), ((riffleI slf.order marks word))⟩ : PK) l_19 (((riffleI slf.order marks word))) (by rfl) (by exact pk_app (pk_past slf)) (by rfl)  fr
    · intro h5
      exfalso
      rw [am_true (by omega)] at h5; cases h5
def sp_undone (K : PySem.W.Frag) : Sp := fun vs H Q _ => ∃ (a_order : Addr) (order : List Int) (a_marks : Addr) (marks : List Bool) (a_word : Addr) (word : List Int), vs = [V.ref a_order, V.ref a_marks, V.ref a_word] ∧ H a_order = some (.lst (List.map V.int order)) ∧ H a_marks = some (.lst (List.map V.bl marks)) ∧ H a_word = some (.lst (List.map V.int word)) ∧ (IsW marks.length word) ∧ (word.length = order.length ∧ marks.length ≤ 400 ∧ order.length ≤ 60) ∧ (∀ (H1 : Hp) (rA : Addr) (res : List Int), (res = undoneI order marks word) → Same H H1 → H rA = none → H1 rA = some (.lst (List.map V.int res)) → Q (V.ref rA) H1)
theorem sc_undone : FnScope ["order", "marks", "word", "found", "card", "place"] ["order", "marks", "word"] (defScope s_undone) := ⟨rfl, rfl, rfl, by decide +kernel, rfl, by decide +kernel, by decide +kernel⟩
theorem ok_undone (T : Txt K mg) : FnOk P w K mg base CX0 4 T.f_undone T.fd_undone ["order", "marks", "word"] (sp_undone K) := by
  refine T.F_undone.ok sc_undone (fun vs H Q E h => ?_) (fun cdv A outer s H vs Q E hr h => ?_)
  · obtain ⟨a_order, order, a_marks, marks, a_word, word, rfl, _⟩ := h; rfl
  · obtain ⟨a_order, order, a_marks, marks, a_word, word, rfl, h_order, h_marks, h_word, pre0, pre1, q⟩ := h
    have fr := Fr.nil H
    refine ⟨_, (pss_cons (ps_expr (pe_call (ok_must_be_word T) (hr.mono (by decide)) (by rfl) T.g_must_be_word T.F_must_be_word.kp T.b_must_be_word .nil pass0 (pa_cons (pv 1) (pa_cons (pv 2) (pa_cons (pe_callB (show CallR _ _ (rLenL K) from call_lenL) (by rfl) T.m_len (by decide +kernel) (pa_cons (pv 0) pa_nil)) pa_nil)))))
          (pss_cons (ps_setLc (i := 3) (own := [("card", 4)]) (g := gName 4) (tt := tYes) rfl sc_undone.nd rfl rfl (sw_true rfl rfl rfl (by decide +kernel)) (pi_list (pv 0)) (blkOk_by (N := ["order", "marks", "word", "found", "card", "place"]) (sc := (defScope s_undone)) (by decide +kernel)) (fun _ _ _ _ _ => pg_name (i := 4) sc_undone.nd rfl (Or.inl rfl)) (fun _ _ _ _ _ => pts_nil) (fun _ _ _ _ _ => pe_int))
          (pss_cons (ps_for PassesOwn.never rfl (pi_zip (by rfl) T.m_zip (pa_cons (pv 0) (pa_cons (pe_call (ok_numbers_in T) (hr.mono (by decide)) (by rfl) T.g_numbers_in T.F_numbers_in.kp T.b_numbers_in .nil pass0 (pa_cons (pv 1) (pa_cons (pv 2) pa_nil))) pa_nil))) (pg_tup rfl (pgs_cons (pg_name (i := 4) sc_undone.nd rfl (Or.inl rfl)) (pgs_cons (pg_name (i := 5) sc_undone.nd rfl (Or.inl rfl)) pgs_nil))) (pss_one (ps_asg (pv 4) (pg_sub (pv 3) (pv 5) set_list))))
          (pss_one (ps_ret (pv 3)))))), ?_⟩
    refine ⟨_, rfl, _, rfl, _, rfl, _, _, _, rfl, (SqL.of (fr.same _ _ h_order)), (List.length_map _), a_marks, marks, a_word, ((List.map V.int word)), ((order.length : Int)), rfl, (fr.same _ _ h_marks), (fr.same _ _ h_word), ?_, ?_, ?_, fun H_1  sm_3 => ?_⟩
    · exact Sca.ints _
    · simp; omega
    · exact isWordV_ints pre0 (by omega)
    have fr : Fr H _ [] := fr.call sm_3
    refine ⟨_, rfl, _, rfl, ⟨_, (SqL.of (fr.same _ _ h_order))⟩, ?_⟩
    intro D_4 nD_5
    refine lc_it (walkL V.int order) (fun (i : Nat) H1 => Fr H H1 [(D_4, (.lst (List.map V.int ((List.map (fun y : Int => 0) (List.take i order)))) : HO))]) (fr.new nD_5) (fun i H1 hi fr => (fr.same _ _ h_order)) ?_ ?_
    · rintro i_7 x_11 H_9 H_10 hi_8 fr ⟨rfl, y_12, hy_13, rfl⟩
      refine ⟨rfl, ?_⟩
      refine ⟨_, (Fr.atk fr 0 rfl), ?_, ?_⟩
      · walk_at "csize"
      exact (Fr.wr fr).cast (lc_l hy_13)
    intro H_14 fr
    have fr : Fr H _ [(D_4, (.lst (List.map V.int ((List.map (fun y : Int => 0) order))) : HO))] := fr.cast (by rw [List.take_length])
    refine ⟨_, rfl, _, rfl, _, rfl, a_marks, marks, a_word, word, rfl, (fr.same _ _ h_marks), (fr.same _ _ h_word), ?_, ?_, fun H_15 p_19 numbers_in_16 hp_18 sm_17 np_20 ep_21 => ?_⟩
    · exact pre0
    · omega
    have fr : Fr H _ [(p_19, (.lst (List.map V.int numbers_in_16) : HO)), (D_4, (.lst (List.map V.int ((List.map (fun y : Int => 0) order))) : HO))] := fr.cnew sm_17 np_20 ep_21
    subst hp_18
    have hnl := numI_length marks word
    refine ⟨_, _, _, _, rfl, (SqL.of (fr.same _ _ h_order)), (SqL.of fr.at0), ?_⟩
    refine for_it (walkZ V.int V.int order (((numI marks word)))) (fun (i : Nat) σ H1 => ∃ (found_22 : List Int) (y_23 : Option V) (y_24 : Option V), σ = [some (V.ref a_order), some (V.ref a_marks), some (V.ref a_word), some (V.ref D_4), y_23, y_24] ∧ Fr H H1 [(p_19, (.lst (List.map V.int (((numI marks word)))) : HO)), (D_4, (.lst (List.map V.int found_22) : HO))] ∧ (found_22 = undoTo order (numI marks word) i)) ?_ ?_ ?_ ?_
    · refine ⟨(List.map (fun y : Int => 0) order), _, _, rfl, fr, ?_⟩
      · exact undoTo_zero _ _
    · rintro i σ H1 hi ⟨found_22, y_23, y_24, rfl, fr, hf⟩
      exact ⟨(fr.same _ _ h_order), fr.at0⟩
    · rintro i_25 x_27 s_30 H_28 H_29 hi_26 ⟨found_22, y_23, y_24, rfl, fr, hf⟩ ⟨T_31, y_32, z_33, rfl, nT_34, rfl, hy_35, hz_36⟩
      have fr := fr.tmp (o := .tup [(V.int y_32), (V.int z_33)]) nT_34
      refine ⟨_, _, rfl, (SqT.of upd_same), rfl, _, _, rfl, _, _, rfl, rfl, ?_⟩
      have hb := (isOrd_numI marks pre0).bd hz_36; rw [numI_length] at hb
      have hfl : found_22.length = order.length := by rw [hf]; simp [undoTo]
      refine ⟨_, rfl, _, rfl, _, rfl, _, _, _, _, rfl, rfl, fr.at1, (ixDm ?_ ?_), ?_⟩
      · walk_at "side"
      · walk_at "side"
      have fr : Fr H _ [(p_19, (.lst (List.map V.int (((numI marks word)))) : HO)), (D_4, (.lst (List.map V.int ((List.set found_22 (Int.toNat z_33) y_32))) : HO))] := Fr.wrk fr 1 rfl (lst_set _ _ _ _)
      refine ⟨(List.set found_22 (Int.toNat z_33) y_32), _, _, rfl, fr, ?_⟩
      · rw [hf]; exact undoTo_next (isOrd_numI marks pre0) (by simp; omega) hy_35 hz_36
    rintro s_38 H_37 ⟨found_22, y_23, y_24, rfl, fr, hf⟩
    have fr : Fr H _ [(D_4, (.lst (List.map V.int found_22) : HO))] := Fr.dk fr 0
    refine ⟨_, rfl, ?_⟩
    exact q _ _ found_22 (by rw [hf]; exact undoTo_all (isOrd_numI marks pre0) (by simp; omega)) fr.same fr.n0 fr.at0
def sp_Pack_undo {K : PySem.W.Frag} {mg : Str → Option Value} (T : Txt K mg) : Sp := fun vs H Q _ => ∃ (a_slf : Addr) (slf : PK) (Hm : Hp), vs = [V.ref a_slf] ∧ Lent Hm H ([] ++ List.flatten [pkOwn T.C_Pack a_slf slf]) ∧ (0 < slf.past.length) ∧ (IsW (slf.past.getLastD ([], [])).1.length (slf.past.getLastD ([], [])).2) ∧ ((slf.past.getLastD ([], [])).2.length = slf.order.length ∧ (slf.past.getLastD ([], [])).1.length ≤ 400 ∧ slf.order.length ≤ 60) ∧ (∀ (H1 : Hp) (slf' : PK) (rA : Addr) (res : List Int), (slf'.order = undoneI slf.order (slf.past.getLastD ([], [])).1 (slf.past.getLastD ([], [])).2) → (slf'.past = slf.past.dropLast) → (res = undoneI slf.order (slf.past.getLastD ([], [])).1 (slf.past.getLastD ([], [])).2) → Fr Hm H1 ([(rA, (.lst (List.map V.int res) : HO))] ++ List.flatten [pkOwn T.C_Pack a_slf slf']) → Q (V.ref rA) H1)
theorem sc_Pack_undo : FnScope ["self", "marks", "word"] ["self"] (defScope s_Pack_undo) := ⟨rfl, rfl, rfl, by decide +kernel, rfl, by decide +kernel, by decide +kernel⟩
theorem ok_Pack_undo (T : Txt K mg) : FnOk P w K mg base CX0 5 T.f_Pack_undo T.fd_Pack_undo ["self"] (sp_Pack_undo T) := by
  refine T.F_Pack_undo.ok sc_Pack_undo (fun vs H Q E h => ?_) (fun cdv A outer s H vs Q E hr h => ?_)
  · obtain ⟨a_slf, slf, Hm, rfl, _⟩ := h; rfl
  · obtain ⟨a_slf, slf, Hm, rfl, hl, pre0, pre1, pre2, q⟩ := h
    have fr : Fr Hm _ ([] ++ List.flatten [pkOwn T.C_Pack a_slf slf]) := hl.fr
    have fr : Fr Hm _ ([(a_slf, (.ins T.C_Pack slf.dx (pkF slf.a slf.b) : HO)), (slf.dx, (.own a_slf : HO)), (slf.a, (.lst (List.map V.int slf.order) : HO)), (slf.b, (.lst (List.map peRef slf.es) : HO))] ++ List.flatten [pesOwn slf.es]) := Fr.pkopen (pre := []) (ts := []) fr
    have hpl := pk_pl slf
    refine ⟨_, (pss_cons (ps_if (pt_cmpR op_eqS (pe_callB (show CallR _ _ (rLenL K) from call_lenL) (by rfl) T.m_len (by decide +kernel) (pa_cons (pe_fld (pv 0) rfl) pa_nil)) pe_int (nomark _)) pss_never pss_nil)
          (pss_cons (ps_asg (pe_bm0 PySem.F.plainAttrs_list PySem.F.slot_list_pop PySem.F.type_list_pop mt_pop (pe_fld (pv 0) rfl)) (pg_tup rfl (pgs_cons (pg_name (i := 1) sc_Pack_undo.nd rfl (Or.inl rfl)) (pgs_cons (pg_name (i := 2) sc_Pack_undo.nd rfl (Or.inl rfl)) pgs_nil))))
          (pss_cons (ps_fld (pv 0) (pe_call (ok_undone T) (hr.mono (by decide)) (by rfl) T.g_undone T.F_undone.kp T.b_undone .nil pass0 (pa_cons (pe_fld (pv 0) rfl) (pa_cons (pv 1) (pa_cons (pv 2) pa_nil)))) rfl)
          (pss_one (ps_ret (pe_callTy (show CallR _ _ (rListL K) from call_listL) (by rfl) T.m_list (by decide +kernel) (pa_cons (pe_fld (pv 0) rfl) pa_nil))))))), ?_⟩
    refine ⟨_, rfl, _, _, _, _, _, rfl, fr.at0, T.cl_Pack, T.na_Pack_past, (pkF_past _ _), _, _, _, rfl, (SqL.of fr.at3), (pc_len2 (pk_past slf)), _, _, rfl, rfl, ?_, ?_⟩
    · intro h1
      exfalso
      omega
    · intro h1
      refine ⟨_, rfl, ?_⟩
      refine iteF ?_
      have hne_2 : slf.es ≠ [] := pc_ne (pk_past slf) (by omega)
      refine ⟨_, rfl, _, _, _, _, _, rfl, fr.at0, T.cl_Pack, T.na_Pack_past, (pkF_past _ _), (.inl ⟨rfl, _, (SqL.of fr.at3)⟩), _, _, (V.ref (List.getLast slf.es hne_2).t), rfl, rfl, fr.at3, (pe_last hne_2), ?_⟩
      have fr : Fr Hm _ ([(a_slf, (.ins T.C_Pack slf.dx (pkF slf.a slf.b) : HO)), (slf.dx, (.own a_slf : HO)), (slf.a, (.lst (List.map V.int slf.order) : HO)), (slf.b, (.lst (List.map peRef ((List.dropLast slf.es))) : HO))] ++ List.flatten [pesOwn slf.es]) := Fr.wrk fr 3 rfl lst_pe_pop
      have fr : Fr Hm _ ([((PE.t (List.getLast slf.es hne_2)), (.tup [V.ref (PE.m (List.getLast slf.es hne_2)), V.ref (PE.w (List.getLast slf.es hne_2))] : HO)), ((PE.m (List.getLast slf.es hne_2)), (.lst (List.map V.bl ((PE.marks (List.getLast slf.es hne_2)))) : HO)), ((PE.w (List.getLast slf.es hne_2)), (.lst (List.map V.int ((PE.word (List.getLast slf.es hne_2)))) : HO)), (a_slf, (.ins T.C_Pack slf.dx (pkF slf.a slf.b) : HO)), (slf.dx, (.own a_slf : HO)), (slf.a, (.lst (List.map V.int slf.order) : HO)), (slf.b, (.lst (List.map peRef ((List.dropLast slf.es))) : HO))] ++ List.flatten [pesOwn ((List.dropLast slf.es))]) := Fr.ppop (pre := [(a_slf, (.ins T.C_Pack slf.dx (pkF slf.a slf.b) : HO)), (slf.dx, (.own a_slf : HO)), (slf.a, (.lst (List.map V.int slf.order) : HO)), (slf.b, (.lst (List.map peRef ((List.dropLast slf.es))) : HO))]) (ts := []) fr hne_2
      refine ⟨_, _, rfl, (SqT.of fr.at0), rfl, _, _, rfl, _, _, rfl, rfl, ?_⟩
      have hlc := pc_last (pk_past slf) (by assumption) ([], [])
      have fr : Fr Hm _ ([((PE.m (List.getLast slf.es hne_2)), (.lst (List.map V.bl ((PE.marks (List.getLast slf.es hne_2)))) : HO)), ((PE.w (List.getLast slf.es hne_2)), (.lst (List.map V.int ((PE.word (List.getLast slf.es hne_2)))) : HO)), (a_slf, (.ins T.C_Pack slf.dx (pkF slf.a slf.b) : HO)), (slf.dx, (.own a_slf : HO)), (slf.a, (.lst (List.map V.int slf.order) : HO)), (slf.b, (.lst (List.map peRef ((List.dropLast slf.es))) : HO))] ++ List.flatten [pesOwn ((List.dropLast slf.es))]) := Fr.dk fr 0
      refine ⟨_, rfl, _, _, _, _, _, rfl, fr.at2, T.cl_Pack, T.na_Pack_cards, (pkF_cards _ _), _, rfl, _, rfl, slf.a, slf.order, (PE.m (List.getLast slf.es hne_2)), ((PE.marks (List.getLast slf.es hne_2))), (PE.w (List.getLast slf.es hne_2)), ((PE.word (List.getLast slf.es hne_2))), rfl, (Fr.atk fr 4 rfl), fr.at0, fr.at1, ?_, ?_, fun H_3 p_7 undone_4 hp_6 sm_5 np_8 ep_9 => ?_⟩
      · exact pk_lw hlc pre1
      · have hll := pk_ll hlc; omega
      have fr : Fr Hm _ ([(p_7, (.lst (List.map V.int undone_4) : HO)), ((PE.m (List.getLast slf.es hne_2)), (.lst (List.map V.bl ((PE.marks (List.getLast slf.es hne_2)))) : HO)), ((PE.w (List.getLast slf.es hne_2)), (.lst (List.map V.int ((PE.word (List.getLast slf.es hne_2)))) : HO)), (a_slf, (.ins T.C_Pack slf.dx (pkF slf.a slf.b) : HO)), (slf.dx, (.own a_slf : HO)), (slf.a, (.lst (List.map V.int slf.order) : HO)), (slf.b, (.lst (List.map peRef ((List.dropLast slf.es))) : HO))] ++ List.flatten [pesOwn ((List.dropLast slf.es))]) := fr.cnew sm_5 np_8 ep_9
      subst hp_6
      refine ⟨_, rfl, _, _, _, _, rfl, fr.at3, T.cl_Pack, T.na_Pack_cards, (pkF_len _ _), ?_⟩
      have fr : Fr Hm _ ([(p_7, (.lst (List.map V.int (((undoneI slf.order ((PE.marks (List.getLast slf.es hne_2))) ((PE.word (List.getLast slf.es hne_2))))))) : HO)), ((PE.m (List.getLast slf.es hne_2)), (.lst (List.map V.bl ((PE.marks (List.getLast slf.es hne_2)))) : HO)), ((PE.w (List.getLast slf.es hne_2)), (.lst (List.map V.int ((PE.word (List.getLast slf.es hne_2)))) : HO)), (a_slf, (.ins T.C_Pack slf.dx (pkF p_7 slf.b) : HO)), (slf.dx, (.own a_slf : HO)), (slf.a, (.lst (List.map V.int slf.order) : HO)), (slf.b, (.lst (List.map peRef ((List.dropLast slf.es))) : HO))] ++ List.flatten [pesOwn ((List.dropLast slf.es))]) := Fr.wrk fr 3 rfl (congrArg (HO.ins T.C_Pack slf.dx) (pkF_put slf.a slf.b p_7))
      have fr : Fr Hm _ ([(p_7, (.lst (List.map V.int (((undoneI slf.order ((PE.marks (List.getLast slf.es hne_2))) ((PE.word (List.getLast slf.es hne_2))))))) : HO)), ((PE.m (List.getLast slf.es hne_2)), (.lst (List.map V.bl ((PE.marks (List.getLast slf.es hne_2)))) : HO)), ((PE.w (List.getLast slf.es hne_2)), (.lst (List.map V.int ((PE.word (List.getLast slf.es hne_2)))) : HO)), (a_slf, (.ins T.C_Pack slf.dx (pkF p_7 slf.b) : HO)), (slf.dx, (.own a_slf : HO)), (slf.b, (.lst (List.map peRef ((List.dropLast slf.es))) : HO))] ++ List.flatten [pesOwn ((List.dropLast slf.es))]) := Fr.dk fr 5
      refine ⟨_, rfl, _, _, _, _, _, rfl, fr.at3, T.cl_Pack, T.na_Pack_cards, (pkF_cards _ _), _, _, rfl, (.inl (SqL.of fr.at0)), fun l_10 nl_11 => ?_⟩
      have fr : Fr Hm _ ([(l_10, (.lst (List.map V.int (((undoneI slf.order ((PE.marks (List.getLast slf.es hne_2))) ((PE.word (List.getLast slf.es hne_2))))))) : HO)), (p_7, (.lst (List.map V.int (((undoneI slf.order ((PE.marks (List.getLast slf.es hne_2))) ((PE.word (List.getLast slf.es hne_2))))))) : HO)), ((PE.m (List.getLast slf.es hne_2)), (.lst (List.map V.bl ((PE.marks (List.getLast slf.es hne_2)))) : HO)), ((PE.w (List.getLast slf.es hne_2)), (.lst (List.map V.int ((PE.word (List.getLast slf.es hne_2)))) : HO)), (a_slf, (.ins T.C_Pack slf.dx (pkF p_7 slf.b) : HO)), (slf.dx, (.own a_slf : HO)), (slf.b, (.lst (List.map peRef ((List.dropLast slf.es))) : HO))] ++ List.flatten [pesOwn ((List.dropLast slf.es))]) := fr.new nl_11
      have fr : Fr Hm _ ([(l_10, (.lst (List.map V.int (((undoneI slf.order ((PE.marks (List.getLast slf.es hne_2))) ((PE.word (List.getLast slf.es hne_2))))))) : HO)), (p_7, (.lst (List.map V.int (((undoneI slf.order ((PE.marks (List.getLast slf.es hne_2))) ((PE.word (List.getLast slf.es hne_2))))))) : HO)), ((PE.w (List.getLast slf.es hne_2)), (.lst (List.map V.int ((PE.word (List.getLast slf.es hne_2)))) : HO)), (a_slf, (.ins T.C_Pack slf.dx (pkF p_7 slf.b) : HO)), (slf.dx, (.own a_slf : HO)), (slf.b, (.lst (List.map peRef ((List.dropLast slf.es))) : HO))] ++ List.flatten [pesOwn ((List.dropLast slf.es))]) := Fr.dk fr 2
      have fr : Fr Hm _ ([(l_10, (.lst (List.map V.int (((undoneI slf.order ((PE.marks (List.getLast slf.es hne_2))) ((PE.word (List.getLast slf.es hne_2))))))) : HO)), (p_7, (.lst (List.map V.int (((undoneI slf.order ((PE.marks (List.getLast slf.es hne_2))) ((PE.word (List.getLast slf.es hne_2))))))) : HO)), (a_slf, (.ins T.C_Pack slf.dx (pkF p_7 slf.b) : HO)), (slf.dx, (.own a_slf : HO)), (slf.b, (.lst (List.map peRef ((List.dropLast slf.es))) : HO))] ++ List.flatten [pesOwn ((List.dropLast slf.es))]) := Fr.dk fr 2
      have fr : Fr Hm _ ([(slf.b, (.lst (List.map peRef ((List.dropLast slf.es))) : HO)), (l_10, (.lst (List.map V.int (((undoneI slf.order ((PE.marks (List.getLast slf.es hne_2))) ((PE.word (List.getLast slf.es hne_2))))))) : HO)), (p_7, (.lst (List.map V.int (((undoneI slf.order ((PE.marks (List.getLast slf.es hne_2))) ((PE.word (List.getLast slf.es hne_2))))))) : HO)), (a_slf, (.ins T.C_Pack slf.dx (pkF p_7 slf.b) : HO)), (slf.dx, (.own a_slf : HO))] ++ List.flatten [pesOwn ((List.dropLast slf.es))]) := Fr.upk fr 4 rfl
      have fr : Fr Hm _ ([(p_7, (.lst (List.map V.int (((undoneI slf.order ((PE.marks (List.getLast slf.es hne_2))) ((PE.word (List.getLast slf.es hne_2))))))) : HO)), (slf.b, (.lst (List.map peRef ((List.dropLast slf.es))) : HO)), (l_10, (.lst (List.map V.int (((undoneI slf.order ((PE.marks (List.getLast slf.es hne_2))) ((PE.word (List.getLast slf.es hne_2))))))) : HO)), (a_slf, (.ins T.C_Pack slf.dx (pkF p_7 slf.b) : HO)), (slf.dx, (.own a_slf : HO))] ++ List.flatten [pesOwn ((List.dropLast slf.es))]) := Fr.upk fr 2 rfl
      have fr : Fr Hm _ ([(slf.dx, (.own a_slf : HO)), (p_7, (.lst (List.map V.int (((undoneI slf.order ((PE.marks (List.getLast slf.es hne_2))) ((PE.word (List.getLast slf.es hne_2))))))) : HO)), (slf.b, (.lst (List.map peRef ((List.dropLast slf.es))) : HO)), (l_10, (.lst (List.map V.int (((undoneI slf.order ((PE.marks (List.getLast slf.es hne_2))) ((PE.word (List.getLast slf.es hne_2))))))) : HO)), (a_slf, (.ins T.C_Pack slf.dx (pkF p_7 slf.b) : HO))] ++ List.flatten [pesOwn ((List.dropLast slf.es))]) := Fr.upk fr 4 rfl
      have fr : Fr Hm _ ([(a_slf, (.ins T.C_Pack slf.dx (pkF p_7 slf.b) : HO)), (slf.dx, (.own a_slf : HO)), (p_7, (.lst (List.map V.int (((undoneI slf.order ((PE.marks (List.getLast slf.es hne_2))) ((PE.word (List.getLast slf.es hne_2))))))) : HO)), (slf.b, (.lst (List.map peRef ((List.dropLast slf.es))) : HO)), (l_10, (.lst (List.map V.int (((undoneI slf.order ((PE.marks (List.getLast slf.es hne_2))) ((PE.word (List.getLast slf.es hne_2))))))) : HO))] ++ List.flatten [pesOwn ((List.dropLast slf.es))]) := Fr.upk fr 4 rfl
      have fr : Fr Hm _ ([(l_10, (.lst (List.map V.int (((undoneI slf.order ((PE.marks (List.getLast slf.es hne_2))) ((PE.word (List.getLast slf.es hne_2))))))) : HO))] ++ List.flatten [pkOwn T.C_Pack a_slf ((⟨slf.dx, p_7, slf.b, (List.dropLast slf.es), ((undoneI slf.order ((PE.marks (List.getLast slf.es hne_2))) ((PE.word (List.getLast slf.es hne_2)))))⟩ : PK))]) := Fr.pkclose (pre := [(l_10, (.lst (List.map V.int (((undoneI slf.order ((PE.marks (List.getLast slf.es hne_2))) ((PE.word (List.getLast slf.es hne_2))))))) : HO))]) (ts := []) fr
      exact q _ (⟨slf.dx, p_7, slf.b, (List.dropLast slf.es), ((undoneI slf.order ((PE.marks (List.getLast slf.es hne_2))) ((PE.word (List.getLast slf.es hne_2)))))⟩ : PK) l_10 (((undoneI slf.order ((PE.marks (List.getLast slf.es hne_2))) ((PE.word (List.getLast slf.es hne_2)))))) (by exact pk_lu hlc) (by exact pk_pop (pk_past slf)) (by exact pk_lu hlc)  fr
def sp_law_cell_at (K : PySem.W.Frag) : Sp := fun vs H Q _ => ∃ (a_script : Addr) (script : List Int) (k : Int), vs = [V.ref a_script, V.int k] ∧ SqL K H a_script (List.map V.int script) ∧ (0 ≤ k) ∧ (∀ (H1 : Hp) (res : Int), (res = cellI script k) → Same H H1 → Q (V.int res) H1)
theorem sc_law_cell_at : FnScope ["_law_script", "_law_k"] ["_law_script", "_law_k"] (defScope s_law_cell_at) := ⟨rfl, rfl, rfl, by decide +kernel, rfl, by decide +kernel, by decide +kernel⟩
theorem ok_law_cell_at (T : Txt K mg) : FnOk P w K mg base CX0 1 T.f_law_cell_at T.fd_law_cell_at ["_law_script", "_law_k"] (sp_law_cell_at K) := by
  refine T.F_law_cell_at.ok sc_law_cell_at (fun vs H Q E h => ?_) (fun cdv A outer s H vs Q E hr h => ?_)
  · obtain ⟨a_script, script, k, rfl, _⟩ := h; rfl
  · obtain ⟨a_script, script, k, rfl, h_script, pre0, q⟩ := h
    have fr := Fr.nil H
    refine ⟨_, (pss_cons (ps_if (pt_cmpR op_ltS (pv 1) (pe_callB (show CallR _ _ (rLenL K) from call_lenL) (by rfl) T.m_len (by decide +kernel) (pa_cons (pv 0) pa_nil)) (nomark _)) (pss_one (ps_ret (pe_ix (show IxR _ (rIxL K) from ix_list) (pv 0) (pv 1) (fun _ _ => rfl)))) pss_nil)
          (pss_one (ps_ret pe_int))), ?_⟩
    refine ⟨_, rfl, _, rfl, _, _, _, rfl, (fr.same.seq h_script), (List.length_map _), _, _, rfl, rfl, ?_, ?_⟩
    · intro h1
      refine ⟨_, rfl, ?_⟩
      refine iteT ?_
      refine ⟨_, rfl, _, rfl, _, _, _, _, rfl, rfl, (fr.same.seq h_script), (atD 0 ?_ ?_), ?_⟩
      · walk_at "side"
      · walk_at "side"
      exact q _ ((List.getD script (Int.toNat k) 0)) (by simp only [cellI]; simp_all) fr.same
    · intro h1
      refine ⟨_, rfl, ?_⟩
      refine iteF ?_
      exact q _ 0 (by simp only [cellI]; simp_all) fr.same
def sp_law_mixed (K : PySem.W.Frag) : Sp := fun vs H Q _ => ∃ (cell : Int) (k : Int), vs = [V.int cell, V.int k] ∧ (0 ≤ k ∧ k < 1000) ∧ (∀ (H1 : Hp) (res : Int), (0 ≤ res ∧ res < 2147483647) → Same H H1 → Q (V.int res) H1)
theorem sc_law_mixed : FnScope ["_law_cell", "_law_k", "_law_number"] ["_law_cell", "_law_k"] (defScope s_law_mixed) := ⟨rfl, rfl, rfl, by decide +kernel, rfl, by decide +kernel, by decide +kernel⟩
theorem ok_law_mixed (T : Txt K mg) : FnOk P w K mg base CX0 1 T.f_law_mixed T.fd_law_mixed ["_law_cell", "_law_k"] (sp_law_mixed K) := by
  refine T.F_law_mixed.ok sc_law_mixed (fun vs H Q E h => ?_) (fun cdv A outer s H vs Q E hr h => ?_)
  · obtain ⟨cell, k, rfl, _⟩ := h; rfl
  · obtain ⟨cell, k, rfl, pre0, q⟩ := h
    have fr := Fr.nil H
    refine ⟨_, (pss_cons (ps_set (i := 2) sc_law_mixed.nd rfl (Or.inl rfl) (pe_op op_mod (pe_op op_mul (pe_op op_add (pe_op op_add (pe_op op_mod (pe_callB call_absI (by rfl) T.m_abs (by decide +kernel) (pa_cons (pv 0) pa_nil)) pe_int) (pe_op op_mul pe_int (pv 1))) pe_int) (pe_op op_add pe_int (pe_op op_mul (pv 1) (pv 1)))) pe_int))
          (pss_one (ps_ret (pe_op op_mod (pe_op op_mul (pv 2) pe_int) pe_int)))), ?_⟩
    refine ⟨_, rfl, _, rfl, _, _, rfl, rfl, (show (0 : Int) < _ by decide), _, rfl, _, _, rfl, rfl, (.inl (by decide)), _, _, rfl, rfl, _, _, rfl, rfl, _, rfl, _, rfl, _, _, rfl, rfl, ?_, _, _, rfl, rfl, _, _, rfl, rfl, ?_, _, _, rfl, rfl, (show (0 : Int) < _ by decide), ?_⟩
    · walk_at "mul"
    · walk_at "mul"
    refine ⟨_, rfl, _, _, rfl, rfl, (.inr (by decide)), _, _, rfl, rfl, (show (0 : Int) < _ by decide), ?_⟩
    exact q _ (((((((((cell.natAbs : Int) % 2147483647) + (97 * k)) + 13) * (16807 + (k * k))) % 2147483647) * 48271) % 2147483647)) (by exact ⟨Int.emod_nonneg _ (by decide), Int.emod_lt_of_pos _ (by decide)⟩) fr.same
def sp_law_marks (K : PySem.W.Frag) : Sp := fun vs H Q _ => ∃ (cell : Int) (most : Int), vs = [V.int cell, V.int most] ∧ (1 ≤ most ∧ most ≤ 400) ∧ (∀ (H1 : Hp) (rA : Addr) (res : List Bool), (1 ≤ res.length ∧ (res.length : Int) ≤ most) → Same H H1 → H rA = none → H1 rA = some (.lst (List.map V.bl res)) → Q (V.ref rA) H1)
theorem sc_law_marks : FnScope ["_law_cell", "_law_most", "_law_many", "_law_rest", "_law_marks_here", "_law_k", "_law_bit"] ["_law_cell", "_law_most"] (defScope s_law_marks) := ⟨rfl, rfl, rfl, by decide +kernel, rfl, by decide +kernel, by decide +kernel⟩
theorem ok_law_marks (T : Txt K mg) : FnOk P w K mg base CX0 2 T.f_law_marks T.fd_law_marks ["_law_cell", "_law_most"] (sp_law_marks K) := by
  refine T.F_law_marks.ok sc_law_marks (fun vs H Q E h => ?_) (fun cdv A outer s H vs Q E hr h => ?_)
  · obtain ⟨cell, most, rfl, _⟩ := h; rfl
  · obtain ⟨cell, most, rfl, pre0, q⟩ := h
    have fr := Fr.nil H
    refine ⟨_, (pss_cons (ps_set (i := 2) sc_law_marks.nd rfl (Or.inl rfl) (pe_op op_add pe_int (pe_op op_mod (pv 0) (pv 1))))
          (pss_cons (ps_set (i := 3) sc_law_marks.nd rfl (Or.inl rfl) (pe_op op_fdiv (pv 0) (pv 1)))
          (pss_cons (ps_set (i := 4) sc_law_marks.nd rfl (Or.inl rfl) (pe_lst pa_nil))
          (pss_cons (ps_for PassesOwn.never rfl (pi_range1 (by rfl) T.m_range (pa_cons (pv 2) pa_nil)) (pg_name (i := 5) sc_law_marks.nd rfl (Or.inl rfl)) (pss_cons (ps_set (i := 6) sc_law_marks.nd rfl (Or.inl rfl) (pe_op op_mod (pv 3) pe_int))
          (pss_cons (ps_set (i := 3) sc_law_marks.nd rfl (Or.inl rfl) (pe_op op_fdiv (pv 3) pe_int))
          (pss_cons (ps_if (pt_cmpR op_ltS (pe_callB call_absI (by rfl) T.m_abs (by decide +kernel) (pa_cons (pv 0) pa_nil)) (pe_op op_powL pe_int pe_int) (nomark _)) (pss_one (ps_set (i := 6) sc_law_marks.nd rfl (Or.inl rfl) (pe_op op_mod (pe_op op_fdiv (pe_call (ok_law_mixed T) (hr.mono (by decide)) (by rfl) T.g_law_mixed T.F_law_mixed.kp T.b_law_mixed .nil pass0 (pa_cons (pv 0) (pa_cons (pe_op op_add (pv 5) pe_int) pa_nil))) pe_int) pe_int))) pss_nil)
          (pss_one (ps_expr (pe_bmK (K := K) (pe_bm PySem.F.plainAttrs_list PySem.F.slot_list_append PySem.F.type_list_append mt_append (pv 4) (pa_cons (pe_cmp (pc_eqI (pv 6) pe_int)) pa_nil)))))))))
          (pss_one (ps_ret (pv 4))))))), ?_⟩
    refine ⟨_, rfl, _, rfl, _, _, rfl, rfl, ?_, _, _, rfl, rfl, ?_⟩
    · walk_at "side"
    dsimp only
    generalize e_law_many_2 : ((1 + (cell % most)) : Int) = many_1
    have hm1 := Int.emod_nonneg cell (show most ≠ 0 by omega)
    have hm2 := Int.emod_lt_of_pos cell (show 0 < most by omega)
    refine ⟨_, rfl, _, rfl, _, _, rfl, rfl, ?_, ?_⟩
    · walk_at "div"
    refine ⟨(Evl.sz_of (show 0 ≤ 100000 by decide)), fun l_3 nl_4 => ?_⟩
    have fr : Fr H _ [(l_3, (.lst [] : HO))] := fr.new nl_4
    have fr : Fr H _ [(l_3, (.lst (List.map V.bl ([])) : HO))] := fr
    refine ⟨_, rfl, _, rfl, ?_, ?_, ?_⟩
    · walk_at "side"
    · walk_at "side"
    refine for_it (walkR (n := (Int.toNat many_1))) (fun (i : Nat) σ H1 => ∃ (rest_5 : Int) (marks_6 : List Bool) (y_7 : Option V) (y_8 : Option V), σ = [some (V.int cell), some (V.int most), some (V.int many_1), some (V.int rest_5), some (V.ref l_3), y_7, y_8] ∧ Fr H H1 [(l_3, (.lst (List.map V.bl marks_6) : HO))] ∧ (marks_6.length = i)) ?_ ?_ ?_ ?_
    · refine ⟨(cell / most), [], _, _, rfl, fr, ?_⟩
      · walk_at "inv"
    · rintro i σ H1 hi ⟨rest_5, marks_6, y_7, y_8, rfl, fr, hl⟩
      exact trivial
    · rintro i_9 x_11 s_14 H_12 H_13 hi_10 ⟨rest_5, marks_6, y_7, y_8, rfl, fr, hl⟩ ⟨rfl, rfl⟩
      refine ⟨_, rfl, _, _, rfl, rfl, (show (0 : Int) < _ by decide), ?_⟩
      refine ⟨_, rfl, _, _, rfl, rfl, ⟨by decide, by decide⟩, ?_⟩
      refine ⟨_, rfl, _, rfl, _, _, 1000000000000000000, rfl, rfl, ⟨by decide, by decide, by decide⟩, (by decide), _, _, rfl, rfl, ?_, ?_⟩
      · intro h15
        refine ⟨_, rfl, ?_⟩
        refine iteT ?_
        refine ⟨_, rfl, _, rfl, _, _, rfl, rfl, cell, (((i_9 : Int) + 200)), rfl, ?_, fun H_16 mixed_17 hp_19 sm_18 => ?_⟩
        · walk_at "side"
        have fr : Fr H _ [(l_3, (.lst (List.map V.bl marks_6) : HO))] := fr.call sm_18
        refine ⟨_, _, rfl, rfl, ⟨by decide, by decide⟩, _, _, rfl, rfl, (show (0 : Int) < _ by decide), ?_⟩
        refine ⟨_, rfl, (.inl ⟨rfl, _, (SqL.of fr.at0)⟩), _, rfl, _, _, rfl, rfl, _, _, _, rfl, rfl, fr.at0, ?_, ?_⟩
        · walk_at "size"
        have fr : Fr H _ [(l_3, (.lst (List.map V.bl ((marks_6 ++ [decide (((mixed_17 / 7) % 2) = 1)]))) : HO))] := Fr.wrk fr 0 rfl (lst_app V.bl _ _)
        refine ⟨(rest_5 / 2), (marks_6 ++ [decide (((mixed_17 / 7) % 2) = 1)]), _, _, rfl, fr, ?_⟩
        · walk_at "inv"
      · intro h15
        refine ⟨_, rfl, ?_⟩
        refine iteF ?_
        refine ⟨_, rfl, (.inl ⟨rfl, _, (SqL.of fr.at0)⟩), _, rfl, _, _, rfl, rfl, _, _, _, rfl, rfl, fr.at0, ?_, ?_⟩
        · walk_at "size"
        have fr : Fr H _ [(l_3, (.lst (List.map V.bl ((marks_6 ++ [decide ((rest_5 % 2) = 1)]))) : HO))] := Fr.wrk fr 0 rfl (lst_app V.bl _ _)
        refine ⟨(rest_5 / 2), (marks_6 ++ [decide ((rest_5 % 2) = 1)]), _, _, rfl, fr, ?_⟩
        · walk_at "inv"
    rintro s_21 H_20 ⟨rest_5, marks_6, y_7, y_8, rfl, fr, hl⟩
    refine ⟨_, rfl, ?_⟩
    exact q _ _ marks_6 (by walk_at "post") fr.same fr.n0 fr.at0
def sp_law_riffled (K : PySem.W.Frag) : Sp := fun vs H Q _ => ∃ (a_order : Addr) (order : List Int) (a_marks : Addr) (marks : List Bool) (a_word : Addr) (word : List Int), vs = [V.ref a_order, V.ref a_marks, V.ref a_word] ∧ H a_order = some (.lst (List.map V.int order)) ∧ H a_marks = some (.lst (List.map V.bl marks)) ∧ H a_word = some (.lst (List.map V.int word)) ∧ (IsW marks.length word) ∧ (word.length = order.length ∧ marks.length ≤ 1000 ∧ order.length ≤ 60) ∧ (∀ (H1 : Hp) (rA : Addr) (res : List Int), (res = riffleI order marks word) → Same H H1 → H rA = none → H1 rA = some (.lst (List.map V.int res)) → Q (V.ref rA) H1)
theorem sc_law_riffled : FnScope ["_law_order_here", "_law_marks_here", "_law_word_here", "_law_left", "_law_heaps", "_law_heap", "_law_size", "_law_cards", "_law_number"] ["_law_order_here", "_law_marks_here", "_law_word_here"] (defScope s_law_riffled) := ⟨rfl, rfl, rfl, by decide +kernel, rfl, by decide +kernel, by decide +kernel⟩
theorem ok_law_riffled (T : Txt K mg) : FnOk P w K mg base CX0 1 T.f_law_riffled T.fd_law_riffled ["_law_order_here", "_law_marks_here", "_law_word_here"] (sp_law_riffled K) := by
  refine T.F_law_riffled.ok sc_law_riffled (fun vs H Q E h => ?_) (fun cdv A outer s H vs Q E hr h => ?_)
  · obtain ⟨a_order, order, a_marks, marks, a_word, word, rfl, _⟩ := h; rfl
  · obtain ⟨a_order, order, a_marks, marks, a_word, word, rfl, h_order, h_marks, h_word, pre0, pre1, q⟩ := h
    have fr := Fr.nil H
    refine ⟨_, (pss_cons (ps_set (i := 3) sc_law_riffled.nd rfl (Or.inl rfl) (pe_callTy (show CallR _ _ (rListL K) from call_listL) (by rfl) T.m_list (by decide +kernel) (pa_cons (pv 0) pa_nil)))
          (pss_cons (ps_set (i := 4) sc_law_riffled.nd rfl (Or.inr rfl) (pe_lst pa_nil))
          (pss_cons (ps_for PassesOwn.never rfl (pi_range1 (by rfl) T.m_range (pa_cons (pe_callB (show CallR _ _ (rLenL K) from call_lenL) (by rfl) T.m_len (by decide +kernel) (pa_cons (pv 1) pa_nil)) pa_nil)) (pg_name (i := 5) sc_law_riffled.nd rfl (Or.inr rfl)) (pss_cons (ps_set (i := 6) sc_law_riffled.nd rfl (Or.inl rfl) (pe_callB (show CallR _ _ (rLenL K) from call_lenL) (by rfl) T.m_len (by decide +kernel) (pa_cons (pe_lc (own := [("_law_number", 8)]) (g := gName 8) rfl sc_law_riffled.nd (pi_list (pv 2)) (blkOk_by (N := ["_law_order_here", "_law_marks_here", "_law_word_here", "_law_left", "_law_heaps", "_law_heap", "_law_size", "_law_cards", "_law_number"]) (sc := (defScope s_law_riffled)) (by decide +kernel)) (fun _ _ _ _ _ => pg_name (i := 8) sc_law_riffled.nd rfl (Or.inl rfl)) (fun _ _ _ _ _ => pts_one (pt_cmpR op_eqS (pv 8) (pv 5) (nomark _))) (fun _ _ _ _ _ => (pv 8))) pa_nil)))
          (pss_cons (ps_set (i := 7) sc_law_riffled.nd rfl (Or.inl rfl) (pe_slice (show SlR _ (rSlL K) from sl_list) (pv 3) po_none (po_some (pv 6))))
          (pss_cons (ps_set (i := 3) sc_law_riffled.nd rfl (Or.inl rfl) (pe_slice (show SlR _ (rSlL K) from sl_list) (pv 3) (po_some (pv 6)) po_none))
          (pss_cut (ps_if (pt_valS (pe_ix (show IxR _ (rIxL K) from ix_list) (pv 1) (pv 5) (fun _ _ => rfl))) (pss_one (ps_set (i := 7) sc_law_riffled.nd rfl (Or.inl rfl) (pe_listRev rfl (by rfl) T.m_list (by rfl) T.m_reversed (pv 7)))) pss_nil)
          (pss_one (ps_expr (pe_bmK (K := K) (pe_bm PySem.F.plainAttrs_list PySem.F.slot_list_append PySem.F.type_list_append mt_append (pv 4) (pa_cons (pv 7) pa_nil))))))))))
          (pss_one (ps_ret (pe_lc (own := [("_law_number", 8)]) (g := gName 8) (tt := tYes) rfl sc_law_riffled.nd (pi_list (pv 2)) (blkOk_by (N := ["_law_order_here", "_law_marks_here", "_law_word_here", "_law_left", "_law_heaps", "_law_heap", "_law_size", "_law_cards", "_law_number"]) (sc := (defScope s_law_riffled)) (by decide +kernel)) (fun _ _ _ _ _ => pg_name (i := 8) sc_law_riffled.nd rfl (Or.inl rfl)) (fun _ _ _ _ _ => pts_nil) (fun _ _ _ _ _ => (pe_bmK (K := K) (pe_bm PySem.F.plainAttrs_list PySem.F.slot_list_pop PySem.F.type_list_pop mt_popAt (pe_ix (show IxR _ (rIxL K) from ix_list) (pv 4) (pv 8) (fun _ _ => rfl)) (pa_cons pe_int pa_nil)))))))))), ?_⟩
    refine ⟨_, rfl, _, _, rfl, (.inl (SqL.of (fr.same _ _ h_order))), fun l_1 nl_2 => ?_⟩
    have fr : Fr H _ [(l_1, (.lst (List.map V.int order) : HO))] := fr.new nl_2
    refine ⟨(Evl.sz_of (show 0 ≤ 100000 by decide)), fun l_3 nl_4 => ?_⟩
    have fr : Fr H _ [(l_3, (.lst [] : HO)), (l_1, (.lst (List.map V.int order) : HO))] := fr.new nl_4
    have fr : Fr H _ [(l_3, (.lst (List.map rowRef ([])) : HO)), (l_1, (.lst (List.map V.int order) : HO))] := fr
    refine ⟨_, rfl, _, _, _, rfl, (SqL.of (fr.same _ _ h_marks)), (List.length_map _), _, rfl, ?_, ?_, ?_⟩
    · walk_at "side"
    · walk_at "side"
    refine for_it (walkR (n := marks.length)) (fun (i : Nat) σ H1 => ∃ (a_law_left_5 : Addr) (left_6 : List Int) (heaps_7 : List (Addr × List Int)) (y_8 : Option V) (y_9 : Option V) (y_10 : Option V), σ = [some (V.ref a_order), some (V.ref a_marks), some (V.ref a_word), some (V.ref a_law_left_5), some (V.ref l_3), y_8, y_9, y_10, none] ∧ Fr H H1 ((l_3, (.lst (List.map rowRef heaps_7) : HO)) :: (a_law_left_5, (.lst (List.map V.int left_6) : HO)) :: rowsOwn heaps_7) ∧ (heaps_7.map (·.2) = heapsTo order marks word i) ∧ (left_6 = order.drop (startI word i))) ?_ ?_ ?_ ?_
    · refine ⟨l_1, order, [], _, _, _, rfl, fr, ?_, ?_⟩
      · rfl
      · rfl
    · rintro i σ H1 hi ⟨a_law_left_5, left_6, heaps_7, y_8, y_9, y_10, rfl, fr, hh, hleft⟩
      exact trivial
    · rintro i_11 x_13 s_16 H_14 H_15 hi_12 ⟨a_law_left_5, left_6, heaps_7, y_8, y_9, y_10, rfl, fr, hh, hleft⟩ ⟨rfl, rfl⟩
      have hhl : heaps_7.length = i_11 := by have := congrArg List.length hh; simpa [heapsTo] using this
      refine ⟨_, rfl, _, rfl, ⟨_, (SqL.of (fr.same _ _ h_word))⟩, ?_⟩
      intro D_17 nD_18
      refine lc_it (walkL V.int word) (fun (i : Nat) H1 => Fr H H1 ((D_17, (.lst (List.map V.int ((List.map (fun y : Int => y) (List.filter (fun y : Int => decide (y = (i_11 : Int))) (List.take i word))))) : HO)) :: (l_3, (.lst (List.map rowRef heaps_7) : HO)) :: (a_law_left_5, (.lst (List.map V.int left_6) : HO)) :: rowsOwn heaps_7)) (fr.new nD_18) (fun i H1 hi fr => (fr.same _ _ h_word)) ?_ ?_
      · rintro i_20 x_24 H_22 H_23 hi_21 fr ⟨rfl, y_25, hy_26, rfl⟩
        refine ⟨rfl, _, rfl, _, rfl, _, _, rfl, rfl, ?_, ?_⟩
        · intro h27
          refine ⟨_, rfl, ?_⟩
          refine iteT ?_
          refine ⟨_, rfl, _, (Fr.atk fr 0 rfl), ?_, ?_⟩
          · walk_at "csize"
          exact (Fr.wr fr).cast (lc_l_t hy_26 (by walk_at "comp"))
        · intro h27
          refine ⟨_, rfl, ?_⟩
          refine iteF ?_
          exact fr.cast (lc_l_f hy_26 (by walk_at "comp"))
      intro H_28 fr
      have fr : Fr H _ ((D_17, (.lst (List.map V.int ((List.map (fun y : Int => y) (List.filter (fun y : Int => decide (y = (i_11 : Int))) word)))) : HO)) :: (l_3, (.lst (List.map rowRef heaps_7) : HO)) :: (a_law_left_5, (.lst (List.map V.int left_6) : HO)) :: rowsOwn heaps_7) := fr.cast (by rw [List.take_length])
      refine ⟨_, _, _, rfl, (SqL.of fr.at0), (List.length_map _), ?_⟩
      dsimp only
      generalize e_law_size_30 : ((((List.map (fun y : Int => y) (List.filter (fun y : Int => decide (y = (i_11 : Int))) word))).length : Int) : Int) = size_29
      rw [count_filter] at e_law_size_30
      have hcut := heap_cut2 (o := order) pre0 pre1.1 hi_12 e_law_size_30 hleft
      have fr : Fr H _ ((l_3, (.lst (List.map rowRef heaps_7) : HO)) :: (a_law_left_5, (.lst (List.map V.int left_6) : HO)) :: rowsOwn heaps_7) := Fr.dk fr 0
      refine ⟨_, rfl, _, rfl, _, rfl, _, _, rfl, (SqL.of fr.at1), fun l_31 nl_32 => ?_⟩
      have fr : Fr H _ ((l_31, (.lst (List.map V.int ((cutL left_6 none (some size_29)))) : HO)) :: (l_3, (.lst (List.map rowRef heaps_7) : HO)) :: (a_law_left_5, (.lst (List.map V.int left_6) : HO)) :: rowsOwn heaps_7) := (fr.new nl_32).cast (lst_cut _ _ _ _)
      refine ⟨_, rfl, _, rfl, _, rfl, _, _, rfl, (SqL.of fr.at2), fun l_33 nl_34 => ?_⟩
      have fr : Fr H _ ((l_33, (.lst (List.map V.int ((cutL left_6 (some size_29) none))) : HO)) :: (l_31, (.lst (List.map V.int ((cutL left_6 none (some size_29)))) : HO)) :: (l_3, (.lst (List.map rowRef heaps_7) : HO)) :: (a_law_left_5, (.lst (List.map V.int left_6) : HO)) :: rowsOwn heaps_7) := (fr.new nl_34).cast (lst_cut _ _ _ _)
      have fr : Fr H _ ((l_33, (.lst (List.map V.int ((cutL left_6 (some size_29) none))) : HO)) :: (l_31, (.lst (List.map V.int ((cutL left_6 none (some size_29)))) : HO)) :: (l_3, (.lst (List.map rowRef heaps_7) : HO)) :: rowsOwn heaps_7) := Fr.dk fr 3
      refine ⟨fun σ H1 => ∃ (a_law_cards_35 : Addr) (cards_36 : List Int), σ = [some (V.ref a_order), some (V.ref a_marks), some (V.ref a_word), some (V.ref l_33), some (V.ref l_3), some (V.int ((i_11 : Int))), some (V.int size_29), some (V.ref a_law_cards_35), none] ∧ Fr H H1 ((l_33, (.lst (List.map V.int ((cutL left_6 (some size_29) none))) : HO)) :: (a_law_cards_35, (.lst (List.map V.int cards_36) : HO)) :: (l_3, (.lst (List.map rowRef heaps_7) : HO)) :: rowsOwn heaps_7) ∧ (cards_36 = heapI order marks word i_11), ?_, ?_⟩
      · refine ⟨_, rfl, _, rfl, _, _, _, _, rfl, rfl, (SqL.of (fr.same _ _ h_marks)), (atD false ?_ ?_), _, rfl, ?_, ?_⟩
        · walk_at "side"
        · walk_at "side"
        · intro h37
          refine iteT ?_
          refine ⟨_, rfl, _, _, rfl, (SqL.of fr.at1), fun l_38 nl_39 => ?_⟩
          have fr : Fr H _ ((l_38, (.lst (List.map V.int ((List.reverse ((cutL left_6 none (some size_29)))))) : HO)) :: (l_33, (.lst (List.map V.int ((cutL left_6 (some size_29) none))) : HO)) :: (l_31, (.lst (List.map V.int ((cutL left_6 none (some size_29)))) : HO)) :: (l_3, (.lst (List.map rowRef heaps_7) : HO)) :: rowsOwn heaps_7) := (fr.new nl_39).cast (lst_rev _ _)
          have fr : Fr H _ ((l_38, (.lst (List.map V.int ((List.reverse ((cutL left_6 none (some size_29)))))) : HO)) :: (l_33, (.lst (List.map V.int ((cutL left_6 (some size_29) none))) : HO)) :: (l_3, (.lst (List.map rowRef heaps_7) : HO)) :: rowsOwn heaps_7) := Fr.dk fr 2
          have fr : Fr H _ ((l_3, (.lst (List.map rowRef heaps_7) : HO)) :: (l_38, (.lst (List.map V.int ((List.reverse ((cutL left_6 none (some size_29)))))) : HO)) :: (l_33, (.lst (List.map V.int ((cutL left_6 (some size_29) none))) : HO)) :: rowsOwn heaps_7) := Fr.upk fr 2 rfl
          have fr : Fr H _ ((l_38, (.lst (List.map V.int ((List.reverse ((cutL left_6 none (some size_29)))))) : HO)) :: (l_3, (.lst (List.map rowRef heaps_7) : HO)) :: (l_33, (.lst (List.map V.int ((cutL left_6 (some size_29) none))) : HO)) :: rowsOwn heaps_7) := Fr.upk fr 1 rfl
          have fr : Fr H _ ((l_33, (.lst (List.map V.int ((cutL left_6 (some size_29) none))) : HO)) :: (l_38, (.lst (List.map V.int ((List.reverse ((cutL left_6 none (some size_29)))))) : HO)) :: (l_3, (.lst (List.map rowRef heaps_7) : HO)) :: rowsOwn heaps_7) := Fr.upk fr 2 rfl
          refine ⟨l_38, (List.reverse ((cutL left_6 none (some size_29)))), rfl, fr, ?_⟩
          · first | exact heap_t2 hcut.1 (by assumption) | exact heap_f2 hcut.1 (by assumption)
        · intro h37
          refine iteF ?_
          refine ⟨l_31, (cutL left_6 none (some size_29)), rfl, fr, ?_⟩
          · first | exact heap_t2 hcut.1 (by assumption) | exact heap_f2 hcut.1 (by assumption)
      rintro s_41 H_40 ⟨a_law_cards_35, cards_36, rfl, fr, hc⟩
      refine ⟨_, rfl, (.inl ⟨rfl, _, (SqL.of fr.at2)⟩), _, rfl, _, _, _, rfl, rfl, fr.at2, ?_, ?_⟩
      · walk_at "size"
      have fr : Fr H _ ((l_33, (.lst (List.map V.int ((cutL left_6 (some size_29) none))) : HO)) :: (a_law_cards_35, (.lst (List.map V.int cards_36) : HO)) :: (l_3, (.lst (List.map rowRef ((heaps_7 ++ [(a_law_cards_35, cards_36)]))) : HO)) :: rowsOwn heaps_7) := Fr.wrk fr 2 rfl (lst_app rowRef _ _)
      have fr : Fr H _ ((a_law_cards_35, (.lst (List.map V.int cards_36) : HO)) :: (l_33, (.lst (List.map V.int ((cutL left_6 (some size_29) none))) : HO)) :: (l_3, (.lst (List.map rowRef ((heaps_7 ++ [(a_law_cards_35, cards_36)]))) : HO)) :: rowsOwn heaps_7) := Fr.upk fr 1 rfl
      have fr : Fr H _ ((l_33, (.lst (List.map V.int ((cutL left_6 (some size_29) none))) : HO)) :: (l_3, (.lst (List.map rowRef ((heaps_7 ++ [(a_law_cards_35, cards_36)]))) : HO)) :: rowsOwn ((heaps_7 ++ [(a_law_cards_35, cards_36)]))) := Fr.rowin (pre := [(l_33, (.lst (List.map V.int ((cutL left_6 (some size_29) none))) : HO)), (l_3, (.lst (List.map rowRef ((heaps_7 ++ [(a_law_cards_35, cards_36)]))) : HO))]) (rows := heaps_7) fr
      have fr : Fr H _ ((l_3, (.lst (List.map rowRef ((heaps_7 ++ [(a_law_cards_35, cards_36)]))) : HO)) :: (l_33, (.lst (List.map V.int ((cutL left_6 (some size_29) none))) : HO)) :: rowsOwn ((heaps_7 ++ [(a_law_cards_35, cards_36)]))) := Fr.upk fr 1 rfl
      refine ⟨l_33, (cutL left_6 (some size_29) none), (heaps_7 ++ [(a_law_cards_35, cards_36)]), _, _, _, rfl, fr, ?_, ?_⟩
      · rw [List.map_append, hh, hc]; exact (heapsTo_next _ _ _ _).symm
      · exact hcut.2
    rintro s_43 H_42 ⟨a_law_left_5, left_6, heaps_7, y_8, y_9, y_10, rfl, fr, hh, hleft⟩
    refine ⟨_, rfl, _, rfl, ⟨_, (SqL.of (fr.same _ _ h_word))⟩, ?_⟩
    intro D_44 nD_45
    refine lc_it (walkL V.int word) (fun (i : Nat) H1 => ∃ rw_ : List (Addr × List Int), Fr H H1 ((D_44, (.lst (List.map V.int ((riffTo order marks word i))) : HO)) :: (l_3, (.lst (List.map rowRef rw_) : HO)) :: (a_law_left_5, (.lst (List.map V.int left_6) : HO)) :: rowsOwn rw_) ∧ (rw_.map (·.2) = heapsAt order marks word i)) ⟨heaps_7, fr.new nD_45, ?_⟩ (fun i H1 hi ⟨rw_, fr, hh⟩ => (fr.same _ _ h_word)) ?_ ?_
    · exact hh.trans (heapsAt_zero _ _ _).symm
    · rintro i_46 x_51 H_49 H_50 hi_47 ⟨rw_48, fr, hh⟩ ⟨rfl, y_52, hy_53, rfl⟩
      refine ⟨rfl, ?_⟩
      have hb := pre0.at hy_53
      have hhl : rw_48.length = marks.length := by have := congrArg List.length hh; simpa [heapsAt] using this
      have hrow := heapsAt_row (by omega) hb hh
      have hrl := heapAt_length (o := order) (i := i_46) pre0 (by omega) hy_53
      have hlt_54 : (Int.toNat y_52) < List.length rw_48 := by omega
      refine ⟨_, rfl, _, rfl, _, _, _, _, rfl, rfl, (SqL.of fr.at1), (atD (0, []) ?_ ?_), (.inl ⟨rfl, _, (SqL.of (Fr.rowat (pre := [(D_44, (.lst (List.map V.int ((riffTo order marks word i_46))) : HO)), (l_3, (.lst (List.map rowRef rw_48) : HO)), (a_law_left_5, (.lst (List.map V.int left_6) : HO))]) fr (0, []) hlt_54))⟩), _, _, _, _, _, rfl, rfl, (Fr.rowat (pre := [(D_44, (.lst (List.map V.int ((riffTo order marks word i_46))) : HO)), (l_3, (.lst (List.map rowRef rw_48) : HO)), (a_law_left_5, (.lst (List.map V.int left_6) : HO))]) fr (0, []) hlt_54), ?_, ?_, (popix ?_ ?_), (popat 0 ?_), ?_⟩
      · walk_at "side"
      · walk_at "side"
      · first | omega | (rw [hrow]; omega)
      · first | omega | (rw [hrow]; omega)
      · first | omega | (rw [hrow]; omega)
      · first | omega | (rw [hrow]; omega)
      · first | omega | (rw [hrow]; omega)
      rw [rowRef_set rw_48 (Int.toNat y_52) (0, []) (List.eraseIdx ((List.getD rw_48 (Int.toNat y_52) (0, [])).2) (Int.toNat 0))] at fr
      have fr : Fr H _ ((D_44, (.lst (List.map V.int ((riffTo order marks word i_46))) : HO)) :: (l_3, (.lst (List.map rowRef ((List.set rw_48 (Int.toNat y_52) ((List.getD rw_48 (Int.toNat y_52) (0, [])).1, (List.eraseIdx ((List.getD rw_48 (Int.toNat y_52) (0, [])).2) (Int.toNat 0)))))) : HO)) :: (a_law_left_5, (.lst (List.map V.int left_6) : HO)) :: rowsOwn ((List.set rw_48 (Int.toNat y_52) ((List.getD rw_48 (Int.toNat y_52) (0, [])).1, (List.eraseIdx ((List.getD rw_48 (Int.toNat y_52) (0, [])).2) (Int.toNat 0)))))) := Fr.rowwrD (pre := [(D_44, (.lst (List.map V.int ((riffTo order marks word i_46))) : HO)), (l_3, (.lst (List.map rowRef ((List.set rw_48 (Int.toNat y_52) ((List.getD rw_48 (Int.toNat y_52) (0, [])).1, (List.eraseIdx ((List.getD rw_48 (Int.toNat y_52) (0, [])).2) (Int.toNat 0)))))) : HO)), (a_law_left_5, (.lst (List.map V.int left_6) : HO))]) (0, []) fr hlt_54 (lst_erase _ _ _)
      refine ⟨_, fr.at0, ?_, ?_⟩
      · refine Evl.sz_lt ?_; simp only [List.length_map, riffTo, List.length_range]; omega
      refine ⟨((List.set rw_48 (Int.toNat y_52) ((List.getD rw_48 (Int.toNat y_52) (0, [])).1, (List.eraseIdx ((List.getD rw_48 (Int.toNat y_52) (0, [])).2) (Int.toNat 0))))), (Fr.wr fr).cast (lc_app (by first | (rw [hrow]; exact riffTo_next pre0 (by omega) hy_53) | (rw [hrow] at *; exact riffTo_next pre0 (by omega) hy_53))), ?_⟩
      · rw [List.map_set, hh]; exact heapsAt_next pre0 hy_53 (by rw [hrow]; exact erase_drop _)
    rintro H_55 ⟨rw_56, fr, hh⟩
    exact q _ _ ((riffTo order marks word (List.length word))) (by exact riffTo_all pre0 (by omega)) fr.same fr.n0 fr.at0
def sp_Pack_order {K : PySem.W.Frag} {mg : Str → Option Value} (T : Txt K mg) : Sp := fun vs H Q _ => ∃ (a_slf : Addr) (slf : PK), vs = [V.ref a_slf] ∧ PkAt T.C_Pack H a_slf slf ∧ (∀ (H1 : Hp) (rA : Addr) (res : List Int), (res = slf.order) → Same H H1 → H rA = none → H1 rA = some (.lst (List.map V.int res)) → Q (V.ref rA) H1)
theorem sc_Pack_order : FnScope ["self"] ["self"] (defScope s_Pack_order) := ⟨rfl, rfl, rfl, by decide +kernel, rfl, by decide +kernel, by decide +kernel⟩
theorem ok_Pack_order (T : Txt K mg) : FnOk P w K mg base CX0 1 T.f_Pack_order T.fd_Pack_order ["self"] (sp_Pack_order T) := by
  refine T.F_Pack_order.ok sc_Pack_order (fun vs H Q E h => ?_) (fun cdv A outer s H vs Q E hr h => ?_)
  · obtain ⟨a_slf, slf, rfl, _⟩ := h; rfl
  · obtain ⟨a_slf, slf, rfl, h_slf, q⟩ := h
    have fr := Fr.nil H
    refine ⟨_, (pss_one (ps_ret (pe_callTy (show CallR _ _ (rListL K) from call_listL) (by rfl) T.m_list (by decide +kernel) (pa_cons (pe_fld (pv 0) rfl) pa_nil)))), ?_⟩
    refine ⟨_, rfl, _, _, _, _, _, rfl, (fr.same _ _ (PkAt.p h_slf)), T.cl_Pack, T.na_Pack_cards, (pkF_cards _ _), _, _, rfl, (.inl (SqL.of (fr.same _ _ (PkAt.a h_slf)))), fun l_1 nl_2 => ?_⟩
    have fr : Fr H _ [(l_1, (.lst (List.map V.int slf.order) : HO))] := fr.new nl_2
    exact q _ _ slf.order (by rfl) fr.same fr.n0 fr.at0
def sp_check (K : PySem.W.Frag) : Sp := fun vs H Q _ => ∃ (a_marks : Addr) (marks : List Bool) (a_word : Addr) (word : List V) (n : Int), vs = [V.ref a_marks, V.ref a_word, V.int n] ∧ H a_marks = some (.lst (List.map V.bl marks)) ∧ H a_word = some (.lst word) ∧ (Sca word) ∧ (word.length ≤ 1000) ∧ (isWordV marks.length word n = true) ∧ (∀ (H1 : Hp), Same H H1 → Q V.non H1)
theorem sc_check : FnScope ["marks", "word", "n"] ["marks", "word", "n"] (defScope s_check) := ⟨rfl, rfl, rfl, by decide +kernel, rfl, by decide +kernel, by decide +kernel⟩
theorem ok_check (T : Txt K mg) : FnOk P w K mg base CX0 3 T.f_check T.fd_check ["marks", "word", "n"] (sp_check K) := by
  refine T.F_check.ok sc_check (fun vs H Q E h => ?_) (fun cdv A outer s H vs Q E hr h => ?_)
  · obtain ⟨a_marks, marks, a_word, word, n, rfl, _⟩ := h; rfl
  · obtain ⟨a_marks, marks, a_word, word, n, rfl, h_marks, h_word, pre0, pre1, pre2, q⟩ := h
    have fr := Fr.nil H
    refine ⟨_, (pss_one (ps_if (pt_not (pt_valS (pe_call (ok_is_word T) (hr.mono (by decide)) (by rfl) T.g_is_word T.F_is_word.kp T.b_is_word .nil pass0 (pa_cons (pv 0) (pa_cons (pv 1) (pa_cons (pv 2) pa_nil)))))) pss_never pss_nil)), ?_⟩
    refine ⟨_, rfl, _, rfl, _, rfl, a_marks, marks, a_word, word, n, rfl, (fr.same _ _ h_marks), (fr.same _ _ h_word), ?_, ?_, fun H_1 is_word_2 hp_4 sm_3 => ?_⟩
    · assumption
    · assumption
    have fr : Fr H _ [] := fr.call sm_3
    subst hp_4
    refine ⟨_, rfl, ?_, ?_⟩
    · intro h5
      refine iteF ?_
      exact q _  fr.same
    · intro h5
      exfalso
      rw [pre2] at h5; cases h5
def sp_turned_about (K : PySem.W.Frag) : Sp := fun vs H Q _ => ∃ (a_marks : Addr) (marks : List Bool) (a_others : Addr) (others : List Bool) (heap : Int) (other : Int), vs = [V.ref a_marks, V.ref a_others, V.int heap, V.int other] ∧ H a_marks = some (.lst (List.map V.bl marks)) ∧ H a_others = some (.lst (List.map V.bl others)) ∧ (0 ≤ heap ∧ heap < (marks.length : Int)) ∧ (∀ (H1 : Hp) (res : Int), (res = turnedI marks others heap other) → Same H H1 → Q (V.int res) H1)
theorem sc_turned_about : FnScope ["marks", "others", "heap", "other"] ["marks", "others", "heap", "other"] (defScope s_turned_about) := ⟨rfl, rfl, rfl, by decide +kernel, rfl, by decide +kernel, by decide +kernel⟩
theorem ok_turned_about (T : Txt K mg) : FnOk P w K mg base CX0 1 T.f_turned_about T.fd_turned_about ["marks", "others", "heap", "other"] (sp_turned_about K) := by
  refine T.F_turned_about.ok sc_turned_about (fun vs H Q E h => ?_) (fun cdv A outer s H vs Q E hr h => ?_)
  · obtain ⟨a_marks, marks, a_others, others, heap, other, rfl, _⟩ := h; rfl
  · obtain ⟨a_marks, marks, a_others, others, heap, other, rfl, h_marks, h_others, pre0, q⟩ := h
    have fr := Fr.nil H
    refine ⟨_, (pss_cons (ps_if (pt_valS (pe_ix (show IxR _ (rIxL K) from ix_list) (pv 0) (pv 2) (fun _ _ => rfl))) (pss_one (ps_ret (pe_op op_sub (pe_op op_sub (pe_callB (show CallR _ _ (rLenL K) from call_lenL) (by rfl) T.m_len (by decide +kernel) (pa_cons (pv 1) pa_nil)) pe_int) (pv 3)))) pss_nil)
          (pss_one (ps_ret (pv 3)))), ?_⟩
    refine ⟨_, rfl, _, rfl, _, _, _, _, rfl, rfl, (SqL.of (fr.same _ _ h_marks)), (atD false ?_ ?_), _, rfl, ?_, ?_⟩
    · walk_at "side"
    · walk_at "side"
    · intro h1
      refine iteT ?_
      refine ⟨_, rfl, _, _, _, rfl, (SqL.of (fr.same _ _ h_others)), (List.length_map _), _, _, rfl, rfl, _, rfl, _, _, rfl, rfl, ?_⟩
      exact q _ ((((others.length : Int) - 1) - other)) (by simp_all [turnedI]) fr.same
    · intro h1
      refine iteF ?_
      refine ⟨_, rfl, ?_⟩
      exact q _ other (by simp_all [turnedI]) fr.same
def sp_joined (K : PySem.W.Frag) : Sp := fun vs H Q _ => ∃ (a_marks : Addr) (marks : List Bool) (a_word : Addr) (word : List Int) (a_others : Addr) (others : List Bool) (a_more : Addr) (more : List Int), vs = [V.ref a_marks, V.ref a_word, V.ref a_others, V.ref a_more] ∧ H a_marks = some (.lst (List.map V.bl marks)) ∧ H a_word = some (.lst (List.map V.int word)) ∧ H a_others = some (.lst (List.map V.bl others)) ∧ H a_more = some (.lst (List.map V.int more)) ∧ (IsW marks.length word) ∧ (IsW others.length more) ∧ (word.length = more.length ∧ 1 ≤ word.length ∧ word.length ≤ 60) ∧ (marks.length ≤ 400 ∧ others.length ≤ 400 ∧ marks.length * others.length ≤ 400) ∧ (∀ (H1 : Hp) (rA : Addr) (res : List Int), (res = bothW marks word others more) → Same H H1 → H rA = none → H1 rA = some (.lst (List.map V.int res)) → Q (V.ref rA) H1)
theorem sc_joined : FnScope ["marks", "word", "others", "more", "row", "ahead", "other", "heap"] ["marks", "word", "others", "more"] (defScope s_joined) := ⟨rfl, rfl, rfl, by decide +kernel, rfl, by decide +kernel, by decide +kernel⟩
theorem ok_joined (T : Txt K mg) : FnOk P w K mg base CX0 5 T.f_joined T.fd_joined ["marks", "word", "others", "more"] (sp_joined K) := by
  refine T.F_joined.ok sc_joined (fun vs H Q E h => ?_) (fun cdv A outer s H vs Q E hr h => ?_)
  · obtain ⟨a_marks, marks, a_word, word, a_others, others, a_more, more, rfl, _⟩ := h; rfl
  · obtain ⟨a_marks, marks, a_word, word, a_others, others, a_more, more, rfl, h_marks, h_word, h_others, h_more, pre0, pre1, pre2, pre3, q⟩ := h
    have fr := Fr.nil H
    have hlu := upto_length (Int.toNat (word.length : Int))
    refine ⟨_, (pss_cons (ps_expr (pe_call (ok_check T) (hr.mono (by decide)) (by rfl) T.g_check T.F_check.kp T.b_check .nil pass0 (pa_cons (pv 0) (pa_cons (pv 1) (pa_cons (pe_callB (show CallR _ _ (rLenL K) from call_lenL) (by rfl) T.m_len (by decide +kernel) (pa_cons (pv 1) pa_nil)) pa_nil)))))
          (pss_cons (ps_expr (pe_call (ok_check T) (hr.mono (by decide)) (by rfl) T.g_check T.F_check.kp T.b_check .nil pass0 (pa_cons (pv 2) (pa_cons (pv 3) (pa_cons (pe_callB (show CallR _ _ (rLenL K) from call_lenL) (by rfl) T.m_len (by decide +kernel) (pa_cons (pv 1) pa_nil)) pa_nil)))))
          (pss_cons (ps_set (i := 4) sc_joined.nd rfl (Or.inl rfl) (pe_lst pa_nil))
          (pss_cons (ps_for PassesOwn.never rfl (pi_zip (by rfl) T.m_zip (pa_cons (pe_call (ok_riffled T) (hr.mono (by decide)) (by rfl) T.g_riffled T.F_riffled.kp T.b_riffled .nil pass0 (pa_cons (pe_call (ok_first T) (hr.mono (by decide)) (by rfl) T.g_first T.F_first.kp T.b_first .nil pass0 (pa_cons (pe_callB (show CallR _ _ (rLenL K) from call_lenL) (by rfl) T.m_len (by decide +kernel) (pa_cons (pv 1) pa_nil)) pa_nil)) (pa_cons (pv 2) (pa_cons (pv 3) pa_nil)))) (pa_cons (pv 3) pa_nil))) (pg_tup rfl (pgs_cons (pg_name (i := 5) sc_joined.nd rfl (Or.inl rfl)) (pgs_cons (pg_name (i := 6) sc_joined.nd rfl (Or.inl rfl)) pgs_nil))) (pss_cons (ps_set (i := 7) sc_joined.nd rfl (Or.inl rfl) (pe_ix (show IxR _ (rIxL K) from ix_list) (pv 1) (pv 5) (fun _ _ => rfl)))
          (pss_one (ps_expr (pe_bmK (K := K) (pe_bm PySem.F.plainAttrs_list PySem.F.slot_list_append PySem.F.type_list_append mt_append (pv 4) (pa_cons (pe_op op_add (pe_op op_mul (pv 7) (pe_callB (show CallR _ _ (rLenL K) from call_lenL) (by rfl) T.m_len (by decide +kernel) (pa_cons (pv 2) pa_nil))) (pe_call (ok_turned_about T) (hr.mono (by decide)) (by rfl) T.g_turned_about T.F_turned_about.kp T.b_turned_about .nil pass0 (pa_cons (pv 0) (pa_cons (pv 2) (pa_cons (pv 7) (pa_cons (pv 6) pa_nil)))))) pa_nil)))))))
          (pss_one (ps_ret (pv 4))))))), ?_⟩
    refine ⟨_, rfl, _, rfl, _, rfl, _, _, _, rfl, (SqL.of (fr.same _ _ h_word)), (List.length_map _), a_marks, marks, a_word, ((List.map V.int word)), ((word.length : Int)), rfl, (fr.same _ _ h_marks), (fr.same _ _ h_word), ?_, ?_, ?_, fun H_1  sm_3 => ?_⟩
    · exact Sca.ints _
    · simp; omega
    · first | exact isWordV_ints pre0 (by omega) | exact isWordV_ints pre1 (by omega)
    have fr : Fr H _ [] := fr.call sm_3
    refine ⟨_, rfl, _, rfl, _, rfl, _, _, _, rfl, (SqL.of (fr.same _ _ h_word)), (List.length_map _), a_others, others, a_more, ((List.map V.int more)), ((word.length : Int)), rfl, (fr.same _ _ h_others), (fr.same _ _ h_more), ?_, ?_, ?_, fun H_4  sm_6 => ?_⟩
    · exact Sca.ints _
    · simp; omega
    · first | exact isWordV_ints pre0 (by omega) | exact isWordV_ints pre1 (by omega)
    have fr : Fr H _ [] := fr.call sm_6
    refine ⟨(Evl.sz_of (show 0 ≤ 100000 by decide)), fun l_7 nl_8 => ?_⟩
    have fr : Fr H _ [(l_7, (.lst [] : HO))] := fr.new nl_8
    have fr : Fr H _ [(l_7, (.lst (List.map V.int ([])) : HO))] := fr
    refine ⟨_, rfl, _, _, _, rfl, (SqL.of (fr.same _ _ h_word)), (List.length_map _), ((word.length : Int)), rfl, ?_, fun H_9 p_13 first_10 hp_12 sm_11 np_14 ep_15 => ?_⟩
    · omega
    have fr : Fr H _ [(p_13, (.lst (List.map V.int first_10) : HO)), (l_7, (.lst (List.map V.int ([])) : HO))] := fr.cnew sm_11 np_14 ep_15
    subst hp_12
    refine ⟨_, rfl, _, rfl, p_13, (((upto word.length))), a_others, others, a_more, more, rfl, fr.at0, (fr.same _ _ h_others), (fr.same _ _ h_more), ?_, ?_, fun H_16 p_20 riffled_17 hp_19 sm_18 np_21 ep_22 => ?_⟩
    · exact pre1
    · first | (rw [hlu]; omega) | (rw [upto_length]; omega)
    have fr : Fr H _ [(p_20, (.lst (List.map V.int riffled_17) : HO)), (p_13, (.lst (List.map V.int (((upto word.length)))) : HO)), (l_7, (.lst (List.map V.int ([])) : HO))] := fr.cnew sm_18 np_21 ep_22
    subst hp_19
    have hrl := riffleI_length (upto (Int.toNat (word.length : Int))) others more
    refine ⟨_, rfl, _, _, _, _, rfl, (SqL.of fr.at0), (SqL.of (fr.same _ _ h_more)), ?_⟩
    have fr : Fr H _ [(p_20, (.lst (List.map V.int (((riffleI (((upto word.length))) others more)))) : HO)), (l_7, (.lst (List.map V.int ([])) : HO))] := Fr.dk fr 1
    refine for_it (walkZ V.int V.int (((riffleI (((upto word.length))) others more))) more) (fun (i : Nat) σ H1 => ∃ (row_23 : List Int) (y_24 : Option V) (y_25 : Option V) (y_26 : Option V), σ = [some (V.ref a_marks), some (V.ref a_word), some (V.ref a_others), some (V.ref a_more), some (V.ref l_7), y_24, y_25, y_26] ∧ Fr H H1 [(p_20, (.lst (List.map V.int (((riffleI (((upto word.length))) others more)))) : HO)), (l_7, (.lst (List.map V.int row_23) : HO))] ∧ (row_23 = bothTo marks word others more i)) ?_ ?_ ?_ ?_
    · refine ⟨[], _, _, _, rfl, fr, ?_⟩
      · rfl
    · rintro i σ H1 hi ⟨row_23, y_24, y_25, y_26, rfl, fr, hrow⟩
      exact ⟨fr.at0, (fr.same _ _ h_more)⟩
    · rintro i_27 x_29 s_32 H_30 H_31 hi_28 ⟨row_23, y_24, y_25, y_26, rfl, fr, hrow⟩ ⟨T_33, y_34, z_35, rfl, nT_36, rfl, hy_37, hz_38⟩
      have fr := fr.tmp (o := .tup [(V.int y_34), (V.int z_35)]) nT_36
      refine ⟨_, _, rfl, (SqT.of upd_same), rfl, _, _, rfl, _, _, rfl, rfl, ?_⟩
      have hah := ahead_eq pre1 (by omega) hy_37
      have hbb := both_bd pre0 pre1 pre2.1 hah.2
      rw [← hah.1] at hbb
      have hrwl : row_23.length = i_27 := by rw [hrow]; simp [bothTo]
      refine ⟨_, rfl, _, rfl, _, _, _, _, rfl, rfl, (SqL.of (fr.same _ _ h_word)), (atD 0 ?_ ?_), ?_⟩
      · omega
      · omega
      refine ⟨_, rfl, (.inl ⟨rfl, _, (SqL.of fr.at1)⟩), _, rfl, _, rfl, _, _, _, rfl, (SqL.of (fr.same _ _ h_others)), (List.length_map _), _, _, rfl, rfl, ?_, _, rfl, _, rfl, _, rfl, _, rfl, a_marks, marks, a_others, others, ((List.getD word (Int.toNat y_34) 0)), z_35, rfl, (fr.same _ _ h_marks), (fr.same _ _ h_others), ?_, fun H_39 turned_about_40 hp_42 sm_41 => ?_⟩
      · first | exact .inl (by omega) | exact .inr (by omega)
      · omega
      have fr : Fr H _ [(p_20, (.lst (List.map V.int (((riffleI (((upto word.length))) others more)))) : HO)), (l_7, (.lst (List.map V.int row_23) : HO))] := fr.call sm_41
      subst hp_42
      refine ⟨_, _, rfl, rfl, _, _, _, rfl, rfl, fr.at1, ?_, ?_⟩
      · walk_at "size"
      have fr : Fr H _ [(p_20, (.lst (List.map V.int (((riffleI (((upto word.length))) others more)))) : HO)), (l_7, (.lst (List.map V.int ((row_23 ++ [(((List.getD word (Int.toNat y_34) 0) * (others.length : Int)) + ((turnedI marks others ((List.getD word (Int.toNat y_34) 0)) z_35)))]))) : HO))] := Fr.wrk fr 1 rfl (lst_app V.int _ _)
      refine ⟨(row_23 ++ [(((List.getD word (Int.toNat y_34) 0) * (others.length : Int)) + ((turnedI marks others ((List.getD word (Int.toNat y_34) 0)) z_35)))]), _, _, _, rfl, fr, ?_⟩
      · rw [hrow]; exact bothTo_step hah.1 hz_38
    rintro s_44 H_43 ⟨row_23, y_24, y_25, y_26, rfl, fr, hrow⟩
    have fr : Fr H _ [(l_7, (.lst (List.map V.int row_23) : HO))] := Fr.dk fr 0
    refine ⟨_, rfl, ?_⟩
    exact q _ _ row_23 (by rw [hrow]; simp only [riffleI_length, upto_length]; unfold bothW; congr 1; omega) fr.same fr.n0 fr.at0
def sp_joined_marks (K : PySem.W.Frag) : Sp := fun vs H Q _ => ∃ (a_marks : Addr) (marks : List Bool) (a_others : Addr) (others : List Bool), vs = [V.ref a_marks, V.ref a_others] ∧ H a_marks = some (.lst (List.map V.bl marks)) ∧ H a_others = some (.lst (List.map V.bl others)) ∧ (marks.length ≤ 400 ∧ others.length ≤ 400 ∧ marks.length * others.length ≤ 400) ∧ (∀ (H1 : Hp) (rA : Addr) (res : List Bool), (res = joinedM marks others) → Same H H1 → H rA = none → H1 rA = some (.lst (List.map V.bl res)) → Q (V.ref rA) H1)
theorem sc_joined_marks : FnScope ["marks", "others", "row", "heap", "other"] ["marks", "others"] (defScope s_joined_marks) := ⟨rfl, rfl, rfl, by decide +kernel, rfl, by decide +kernel, by decide +kernel⟩
theorem ok_joined_marks (T : Txt K mg) : FnOk P w K mg base CX0 2 T.f_joined_marks T.fd_joined_marks ["marks", "others"] (sp_joined_marks K) := by
  refine T.F_joined_marks.ok sc_joined_marks (fun vs H Q E h => ?_) (fun cdv A outer s H vs Q E hr h => ?_)
  · obtain ⟨a_marks, marks, a_others, others, rfl, _⟩ := h; rfl
  · obtain ⟨a_marks, marks, a_others, others, rfl, h_marks, h_others, pre0, q⟩ := h
    have fr := Fr.nil H
    refine ⟨_, (pss_cons (ps_set (i := 2) sc_joined_marks.nd rfl (Or.inl rfl) (pe_lst pa_nil))
          (pss_cons (ps_for PassesOwn.never rfl (pi_range1 (by rfl) T.m_range (pa_cons (pe_callB (show CallR _ _ (rLenL K) from call_lenL) (by rfl) T.m_len (by decide +kernel) (pa_cons (pv 0) pa_nil)) pa_nil)) (pg_name (i := 3) sc_joined_marks.nd rfl (Or.inl rfl)) (pss_one (ps_for PassesOwn.never rfl (pi_range1 (by rfl) T.m_range (pa_cons (pe_callB (show CallR _ _ (rLenL K) from call_lenL) (by rfl) T.m_len (by decide +kernel) (pa_cons (pv 1) pa_nil)) pa_nil)) (pg_name (i := 4) sc_joined_marks.nd rfl (Or.inl rfl)) (pss_one (ps_expr (pe_bmK (K := K) (pe_bm PySem.F.plainAttrs_list PySem.F.slot_list_append PySem.F.type_list_append mt_append (pv 2) (pa_cons (pe_cmpR op_neB (pe_ix (show IxR _ (rIxL K) from ix_list) (pv 0) (pv 3) (fun _ _ => rfl)) (pe_ix (show IxR _ (rIxL K) from ix_list) (pv 1) (pe_call (ok_turned_about T) (hr.mono (by decide)) (by rfl) T.g_turned_about T.F_turned_about.kp T.b_turned_about .nil pass0 (pa_cons (pv 0) (pa_cons (pv 1) (pa_cons (pv 3) (pa_cons (pv 4) pa_nil))))) (fun _ _ => rfl)) (nomark _)) pa_nil))))))))
          (pss_one (ps_ret (pv 2))))), ?_⟩
    refine ⟨(Evl.sz_of (show 0 ≤ 100000 by decide)), fun l_1 nl_2 => ?_⟩
    have fr : Fr H _ [(l_1, (.lst [] : HO))] := fr.new nl_2
    have fr : Fr H _ [(l_1, (.lst (List.map V.bl ([])) : HO))] := fr
    refine ⟨_, rfl, _, _, _, rfl, (SqL.of (fr.same _ _ h_marks)), (List.length_map _), _, rfl, ?_, ?_, ?_⟩
    · walk_at "side"
    · walk_at "side"
    refine for_it (walkR (n := marks.length)) (fun (i : Nat) σ H1 => ∃ (row_3 : List Bool) (y_4 : Option V) (y_5 : Option V), σ = [some (V.ref a_marks), some (V.ref a_others), some (V.ref l_1), y_4, y_5] ∧ Fr H H1 [(l_1, (.lst (List.map V.bl row_3) : HO))] ∧ (row_3 = joinedTo marks others i)) ?_ ?_ ?_ ?_
    · refine ⟨[], _, _, rfl, fr, ?_⟩
      · rfl
    · rintro i σ H1 hi ⟨row_3, y_4, y_5, rfl, fr, hrow⟩
      exact trivial
    · rintro i_6 x_8 s_11 H_9 H_10 hi_7 ⟨row_3, y_4, y_5, rfl, fr, hrow⟩ ⟨rfl, rfl⟩
      refine ⟨_, rfl, _, _, _, rfl, (SqL.of (fr.same _ _ h_others)), (List.length_map _), _, rfl, ?_, ?_, ?_⟩
      · walk_at "side"
      · walk_at "side"
      refine for_it (walkR (n := others.length)) (fun (i : Nat) σ H1 => ∃ (row_12 : List Bool) (y_13 : Option V), σ = [some (V.ref a_marks), some (V.ref a_others), some (V.ref l_1), some (V.int ((i_6 : Int))), y_13] ∧ Fr H H1 [(l_1, (.lst (List.map V.bl row_12) : HO))] ∧ (row_12 = joinedTo marks others i_6 ++ joinedRow marks others i_6 i)) ?_ ?_ ?_ ?_
      · refine ⟨row_3, _, rfl, fr, ?_⟩
        · rw [hrow]; simp [joinedRow]
      · rintro i σ H1 hi ⟨row_12, y_13, rfl, fr, hrow⟩
        exact trivial
      · rintro i_14 x_16 s_19 H_17 H_18 hi_15 ⟨row_12, y_13, rfl, fr, hrow⟩ ⟨rfl, rfl⟩
        refine ⟨_, rfl, (.inl ⟨rfl, _, (SqL.of fr.at0)⟩), _, rfl, _, rfl, _, _, _, _, rfl, rfl, (SqL.of (fr.same _ _ h_marks)), (atD false ?_ ?_), _, rfl, _, rfl, _, rfl, _, rfl, _, rfl, a_marks, marks, a_others, others, ((i_6 : Int)), ((i_14 : Int)), rfl, (fr.same _ _ h_marks), (fr.same _ _ h_others), ?_, fun H_20 turned_about_21 hp_23 sm_22 => ?_⟩
        · walk_at "side"
        · walk_at "side"
        · omega
        have fr : Fr H _ [(l_1, (.lst (List.map V.bl row_12) : HO))] := fr.call sm_22
        subst hp_23
        refine ⟨_, _, _, _, rfl, rfl, (SqL.of (fr.same _ _ h_others)), (atD false ?_ ?_), _, _, rfl, rfl, _, _, _, rfl, rfl, fr.at0, ?_, ?_⟩
        · have := turnedI_bd marks others ((i_6 : Int)) ((i_14 : Int)) (by omega) (by omega); omega
        · have := turnedI_bd marks others ((i_6 : Int)) ((i_14 : Int)) (by omega) (by omega); omega
        · rw [hrow]; exact Evl.sz_lt (by rw [List.length_map]; exact joined_size hi_7 hi_15 pre0.2.2)
        have fr : Fr H _ [(l_1, (.lst (List.map V.bl ((row_12 ++ [((List.getD marks (Int.toNat ((i_6 : Int))) false) != (List.getD others (Int.toNat (((turnedI marks others ((i_6 : Int)) ((i_14 : Int)))))) false))]))) : HO))] := Fr.wrk fr 0 rfl (lst_app V.bl _ _)
        refine ⟨(row_12 ++ [((List.getD marks (Int.toNat ((i_6 : Int))) false) != (List.getD others (Int.toNat (((turnedI marks others ((i_6 : Int)) ((i_14 : Int)))))) false))]), _, rfl, fr, ?_⟩
        · rw [hrow]; exact joinedRow_next _ _ _ _ _
      rintro s_25 H_24 ⟨row_12, y_13, rfl, fr, hrow⟩
      refine ⟨row_12, _, _, rfl, fr, ?_⟩
      · rw [hrow]; exact joinedTo_next _ _ _
    rintro s_27 H_26 ⟨row_3, y_4, y_5, rfl, fr, hrow⟩
    refine ⟨_, rfl, ?_⟩
    exact q _ _ row_3 (by first | assumption | rfl) fr.same fr.n0 fr.at0
def sp_Pack_whole {K : PySem.W.Frag} {mg : Str → Option Value} (T : Txt K mg) : Sp := fun vs H Q _ => ∃ (a_slf : Addr) (slf : PK), vs = [V.ref a_slf] ∧ PkAt T.C_Pack H a_slf slf ∧ (PkOk slf.order.length slf.past) ∧ (1 ≤ slf.order.length ∧ slf.order.length ≤ 60) ∧ (heapsP slf.past ≤ 400) ∧ (∀ (H1 : Hp) (rA : Addr) (a0 : Addr) (res0 : List Bool) (a1 : Addr) (res1 : List Int), (res0 = (wholeP slf.order.length slf.past).1) → (res1 = (wholeP slf.order.length slf.past).2) → Fr H H1 [(rA, HO.tup [V.ref a0, V.ref a1]), (a0, .lst (List.map V.bl res0)), (a1, .lst (List.map V.int res1))] → Q (V.ref rA) H1)
theorem sc_Pack_whole : FnScope ["self", "marks", "word", "others", "more"] ["self"] (defScope s_Pack_whole) := ⟨rfl, rfl, rfl, by decide +kernel, rfl, by decide +kernel, by decide +kernel⟩
theorem ok_Pack_whole (T : Txt K mg) : FnOk P w K mg base CX0 6 T.f_Pack_whole T.fd_Pack_whole ["self"] (sp_Pack_whole T) := by
  refine T.F_Pack_whole.ok sc_Pack_whole (fun vs H Q E h => ?_) (fun cdv A outer s H vs Q E hr h => ?_)
  · obtain ⟨a_slf, slf, rfl, _⟩ := h; rfl
  · obtain ⟨a_slf, slf, rfl, h_slf, pre0, pre1, pre2, q⟩ := h
    have fr := Fr.nil H
    have hok := pre0
    have hnb := pre1
    refine ⟨_, (pss_cons (ps_set (i := 1) sc_Pack_whole.nd rfl (Or.inl rfl) (pe_lst (pa_cons pe_bl pa_nil)))
          (pss_cons (ps_set (i := 2) sc_Pack_whole.nd rfl (Or.inl rfl) (pe_op op_rep (pe_lst (pa_cons pe_int pa_nil)) (pe_callB (show CallR _ _ (rLenL K) from call_lenL) (by rfl) T.m_len (by decide +kernel) (pa_cons (pe_fld (pv 0) rfl) pa_nil))))
          (pss_cons (ps_for PassesOwn.never rfl (pi_list (pe_fld (pv 0) rfl)) (pg_tup rfl (pgs_cons (pg_name (i := 3) sc_Pack_whole.nd rfl (Or.inl rfl)) (pgs_cons (pg_name (i := 4) sc_Pack_whole.nd rfl (Or.inl rfl)) pgs_nil))) (pss_cons (ps_if (pt_cmpR op_gtS (pe_op op_mul (pe_callB (show CallR _ _ (rLenL K) from call_lenL) (by rfl) T.m_len (by decide +kernel) (pa_cons (pv 1) pa_nil)) (pe_callB (show CallR _ _ (rLenL K) from call_lenL) (by rfl) T.m_len (by decide +kernel) (pa_cons (pv 3) pa_nil))) (pe_glob rfl T.c_HEAPS T.r_HEAPS) (nomark _)) pss_never pss_nil)
          (pss_cons (ps_set (i := 2) sc_Pack_whole.nd rfl (Or.inl rfl) (pe_call (ok_joined T) (hr.mono (by decide)) (by rfl) T.g_joined T.F_joined.kp T.b_joined .nil pass0 (pa_cons (pv 1) (pa_cons (pv 2) (pa_cons (pv 3) (pa_cons (pv 4) pa_nil))))))
          (pss_one (ps_set (i := 1) sc_Pack_whole.nd rfl (Or.inl rfl) (pe_call (ok_joined_marks T) (hr.mono (by decide)) (by rfl) T.g_joined_marks T.F_joined_marks.kp T.b_joined_marks .nil pass0 (pa_cons (pv 1) (pa_cons (pv 3) pa_nil))))))))
          (pss_one (ps_ret (pe_tup (pa_cons (pv 1) (pa_cons (pv 2) pa_nil)))))))), ?_⟩
    refine ⟨(Evl.sz_of (show 1 ≤ 100000 by decide)), fun l_1 nl_2 => ?_⟩
    have fr : Fr H _ [(l_1, (.lst (List.map V.bl ([false])) : HO))] := fr.new nl_2
    refine ⟨(Evl.sz_of (show 1 ≤ 100000 by decide)), fun l_3 nl_4 => ?_⟩
    have fr : Fr H _ [(l_3, (.lst (List.map V.int ([0])) : HO)), (l_1, (.lst (List.map V.bl ([false])) : HO))] := fr.new nl_4
    refine ⟨_, rfl, _, _, _, _, _, rfl, (fr.same _ _ (PkAt.p h_slf)), T.cl_Pack, T.na_Pack_cards, (pkF_cards _ _), _, _, _, rfl, (SqL.of (fr.same _ _ (PkAt.a h_slf))), (List.length_map _), _, _, _, rfl, rfl, fr.at0, ?_, ?_, ?_, fun l_5 nl_6 => ?_⟩
    · walk_at "side"
    · walk_at "side"
    · walk_at "size"
    have fr : Fr H _ [(l_5, (.lst (List.map V.int ((List.replicate (Int.toNat ((slf.order.length : Int))) 0))) : HO)), (l_3, (.lst (List.map V.int ([0])) : HO)), (l_1, (.lst (List.map V.bl ([false])) : HO))] := (fr.new nl_6).cast (lst_rep1 _ _ _)
    have fr : Fr H _ [(l_5, (.lst (List.map V.int ((List.replicate (Int.toNat ((slf.order.length : Int))) 0))) : HO)), (l_1, (.lst (List.map V.bl ([false])) : HO))] := Fr.dk fr 1
    refine ⟨_, rfl, _, _, _, _, _, rfl, (fr.same _ _ (PkAt.p h_slf)), T.cl_Pack, T.na_Pack_past, (pkF_past _ _), _, rfl, ⟨_, (SqL.of (fr.same _ _ (PkAt.b h_slf)))⟩, ?_⟩
    refine for_it (walkP (K := K) (a := slf.b) (es := slf.es) (pk_past slf)) (fun (i : Nat) σ H1 => ∃ (amarks_7 : Addr) (marks_8 : List Bool) (aword_9 : Addr) (word_10 : List Int) (y_11 : Option V) (y_12 : Option V), σ = [some (V.ref a_slf), some (V.ref amarks_7), some (V.ref aword_9), y_11, y_12] ∧ Fr H H1 [(aword_9, (.lst (List.map V.int word_10) : HO)), (amarks_7, (.lst (List.map V.bl marks_8) : HO))] ∧ (marks_8 = (wholeP slf.order.length (slf.past.take i)).1) ∧ (word_10 = (wholeP slf.order.length (slf.past.take i)).2)) ?_ ?_ ?_ ?_
    · refine ⟨l_1, [false], l_5, (List.replicate (Int.toNat ((slf.order.length : Int))) 0), _, _, rfl, fr, ?_, ?_⟩
      · rfl
      · rfl
    · rintro i σ H1 hi ⟨amarks_7, marks_8, aword_9, word_10, y_11, y_12, rfl, fr, hm, hw⟩
      exact (fr.same _ _ (PkAt.b h_slf))
    · rintro i_13 x_15 s_18 H_16 H_17 hi_14 ⟨amarks_7, marks_8, aword_9, word_10, y_11, y_12, rfl, fr, hm, hw⟩ ⟨rfl, y_19, hr_20, hy_21, rfl⟩
      refine ⟨_, _, rfl, (SqT.of (PesAt.t (PesAt.same (PkAt.es h_slf) fr.same) (List.mem_of_getElem? hr_20))), rfl, _, _, rfl, _, _, rfl, rfl, ?_⟩
      have htn := hp_turn (n := slf.order.length) hok hy_21
      rw [← hm] at htn
      refine ⟨_, rfl, _, _, _, rfl, (SqL.of fr.at1), (List.length_map _), _, rfl, _, _, _, rfl, (SqL.of (PesAt.m (PesAt.same (PkAt.es h_slf) fr.same) (List.mem_of_getElem? hr_20))), (List.length_map _), _, _, rfl, rfl, ?_, _, _, rfl, rfl, ?_, ?_⟩
      · exact .inr (by omega)
      · intro h22
        exfalso
        have h2 := prod_iff.mp h22; rw [htn.2.2] at h2; omega
      · intro h22
        have hle := Nat.le_of_not_lt (fun z => h22 (prod_iff.mpr z))
        have hwt := wh_turn (n := slf.order.length) hok (by assumption) (by rw [← htn.2.2]; omega)
        rw [← hm, ← hw] at hwt
        refine ⟨_, rfl, ?_⟩
        refine iteF ?_
        refine ⟨_, rfl, _, rfl, _, rfl, _, rfl, amarks_7, marks_8, aword_9, word_10, (PE.m y_19), ((PE.marks y_19)), (PE.w y_19), ((PE.word y_19)), rfl, fr.at1, fr.at0, (PesAt.m (PesAt.same (PkAt.es h_slf) fr.same) (List.mem_of_getElem? hr_20)), (PesAt.w (PesAt.same (PkAt.es h_slf) fr.same) (List.mem_of_getElem? hr_20)), ?_, ?_, ?_, ?_, fun H_23 p_27 joined_24 hp_26 sm_25 np_28 ep_29 => ?_⟩
        · exact hwt.2.2.2.1
        · exact hwt.2.2.2.2.1
        · omega
        · omega
        have fr : Fr H _ [(p_27, (.lst (List.map V.int joined_24) : HO)), (aword_9, (.lst (List.map V.int word_10) : HO)), (amarks_7, (.lst (List.map V.bl marks_8) : HO))] := fr.cnew sm_25 np_28 ep_29
        subst hp_26
        have fr : Fr H _ [(p_27, (.lst (List.map V.int (((bothW marks_8 word_10 ((PE.marks y_19)) ((PE.word y_19)))))) : HO)), (amarks_7, (.lst (List.map V.bl marks_8) : HO))] := Fr.dk fr 1
        refine ⟨_, rfl, _, rfl, amarks_7, marks_8, (PE.m y_19), ((PE.marks y_19)), rfl, fr.at1, (PesAt.m (PesAt.same (PkAt.es h_slf) fr.same) (List.mem_of_getElem? hr_20)), ?_, fun H_30 p_34 joined_marks_31 hp_33 sm_32 np_35 ep_36 => ?_⟩
        · omega
        have fr : Fr H _ [(p_34, (.lst (List.map V.bl joined_marks_31) : HO)), (p_27, (.lst (List.map V.int (((bothW marks_8 word_10 ((PE.marks y_19)) ((PE.word y_19)))))) : HO)), (amarks_7, (.lst (List.map V.bl marks_8) : HO))] := fr.cnew sm_32 np_35 ep_36
        subst hp_33
        have fr : Fr H _ [(p_34, (.lst (List.map V.bl (((joinedM marks_8 ((PE.marks y_19)))))) : HO)), (p_27, (.lst (List.map V.int (((bothW marks_8 word_10 ((PE.marks y_19)) ((PE.word y_19)))))) : HO))] := Fr.dk fr 2
        have fr : Fr H _ [(p_27, (.lst (List.map V.int (((bothW marks_8 word_10 ((PE.marks y_19)) ((PE.word y_19)))))) : HO)), (p_34, (.lst (List.map V.bl (((joinedM marks_8 ((PE.marks y_19)))))) : HO))] := Fr.upk fr 1 rfl
        refine ⟨p_34, ((joinedM marks_8 ((PE.marks y_19)))), p_27, ((bothW marks_8 word_10 ((PE.marks y_19)) ((PE.word y_19)))), _, _, rfl, fr, ?_, ?_⟩
        · rw [wh_next hy_21, hm]; rfl
        · rw [wh_next hy_21, hm, hw]; rfl
    rintro s_38 H_37 ⟨amarks_7, marks_8, aword_9, word_10, y_11, y_12, rfl, fr, hm, hw⟩
    rw [List.take_length] at hm hw
    refine ⟨_, rfl, _, rfl, (Evl.sz_of (show 2 ≤ 100000 by decide)), fun t_39 nt_40 => ?_⟩
    have fr : Fr H _ [(t_39, (.tup [(V.ref amarks_7), (V.ref aword_9)] : HO)), (aword_9, (.lst (List.map V.int word_10) : HO)), (amarks_7, (.lst (List.map V.bl marks_8) : HO))] := fr.new nt_40
    have fr : Fr H _ [(aword_9, (.lst (List.map V.int word_10) : HO)), (t_39, (.tup [(V.ref amarks_7), (V.ref aword_9)] : HO)), (amarks_7, (.lst (List.map V.bl marks_8) : HO))] := Fr.upk fr 1 rfl
    have fr : Fr H _ [(amarks_7, (.lst (List.map V.bl marks_8) : HO)), (aword_9, (.lst (List.map V.int word_10) : HO)), (t_39, (.tup [(V.ref amarks_7), (V.ref aword_9)] : HO))] := Fr.upk fr 2 rfl
    have fr : Fr H _ [(t_39, (.tup [(V.ref amarks_7), (V.ref aword_9)] : HO)), (amarks_7, (.lst (List.map V.bl marks_8) : HO)), (aword_9, (.lst (List.map V.int word_10) : HO))] := Fr.upk fr 2 rfl
    exact q _ _ amarks_7 marks_8 aword_9 word_10 (by rw [hm]) (by rw [hw]) fr
def sp_law_joined (K : PySem.W.Frag) : Sp := fun vs H Q _ => ∃ (a_past : Addr) (r_past : List PE) (past : List PC) (n : Int), vs = [V.ref a_past, V.int n] ∧ PstAt H a_past r_past past ∧ (PkOk (Int.toNat n) past) ∧ (1 ≤ n ∧ n ≤ 60) ∧ (heapsP past ≤ 400) ∧ (∀ (H1 : Hp) (rA : Addr) (a0 : Addr) (res0 : List Bool) (a1 : Addr) (res1 : List Int), (res0 = (wholeP (Int.toNat n) past).1) → (res1 = (wholeP (Int.toNat n) past).2) → Fr H H1 [(rA, HO.tup [V.ref a0, V.ref a1]), (a0, .lst (List.map V.bl res0)), (a1, .lst (List.map V.int res1))] → Q (V.ref rA) H1)
theorem sc_law_joined : FnScope ["_law_past", "_law_n", "_law_marks_here", "_law_word_here", "_law_others", "_law_more", "_law_both", "_law_mark", "_law_row", "_law_other", "_law_from_places", "_law_new", "_law_k", "_law_heap", "_law_number"] ["_law_past", "_law_n"] (defScope s_law_joined) := ⟨rfl, rfl, rfl, by decide +kernel, rfl, by decide +kernel, by decide +kernel⟩
theorem ok_law_joined (T : Txt K mg) : FnOk P w K mg base CX0 2 T.f_law_joined T.fd_law_joined ["_law_past", "_law_n"] (sp_law_joined K) := by
  refine T.F_law_joined.ok sc_law_joined (fun vs H Q E h => ?_) (fun cdv A outer s H vs Q E hr h => ?_)
  · obtain ⟨a_past, r_past, past, n, rfl, _⟩ := h; rfl
  · obtain ⟨a_past, r_past, past, n, rfl, h_past, pre0, pre1, pre2, q⟩ := h
    have fr := Fr.nil H
    have hok := pre0
    refine ⟨_, (pss_cons (ps_set (i := 2) sc_law_joined.nd rfl (Or.inl rfl) (pe_lst (pa_cons pe_bl pa_nil)))
          (pss_cons (ps_set (i := 3) sc_law_joined.nd rfl (Or.inl rfl) (pe_op op_rep (pe_lst (pa_cons pe_int pa_nil)) (pv 1)))
          (pss_cons (ps_for PassesOwn.never rfl (pi_list (pv 0)) (pg_tup rfl (pgs_cons (pg_name (i := 4) sc_law_joined.nd rfl (Or.inl rfl)) (pgs_cons (pg_name (i := 5) sc_law_joined.nd rfl (Or.inl rfl)) pgs_nil))) (pss_cons (ps_set (i := 6) sc_law_joined.nd rfl (Or.inl rfl) (pe_lst pa_nil))
          (pss_cons (ps_for PassesOwn.never rfl (pi_list (pv 2)) (pg_name (i := 7) sc_law_joined.nd rfl (Or.inl rfl)) (pss_cons (ps_set (i := 8) sc_law_joined.nd rfl (Or.inl rfl) (pe_callTy (show CallR _ _ (rListL K) from call_listL) (by rfl) T.m_list (by decide +kernel) (pa_cons (pv 4) pa_nil)))
          (pss_cut (ps_if (pt_valS (pv 7)) (pss_one (ps_set (i := 8) sc_law_joined.nd rfl (Or.inl rfl) (pe_listRev rfl (by rfl) T.m_list (by rfl) T.m_reversed (pv 4)))) pss_nil)
          (pss_one (ps_for PassesOwn.never rfl (pi_list (pv 8)) (pg_name (i := 9) sc_law_joined.nd rfl (Or.inl rfl)) (pss_one (ps_expr (pe_bmK (K := K) (pe_bm PySem.F.plainAttrs_list PySem.F.slot_list_append PySem.F.type_list_append mt_append (pv 6) (pa_cons (pe_cmpR op_neB (pv 7) (pv 9) (nomark _)) pa_nil))))))))))
          (pss_cons (ps_set (i := 10) sc_law_joined.nd rfl (Or.inl rfl) (pe_call (ok_law_riffled T) (hr.mono (by decide)) (by rfl) T.g_law_riffled T.F_law_riffled.kp T.b_law_riffled .nil pass0 (pa_cons (pe_listRg rfl (by rfl) T.m_list (prg_1 (by rfl) T.m_range (pv 1))) (pa_cons (pv 4) (pa_cons (pv 5) pa_nil)))))
          (pss_cons (ps_set (i := 11) sc_law_joined.nd rfl (Or.inl rfl) (pe_lst pa_nil))
          (pss_cons (ps_for PassesOwn.never rfl (pi_range1 (by rfl) T.m_range (pa_cons (pv 1) pa_nil)) (pg_name (i := 12) sc_law_joined.nd rfl (Or.inl rfl)) (pss_cons (ps_set (i := 13) sc_law_joined.nd rfl (Or.inl rfl) (pe_ix (show IxR _ (rIxL K) from ix_list) (pv 3) (pe_ix (show IxR _ (rIxL K) from ix_list) (pv 10) (pv 12) (fun _ _ => rfl)) (fun _ _ => rfl)))
          (pss_cons (ps_set (i := 14) sc_law_joined.nd rfl (Or.inl rfl) (pe_ix (show IxR _ (rIxL K) from ix_list) (pv 5) (pv 12) (fun _ _ => rfl)))
          (pss_cons (ps_if (pt_valS (pe_ix (show IxR _ (rIxL K) from ix_list) (pv 2) (pv 13) (fun _ _ => rfl))) (pss_one (ps_set (i := 14) sc_law_joined.nd rfl (Or.inl rfl) (pe_op op_sub (pe_op op_sub (pe_callB (show CallR _ _ (rLenL K) from call_lenL) (by rfl) T.m_len (by decide +kernel) (pa_cons (pv 4) pa_nil)) pe_int) (pv 14)))) pss_nil)
          (pss_one (ps_expr (pe_bmK (K := K) (pe_bm PySem.F.plainAttrs_list PySem.F.slot_list_append PySem.F.type_list_append mt_append (pv 11) (pa_cons (pe_op op_add (pe_op op_mul (pv 13) (pe_callB (show CallR _ _ (rLenL K) from call_lenL) (by rfl) T.m_len (by decide +kernel) (pa_cons (pv 4) pa_nil))) (pv 14)) pa_nil)))))))))
          (pss_cons (ps_set (i := 2) sc_law_joined.nd rfl (Or.inl rfl) (pv 6))
          (pss_one (ps_set (i := 3) sc_law_joined.nd rfl (Or.inl rfl) (pv 11))))))))))
          (pss_one (ps_ret (pe_tup (pa_cons (pv 2) (pa_cons (pv 3) pa_nil)))))))), ?_⟩
    refine ⟨(Evl.sz_of (show 1 ≤ 100000 by decide)), fun l_1 nl_2 => ?_⟩
    have fr : Fr H _ [(l_1, (.lst (List.map V.bl ([false])) : HO))] := fr.new nl_2
    refine ⟨(Evl.sz_of (show 1 ≤ 100000 by decide)), fun l_3 nl_4 => ?_⟩
    have fr : Fr H _ [(l_3, (.lst (List.map V.int ([0])) : HO)), (l_1, (.lst (List.map V.bl ([false])) : HO))] := fr.new nl_4
    refine ⟨_, rfl, _, _, _, rfl, rfl, fr.at0, ?_, ?_, ?_, fun l_5 nl_6 => ?_⟩
    · walk_at "side"
    · walk_at "side"
    · walk_at "size"
    have fr : Fr H _ [(l_5, (.lst (List.map V.int ((List.replicate (Int.toNat n) 0))) : HO)), (l_3, (.lst (List.map V.int ([0])) : HO)), (l_1, (.lst (List.map V.bl ([false])) : HO))] := (fr.new nl_6).cast (lst_rep1 _ _ _)
    have fr : Fr H _ [(l_5, (.lst (List.map V.int ((List.replicate (Int.toNat n) 0))) : HO)), (l_1, (.lst (List.map V.bl ([false])) : HO))] := Fr.dk fr 1
    refine ⟨_, rfl, _, rfl, ⟨_, (SqL.of (fr.same _ _ h_past.e))⟩, ?_⟩
    refine for_it (walkP (K := K) (a := a_past) (es := r_past) h_past.c) (fun (i : Nat) σ H1 => ∃ (a_law_marks_7 : Addr) (marks_8 : List Bool) (a_law_word_9 : Addr) (word_10 : List Int) (y_11 : Option V) (y_12 : Option V) (y_13 : Option V) (y_14 : Option V) (y_15 : Option V) (y_16 : Option V) (y_17 : Option V) (y_18 : Option V) (y_19 : Option V) (y_20 : Option V) (y_21 : Option V), σ = [some (V.ref a_past), some (V.int n), some (V.ref a_law_marks_7), some (V.ref a_law_word_9), y_11, y_12, y_13, y_14, y_15, y_16, y_17, y_18, y_19, y_20, y_21] ∧ Fr H H1 [(a_law_word_9, (.lst (List.map V.int word_10) : HO)), (a_law_marks_7, (.lst (List.map V.bl marks_8) : HO))] ∧ (marks_8 = (wholeP (Int.toNat n) (past.take i)).1) ∧ (word_10 = (wholeP (Int.toNat n) (past.take i)).2)) ?_ ?_ ?_ ?_
    · refine ⟨l_1, [false], l_5, (List.replicate (Int.toNat n) 0), _, _, _, _, _, _, _, _, _, _, _, rfl, fr, ?_, ?_⟩
      · rfl
      · rfl
    · rintro i σ H1 hi ⟨a_law_marks_7, marks_8, a_law_word_9, word_10, y_11, y_12, y_13, y_14, y_15, y_16, y_17, y_18, y_19, y_20, y_21, rfl, fr, hm, hw⟩
      exact (fr.same _ _ h_past.e)
    · rintro i_22 x_24 s_27 H_25 H_26 hi_23 ⟨a_law_marks_7, marks_8, a_law_word_9, word_10, y_11, y_12, y_13, y_14, y_15, y_16, y_17, y_18, y_19, y_20, y_21, rfl, fr, hm, hw⟩ ⟨rfl, y_28, hr_29, hy_30, rfl⟩
      refine ⟨_, _, rfl, (SqT.of (PesAt.t (PesAt.same h_past.r fr.same) (List.mem_of_getElem? hr_29))), rfl, _, _, rfl, _, _, rfl, rfl, ?_⟩
      have htn := hp_turn (n := (Int.toNat n)) hok hy_30
      have hwt := wh_turn (n := (Int.toNat n)) hok hy_30 (Nat.le_trans htn.1 pre2)
      rw [← hm, ← hw] at hwt
      refine ⟨(Evl.sz_of (show 0 ≤ 100000 by decide)), fun l_31 nl_32 => ?_⟩
      have fr : Fr H _ [(l_31, (.lst [] : HO)), (a_law_word_9, (.lst (List.map V.int word_10) : HO)), (a_law_marks_7, (.lst (List.map V.bl marks_8) : HO))] := fr.new nl_32
      have fr : Fr H _ [(l_31, (.lst (List.map V.bl ([])) : HO)), (a_law_word_9, (.lst (List.map V.int word_10) : HO)), (a_law_marks_7, (.lst (List.map V.bl marks_8) : HO))] := fr
      refine ⟨_, rfl, _, rfl, ⟨_, (SqL.of fr.at2)⟩, ?_⟩
      refine for_it (walkL V.bl marks_8) (fun (i : Nat) σ H1 => ∃ (both_33 : List Bool) (y_34 : Option V) (y_35 : Option V) (y_36 : Option V), σ = [some (V.ref a_past), some (V.int n), some (V.ref a_law_marks_7), some (V.ref a_law_word_9), some (V.ref (PE.m y_28)), some (V.ref (PE.w y_28)), some (V.ref l_31), y_34, y_35, y_36, y_17, y_18, y_19, y_20, y_21] ∧ Fr H H1 [(l_31, (.lst (List.map V.bl both_33) : HO)), (a_law_word_9, (.lst (List.map V.int word_10) : HO)), (a_law_marks_7, (.lst (List.map V.bl marks_8) : HO))] ∧ (both_33 = dueTo marks_8 ((PE.marks y_28)) i)) ?_ ?_ ?_ ?_
      · refine ⟨[], _, _, _, rfl, fr, ?_⟩
        · rfl
      · rintro i σ H1 hi ⟨both_33, y_34, y_35, y_36, rfl, fr, hb0⟩
        exact fr.at2
      · rintro i_37 x_39 s_42 H_40 H_41 hi_38 ⟨both_33, y_34, y_35, y_36, rfl, fr, hb0⟩ ⟨rfl, y_43, hy_44, rfl⟩
        refine ⟨_, rfl, _, _, rfl, (.inl (SqL.of (PesAt.m (PesAt.same h_past.r fr.same) (List.mem_of_getElem? hr_29)))), fun l_45 nl_46 => ?_⟩
        have fr : Fr H _ [(l_45, (.lst (List.map V.bl ((PE.marks y_28))) : HO)), (l_31, (.lst (List.map V.bl both_33) : HO)), (a_law_word_9, (.lst (List.map V.int word_10) : HO)), (a_law_marks_7, (.lst (List.map V.bl marks_8) : HO))] := fr.new nl_46
        refine ⟨fun σ H1 => ∃ (a_law_row_47 : Addr) (row_48 : List Bool), σ = [some (V.ref a_past), some (V.int n), some (V.ref a_law_marks_7), some (V.ref a_law_word_9), some (V.ref (PE.m y_28)), some (V.ref (PE.w y_28)), some (V.ref l_31), some (V.bl y_43), some (V.ref a_law_row_47), y_36, y_17, y_18, y_19, y_20, y_21] ∧ Fr H H1 [(a_law_row_47, (.lst (List.map V.bl row_48) : HO)), (l_31, (.lst (List.map V.bl both_33) : HO)), (a_law_word_9, (.lst (List.map V.int word_10) : HO)), (a_law_marks_7, (.lst (List.map V.bl marks_8) : HO))] ∧ (row_48 = dueRow y_43 ((PE.marks y_28))), ?_, ?_⟩
        · refine ⟨_, rfl, _, rfl, ?_, ?_⟩
          · intro h49
            refine iteT ?_
            refine ⟨_, rfl, _, _, rfl, (SqL.of (PesAt.m (PesAt.same h_past.r fr.same) (List.mem_of_getElem? hr_29))), fun l_50 nl_51 => ?_⟩
            have fr : Fr H _ [(l_50, (.lst (List.map V.bl ((List.reverse ((PE.marks y_28))))) : HO)), (l_45, (.lst (List.map V.bl ((PE.marks y_28))) : HO)), (l_31, (.lst (List.map V.bl both_33) : HO)), (a_law_word_9, (.lst (List.map V.int word_10) : HO)), (a_law_marks_7, (.lst (List.map V.bl marks_8) : HO))] := (fr.new nl_51).cast (lst_rev _ _)
            have fr : Fr H _ [(l_50, (.lst (List.map V.bl ((List.reverse ((PE.marks y_28))))) : HO)), (l_31, (.lst (List.map V.bl both_33) : HO)), (a_law_word_9, (.lst (List.map V.int word_10) : HO)), (a_law_marks_7, (.lst (List.map V.bl marks_8) : HO))] := Fr.dk fr 1
            refine ⟨l_50, (List.reverse ((PE.marks y_28))), rfl, fr, ?_⟩
            · simp_all [dueRow]
          · intro h49
            refine iteF ?_
            refine ⟨l_45, (PE.marks y_28), rfl, fr, ?_⟩
            · simp_all [dueRow]
        rintro s_53 H_52 ⟨a_law_row_47, row_48, rfl, fr, hj⟩
        refine ⟨_, rfl, _, rfl, ⟨_, (SqL.of fr.at0)⟩, ?_⟩
        refine for_it (walkL V.bl row_48) (fun (i : Nat) σ H1 => ∃ (both_54 : List Bool) (y_55 : Option V), σ = [some (V.ref a_past), some (V.int n), some (V.ref a_law_marks_7), some (V.ref a_law_word_9), some (V.ref (PE.m y_28)), some (V.ref (PE.w y_28)), some (V.ref l_31), some (V.bl y_43), some (V.ref a_law_row_47), y_55, y_17, y_18, y_19, y_20, y_21] ∧ Fr H H1 [(a_law_row_47, (.lst (List.map V.bl row_48) : HO)), (l_31, (.lst (List.map V.bl both_54) : HO)), (a_law_word_9, (.lst (List.map V.int word_10) : HO)), (a_law_marks_7, (.lst (List.map V.bl marks_8) : HO))] ∧ (both_54 = dueTo marks_8 ((PE.marks y_28)) i_37 ++ (row_48.take i).map fun o => y_43 != o)) ?_ ?_ ?_ ?_
        · refine ⟨both_33, _, rfl, fr, ?_⟩
          · rw [hb0]; simp
        · rintro i σ H1 hi ⟨both_54, y_55, rfl, fr, hb0⟩
          exact fr.at0
        · rintro i_56 x_58 s_61 H_59 H_60 hi_57 ⟨both_54, y_55, rfl, fr, hb0⟩ ⟨rfl, y_62, hy_63, rfl⟩
          refine ⟨_, rfl, (.inl ⟨rfl, _, (SqL.of fr.at1)⟩), _, rfl, _, rfl, _, _, rfl, rfl, _, _, _, rfl, rfl, fr.at1, ?_, ?_⟩
          · rw [hb0, List.length_map, List.length_append, List.length_map]; exact Evl.sz_lt (due_size hi_38 hi_57 (by omega) hj)
          have fr : Fr H _ [(a_law_row_47, (.lst (List.map V.bl row_48) : HO)), (l_31, (.lst (List.map V.bl ((both_54 ++ [(y_43 != y_62)]))) : HO)), (a_law_word_9, (.lst (List.map V.int word_10) : HO)), (a_law_marks_7, (.lst (List.map V.bl marks_8) : HO))] := Fr.wrk fr 1 rfl (lst_app V.bl _ _)
          refine ⟨(both_54 ++ [(y_43 != y_62)]), _, rfl, fr, ?_⟩
          · rw [hb0, take_next hy_63]; simp
        rintro s_65 H_64 ⟨both_54, y_55, rfl, fr, hb0⟩
        have fr : Fr H _ [(l_31, (.lst (List.map V.bl both_54) : HO)), (a_law_word_9, (.lst (List.map V.int word_10) : HO)), (a_law_marks_7, (.lst (List.map V.bl marks_8) : HO))] := Fr.dk fr 0
        refine ⟨both_54, _, _, _, rfl, fr, ?_⟩
        · rw [hb0]; exact dueTo_next hy_44 hj
      rintro s_67 H_66 ⟨both_33, y_34, y_35, y_36, rfl, fr, hb0⟩
      rw [dueTo_all] at hb0
      refine ⟨_, rfl, _, rfl, ?_, fun l_68 nl_69 => ?_⟩
      · walk_at "rgok"
      have fr : Fr H _ [(l_68, (.lst (List.map V.int ((rangeI n))) : HO)), (l_31, (.lst (List.map V.bl both_33) : HO)), (a_law_word_9, (.lst (List.map V.int word_10) : HO)), (a_law_marks_7, (.lst (List.map V.bl marks_8) : HO))] := (fr.new nl_69).cast (lst_rng _)
      refine ⟨_, rfl, _, rfl, l_68, ((rangeI n)), (PE.m y_28), ((PE.marks y_28)), (PE.w y_28), ((PE.word y_28)), rfl, fr.at0, (PesAt.m (PesAt.same h_past.r fr.same) (List.mem_of_getElem? hr_29)), (PesAt.w (PesAt.same h_past.r fr.same) (List.mem_of_getElem? hr_29)), ?_, ?_, fun H_70 p_74 riffled_71 hp_73 sm_72 np_75 ep_76 => ?_⟩
      · exact hwt.2.2.2.2.1
      · refine ⟨?_, by omega, ?_⟩ <;> (simp [rangeI]; omega)
      have fr : Fr H _ [(p_74, (.lst (List.map V.int riffled_71) : HO)), (l_68, (.lst (List.map V.int ((rangeI n))) : HO)), (l_31, (.lst (List.map V.bl both_33) : HO)), (a_law_word_9, (.lst (List.map V.int word_10) : HO)), (a_law_marks_7, (.lst (List.map V.bl marks_8) : HO))] := fr.cnew sm_72 np_75 ep_76
      subst hp_73
      have hfl : (((riffleI ((rangeI n)) ((PE.marks y_28)) ((PE.word y_28))))).length = (Int.toNat n) := by rw [riffleI_length]; omega
      have fr : Fr H _ [(p_74, (.lst (List.map V.int (((riffleI ((rangeI n)) ((PE.marks y_28)) ((PE.word y_28)))))) : HO)), (l_31, (.lst (List.map V.bl both_33) : HO)), (a_law_word_9, (.lst (List.map V.int word_10) : HO)), (a_law_marks_7, (.lst (List.map V.bl marks_8) : HO))] := Fr.dk fr 1
      refine ⟨(Evl.sz_of (show 0 ≤ 100000 by decide)), fun l_77 nl_78 => ?_⟩
      have fr : Fr H _ [(l_77, (.lst [] : HO)), (p_74, (.lst (List.map V.int (((riffleI ((rangeI n)) ((PE.marks y_28)) ((PE.word y_28)))))) : HO)), (l_31, (.lst (List.map V.bl both_33) : HO)), (a_law_word_9, (.lst (List.map V.int word_10) : HO)), (a_law_marks_7, (.lst (List.map V.bl marks_8) : HO))] := fr.new nl_78
      have fr : Fr H _ [(l_77, (.lst (List.map V.int ([])) : HO)), (p_74, (.lst (List.map V.int (((riffleI ((rangeI n)) ((PE.marks y_28)) ((PE.word y_28)))))) : HO)), (l_31, (.lst (List.map V.bl both_33) : HO)), (a_law_word_9, (.lst (List.map V.int word_10) : HO)), (a_law_marks_7, (.lst (List.map V.bl marks_8) : HO))] := fr
      refine ⟨_, rfl, _, rfl, ?_, ?_, ?_⟩
      · walk_at "side"
      · walk_at "side"
      refine for_it (walkR (n := (Int.toNat n))) (fun (i : Nat) σ H1 => ∃ (new_79 : List Int) (y_80 : Option V) (y_81 : Option V) (y_82 : Option V), σ = [some (V.ref a_past), some (V.int n), some (V.ref a_law_marks_7), some (V.ref a_law_word_9), some (V.ref (PE.m y_28)), some (V.ref (PE.w y_28)), some (V.ref l_31), y_34, y_35, y_36, some (V.ref p_74), some (V.ref l_77), y_80, y_81, y_82] ∧ Fr H H1 [(l_77, (.lst (List.map V.int new_79) : HO)), (p_74, (.lst (List.map V.int (((riffleI ((rangeI n)) ((PE.marks y_28)) ((PE.word y_28)))))) : HO)), (l_31, (.lst (List.map V.bl both_33) : HO)), (a_law_word_9, (.lst (List.map V.int word_10) : HO)), (a_law_marks_7, (.lst (List.map V.bl marks_8) : HO))] ∧ (new_79 = bothTo marks_8 word_10 ((PE.marks y_28)) ((PE.word y_28)) i)) ?_ ?_ ?_ ?_
      · refine ⟨[], _, _, _, rfl, fr, ?_⟩
        · rfl
      · rintro i σ H1 hi ⟨new_79, y_80, y_81, y_82, rfl, fr, hne⟩
        exact trivial
      · rintro i_83 x_85 s_88 H_86 H_87 hi_84 ⟨new_79, y_80, y_81, y_82, rfl, fr, hne⟩ ⟨rfl, rfl⟩
        have hir := getElem?_getD (0 : Int) (xs := (((riffleI ((rangeI n)) ((PE.marks y_28)) ((PE.word y_28)))))) (i := i_83) (by omega)
        have hah := ahead_eq hwt.2.2.2.2.1 hwt.2.2.2.2.2.1 hir
        have hbb := both_bd hwt.2.2.2.1 hwt.2.2.2.2.1 (by omega) hah.2
        rw [← hah.1] at hbb
        have hnl : new_79.length = i_83 := by rw [hne]; simp [bothTo]
        refine ⟨_, rfl, _, rfl, _, rfl, _, _, _, _, rfl, rfl, (SqL.of fr.at1), (atD 0 ?_ ?_), _, _, _, _, rfl, rfl, (SqL.of fr.at3), (atD 0 ?_ ?_), ?_⟩
        · walk_at "side"
        · walk_at "side"
        · walk_at "side"
        · walk_at "side"
        refine ⟨_, rfl, _, rfl, _, _, _, _, rfl, rfl, (SqL.of (PesAt.w (PesAt.same h_past.r fr.same) (List.mem_of_getElem? hr_29))), (atD 0 ?_ ?_), ?_⟩
        · walk_at "side"
        · walk_at "side"
        refine ⟨_, rfl, _, rfl, _, _, _, _, rfl, rfl, (SqL.of (Fr.atk fr 4 rfl)), (atD false ?_ ?_), _, rfl, ?_, ?_⟩
        · walk_at "side"
        · walk_at "side"
        · intro h89
          refine iteT ?_
          refine ⟨_, rfl, _, _, _, rfl, (SqL.of (PesAt.m (PesAt.same h_past.r fr.same) (List.mem_of_getElem? hr_29))), (List.length_map _), _, _, rfl, rfl, _, rfl, _, _, rfl, rfl, ?_⟩
          refine ⟨_, rfl, (.inl ⟨rfl, _, (SqL.of fr.at0)⟩), _, rfl, _, rfl, _, _, _, rfl, (SqL.of (PesAt.m (PesAt.same h_past.r fr.same) (List.mem_of_getElem? hr_29))), (List.length_map _), _, _, rfl, rfl, ?_, _, rfl, _, _, rfl, rfl, _, _, _, rfl, rfl, fr.at0, ?_, ?_⟩
          · first | exact .inl (by omega) | exact .inr (by omega)
          · walk_at "size"
          have fr : Fr H _ [(l_77, (.lst (List.map V.int ((new_79 ++ [(((List.getD word_10 (Int.toNat ((List.getD (((riffleI ((rangeI n)) ((PE.marks y_28)) ((PE.word y_28))))) (Int.toNat ((i_83 : Int))) 0))) 0) * (((PE.marks y_28)).length : Int)) + (((((PE.marks y_28)).length : Int) - 1) - (List.getD ((PE.word y_28)) (Int.toNat ((i_83 : Int))) 0)))]))) : HO)), (p_74, (.lst (List.map V.int (((riffleI ((rangeI n)) ((PE.marks y_28)) ((PE.word y_28)))))) : HO)), (l_31, (.lst (List.map V.bl both_33) : HO)), (a_law_word_9, (.lst (List.map V.int word_10) : HO)), (a_law_marks_7, (.lst (List.map V.bl marks_8) : HO))] := Fr.wrk fr 0 rfl (lst_app V.int _ _)
          refine ⟨(new_79 ++ [(((List.getD word_10 (Int.toNat ((List.getD (((riffleI ((rangeI n)) ((PE.marks y_28)) ((PE.word y_28))))) (Int.toNat ((i_83 : Int))) 0))) 0) * (((PE.marks y_28)).length : Int)) + (((((PE.marks y_28)).length : Int) - 1) - (List.getD ((PE.word y_28)) (Int.toNat ((i_83 : Int))) 0)))]), _, _, _, rfl, fr, ?_⟩
          · rw [hne]; first | exact bothTo_law_t hwt.2.2.2.2.1 hwt.2.2.2.2.2.1 hi_84 rfl (by assumption) | exact bothTo_law_f hwt.2.2.2.2.1 hwt.2.2.2.2.2.1 hi_84 rfl (by assumption)
        · intro h89
          refine iteF ?_
          refine ⟨_, rfl, (.inl ⟨rfl, _, (SqL.of fr.at0)⟩), _, rfl, _, rfl, _, _, _, rfl, (SqL.of (PesAt.m (PesAt.same h_past.r fr.same) (List.mem_of_getElem? hr_29))), (List.length_map _), _, _, rfl, rfl, ?_, _, rfl, _, _, rfl, rfl, _, _, _, rfl, rfl, fr.at0, ?_, ?_⟩
          · first | exact .inl (by omega) | exact .inr (by omega)
          · walk_at "size"
          have fr : Fr H _ [(l_77, (.lst (List.map V.int ((new_79 ++ [(((List.getD word_10 (Int.toNat ((List.getD (((riffleI ((rangeI n)) ((PE.marks y_28)) ((PE.word y_28))))) (Int.toNat ((i_83 : Int))) 0))) 0) * (((PE.marks y_28)).length : Int)) + (List.getD ((PE.word y_28)) (Int.toNat ((i_83 : Int))) 0))]))) : HO)), (p_74, (.lst (List.map V.int (((riffleI ((rangeI n)) ((PE.marks y_28)) ((PE.word y_28)))))) : HO)), (l_31, (.lst (List.map V.bl both_33) : HO)), (a_law_word_9, (.lst (List.map V.int word_10) : HO)), (a_law_marks_7, (.lst (List.map V.bl marks_8) : HO))] := Fr.wrk fr 0 rfl (lst_app V.int _ _)
          refine ⟨(new_79 ++ [(((List.getD word_10 (Int.toNat ((List.getD (((riffleI ((rangeI n)) ((PE.marks y_28)) ((PE.word y_28))))) (Int.toNat ((i_83 : Int))) 0))) 0) * (((PE.marks y_28)).length : Int)) + (List.getD ((PE.word y_28)) (Int.toNat ((i_83 : Int))) 0))]), _, _, _, rfl, fr, ?_⟩
          · rw [hne]; first | exact bothTo_law_t hwt.2.2.2.2.1 hwt.2.2.2.2.2.1 hi_84 rfl (by assumption) | exact bothTo_law_f hwt.2.2.2.2.1 hwt.2.2.2.2.2.1 hi_84 rfl (by assumption)
      rintro s_91 H_90 ⟨new_79, y_80, y_81, y_82, rfl, fr, hne⟩
      rw [show (Int.toNat n) = ((PE.word y_28)).length by omega] at hne
      refine ⟨_, rfl, ?_⟩
      have fr : Fr H _ [(l_77, (.lst (List.map V.int new_79) : HO)), (p_74, (.lst (List.map V.int (((riffleI ((rangeI n)) ((PE.marks y_28)) ((PE.word y_28)))))) : HO)), (l_31, (.lst (List.map V.bl both_33) : HO)), (a_law_word_9, (.lst (List.map V.int word_10) : HO))] := Fr.dk fr 4
      refine ⟨_, rfl, ?_⟩
      have fr : Fr H _ [(l_77, (.lst (List.map V.int new_79) : HO)), (p_74, (.lst (List.map V.int (((riffleI ((rangeI n)) ((PE.marks y_28)) ((PE.word y_28)))))) : HO)), (l_31, (.lst (List.map V.bl both_33) : HO))] := Fr.dk fr 3
      have fr : Fr H _ [(l_77, (.lst (List.map V.int new_79) : HO)), (l_31, (.lst (List.map V.bl both_33) : HO))] := Fr.dk fr 1
      refine ⟨l_31, both_33, l_77, new_79, _, _, _, _, _, _, _, _, _, _, _, rfl, fr, ?_, ?_⟩
      · rw [wh_next hy_30]; show _ = joinedM _ _; rw [← hm]; exact hb0
      · rw [wh_next hy_30]; show _ = bothW _ _ _ _; rw [← hm, ← hw]; exact hne
    rintro s_93 H_92 ⟨a_law_marks_7, marks_8, a_law_word_9, word_10, y_11, y_12, y_13, y_14, y_15, y_16, y_17, y_18, y_19, y_20, y_21, rfl, fr, hm, hw⟩
    rw [List.take_length] at hm hw
    refine ⟨_, rfl, _, rfl, (Evl.sz_of (show 2 ≤ 100000 by decide)), fun t_94 nt_95 => ?_⟩
    have fr : Fr H _ [(t_94, (.tup [(V.ref a_law_marks_7), (V.ref a_law_word_9)] : HO)), (a_law_word_9, (.lst (List.map V.int word_10) : HO)), (a_law_marks_7, (.lst (List.map V.bl marks_8) : HO))] := fr.new nt_95
    have fr : Fr H _ [(a_law_word_9, (.lst (List.map V.int word_10) : HO)), (t_94, (.tup [(V.ref a_law_marks_7), (V.ref a_law_word_9)] : HO)), (a_law_marks_7, (.lst (List.map V.bl marks_8) : HO))] := Fr.upk fr 1 rfl
    have fr : Fr H _ [(a_law_marks_7, (.lst (List.map V.bl marks_8) : HO)), (a_law_word_9, (.lst (List.map V.int word_10) : HO)), (t_94, (.tup [(V.ref a_law_marks_7), (V.ref a_law_word_9)] : HO))] := Fr.upk fr 2 rfl
    have fr : Fr H _ [(t_94, (.tup [(V.ref a_law_marks_7), (V.ref a_law_word_9)] : HO)), (a_law_marks_7, (.lst (List.map V.bl marks_8) : HO)), (a_law_word_9, (.lst (List.map V.int word_10) : HO))] := Fr.upk fr 2 rfl
    exact q _ _ a_law_marks_7 marks_8 a_law_word_9 word_10 (by exact hm) (by exact hw) fr
def sp_law_is (K : PySem.W.Frag) : Sp := fun vs H Q _ => ∃ (a_marks : Addr) (marks : List Bool) (a_word : Addr) (word : List Int) (many : Int) (n : Int), vs = [V.ref a_marks, V.ref a_word, V.int many, V.int n] ∧ H a_marks = some (.lst (List.map V.bl marks)) ∧ H a_word = some (.lst (List.map V.int word)) ∧ ((marks.length : Int) = many) ∧ ((word.length : Int) = n) ∧ (IsW marks.length word) ∧ (∀ (H1 : Hp) (res : Bool), (res = true) → Same H H1 → Q (V.bl res) H1)
theorem sc_law_is : FnScope ["_law_marks_here", "_law_word_here", "_law_many", "_law_n", "_law_mark", "_law_number"] ["_law_marks_here", "_law_word_here", "_law_many", "_law_n"] (defScope s_law_is) := ⟨rfl, rfl, rfl, by decide +kernel, rfl, by decide +kernel, by decide +kernel⟩
theorem ok_law_is (T : Txt K mg) : FnOk P w K mg base CX0 1 T.f_law_is T.fd_law_is ["_law_marks_here", "_law_word_here", "_law_many", "_law_n"] (sp_law_is K) := by
  refine T.F_law_is.ok sc_law_is (fun vs H Q E h => ?_) (fun cdv A outer s H vs Q E hr h => ?_)
  · obtain ⟨a_marks, marks, a_word, word, many, n, rfl, _⟩ := h; rfl
  · obtain ⟨a_marks, marks, a_word, word, many, n, rfl, h_marks, h_word, pre0, pre1, pre2, q⟩ := h
    have fr := Fr.nil H
    refine ⟨_, (pss_cons (ps_if (PW.pt (pw_or (pt_not (pt_valS (pe_callB (show CallR _ _ (rIsi K) from call_isi) (by rfl) T.m_isinstance (by decide +kernel) (pa_cons (pv 0) (pa_cons (pe_bltn (v := .ty "list") (by rfl) T.m_list (by decide +kernel) rfl) pa_nil))))) (pw_or (pt_cmpR op_neS (pe_callB (show CallR _ _ (rLenL K) from call_lenL) (by rfl) T.m_len (by decide +kernel) (pa_cons (pv 0) pa_nil)) (pv 2) (nomark _)) (pw_or (pt_not (pt_valS (pe_callB (show CallR _ _ (rIsi K) from call_isi) (by rfl) T.m_isinstance (by decide +kernel) (pa_cons (pv 1) (pa_cons (pe_bltn (v := .ty "list") (by rfl) T.m_list (by decide +kernel) rfl) pa_nil))))) (pw_or1 (pt_cmpR op_neS (pe_callB (show CallR _ _ (rLenL K) from call_lenL) (by rfl) T.m_len (by decide +kernel) (pa_cons (pv 1) pa_nil)) (pv 3) (nomark _))))))) (pss_one (ps_ret pe_bl)) pss_nil)
          (pss_cons (ps_for PassesOwn.never rfl (pi_list (pv 0)) (pg_name (i := 4) sc_law_is.nd rfl (Or.inl rfl)) (pss_one (ps_if (pt_not (pt_valS (pe_callB (show CallR _ _ (rIsi K) from call_isi) (by rfl) T.m_isinstance (by decide +kernel) (pa_cons (pv 4) (pa_cons (pe_bltn (v := .ty "bool") (by rfl) T.m_bool (by decide +kernel) rfl) pa_nil))))) (pss_one (ps_ret pe_bl)) pss_nil)))
          (pss_cons (ps_for PassesOwn.never rfl (pi_list (pv 1)) (pg_name (i := 5) sc_law_is.nd rfl (Or.inl rfl)) (pss_one (ps_if (PW.pt (pw_or (pt_not (pt_valS (pe_callB (show CallR _ _ (rIsi K) from call_isi) (by rfl) T.m_isinstance (by decide +kernel) (pa_cons (pv 5) (pa_cons (pe_bltn (v := .ty "int") (by rfl) T.m_int (by decide +kernel) rfl) pa_nil))))) (pw_or (pt_valS (pe_callB (show CallR _ _ (rIsi K) from call_isi) (by rfl) T.m_isinstance (by decide +kernel) (pa_cons (pv 5) (pa_cons (pe_bltn (v := .ty "bool") (by rfl) T.m_bool (by decide +kernel) rfl) pa_nil)))) (pw_or (pt_cmpR op_ltS (pv 5) pe_int (nomark _)) (pw_or1 (pt_cmpR op_geS (pv 5) (pv 2) (nomark _))))))) (pss_one (ps_ret pe_bl)) pss_nil)))
          (pss_one (ps_ret pe_bl))))), ?_⟩
    refine ⟨_, rfl, _, _, _, _, _, rfl, (ClsV.ty _), (.base (.lst (fr.same _ _ h_marks))), (kit_ty (r := true) (by decide +kernel)), _, rfl, fun _ => ?_, (fun h => nomatch h)⟩
    refine iteF ?_
    refine ⟨_, rfl, _, _, _, rfl, (SqL.of (fr.same _ _ h_marks)), (List.length_map _), _, rfl, _, _, rfl, rfl, ?_, ?_⟩
    · intro h1
      exfalso
      omega
    · intro h1
      refine ⟨_, rfl, ?_⟩
      refine iteF ?_
      refine ⟨_, rfl, _, _, _, _, _, rfl, (ClsV.ty _), (.base (.lst (fr.same _ _ h_word))), (kit_ty (r := true) (by decide +kernel)), _, rfl, fun _ => ?_, (fun h => nomatch h)⟩
      refine iteF ?_
      refine ⟨_, rfl, _, _, _, rfl, (SqL.of (fr.same _ _ h_word)), (List.length_map _), _, rfl, _, _, rfl, rfl, ?_, ?_⟩
      · intro h2
        exfalso
        omega
      · intro h2
        refine ⟨_, rfl, ?_⟩
        refine iteF ?_
        refine ⟨_, rfl, _, rfl, ⟨_, (SqL.of (fr.same _ _ h_marks))⟩, ?_⟩
        refine for_it (walkL V.bl marks) (fun (i : Nat) σ H1 => ∃ (y_3 : Option V), σ = [some (V.ref a_marks), some (V.ref a_word), some (V.int many), some (V.int n), y_3, none] ∧ Fr H H1 []) ?_ ?_ ?_ ?_
        · refine ⟨_, rfl, fr⟩
        · rintro i σ H1 hi ⟨y_3, rfl, fr⟩
          exact (fr.same _ _ h_marks)
        · rintro i_4 x_6 s_9 H_7 H_8 hi_5 ⟨y_3, rfl, fr⟩ ⟨rfl, y_10, hy_11, rfl⟩
          refine ⟨_, rfl, _, _, _, _, _, rfl, (ClsV.ty _), (.base (.bl _)), (kit_ty (r := true) (by decide +kernel)), _, rfl, fun _ => ?_, (fun h => nomatch h)⟩
          refine iteF ?_
          refine ⟨_, rfl, fr⟩
        rintro s_13 H_12 ⟨y_3, rfl, fr⟩
        refine ⟨_, rfl, _, rfl, ⟨_, (SqL.of (fr.same _ _ h_word))⟩, ?_⟩
        refine for_it (walkL V.int word) (fun (i : Nat) σ H1 => ∃ (y_14 : Option V), σ = [some (V.ref a_marks), some (V.ref a_word), some (V.int many), some (V.int n), y_3, y_14] ∧ Fr H H1 []) ?_ ?_ ?_ ?_
        · refine ⟨_, rfl, fr⟩
        · rintro i σ H1 hi ⟨y_14, rfl, fr⟩
          exact (fr.same _ _ h_word)
        · rintro i_15 x_17 s_20 H_18 H_19 hi_16 ⟨y_14, rfl, fr⟩ ⟨rfl, y_21, hy_22, rfl⟩
          have hb := pre2.at hy_22
          refine ⟨_, rfl, _, _, _, _, _, rfl, (ClsV.ty _), (.base (.int _)), (kit_ty (r := true) (by decide +kernel)), _, rfl, fun _ => ?_, (fun h => nomatch h)⟩
          refine iteF ?_
          refine ⟨_, rfl, _, _, _, _, _, rfl, (ClsV.ty _), (.base (.int _)), (kit_ty (r := false) (by decide +kernel)), _, rfl, (fun h => nomatch h), fun _ => ?_⟩
          refine iteF ?_
          refine ⟨_, rfl, _, _, rfl, rfl, ?_, ?_⟩
          · intro h23
            exfalso
            omega
          · intro h23
            refine ⟨_, rfl, ?_⟩
            refine iteF ?_
            refine ⟨_, rfl, _, rfl, _, _, rfl, rfl, ?_, ?_⟩
            · intro h24
              exfalso
              omega
            · intro h24
              refine ⟨_, rfl, ?_⟩
              refine iteF ?_
              refine ⟨_, rfl, fr⟩
        rintro s_26 H_25 ⟨y_14, rfl, fr⟩
        exact q _ true (by rfl) fr.same
def sp_law_leads {K : PySem.W.Frag} {mg : Str → Option Value} (T : Txt K mg) : Sp := fun vs H Q _ => ∃ (a_pack : Addr) (pack : PK) (a_order : Addr) (order : List Int) (many : Int), vs = [V.ref a_pack, V.ref a_order, V.int many] ∧ PkAt T.C_Pack H a_pack pack ∧ H a_order = some (.lst (List.map V.int order)) ∧ (PkOk pack.order.length pack.past) ∧ (pack.order = order ∧ order = ordTo pack.order.length pack.past ∧ 1 ≤ order.length ∧ order.length ≤ 60) ∧ (heapsP pack.past ≤ 400 ∧ (heapsP pack.past : Int) = many) ∧ (∀ (H1 : Hp) (res : Bool), (res = true) → Same H H1 → Q (V.bl res) H1)
theorem sc_law_leads : FnScope ["_law_pack", "_law_order_here", "_law_many", "_law_n", "_law_turn", "_law_said"] ["_law_pack", "_law_order_here", "_law_many"] (defScope s_law_leads) := ⟨rfl, rfl, rfl, by decide +kernel, rfl, by decide +kernel, by decide +kernel⟩
theorem ok_law_leads (T : Txt K mg) : FnOk P w K mg base CX0 7 T.f_law_leads T.fd_law_leads ["_law_pack", "_law_order_here", "_law_many"] (sp_law_leads T) := by
  refine T.F_law_leads.ok sc_law_leads (fun vs H Q E h => ?_) (fun cdv A outer s H vs Q E hr h => ?_)
  · obtain ⟨a_pack, pack, a_order, order, many, rfl, _⟩ := h; rfl
  · obtain ⟨a_pack, pack, a_order, order, many, rfl, h_pack, h_order, pre0, pre1, pre2, q⟩ := h
    have fr := Fr.nil H
    have hwo := wholeP_ok pre0
    have hwh := wholeP_heaps (n := pack.order.length) pack.past
    have hwl := wholeP_leads pre0
    have hol := congrArg List.length pre1.1
    refine ⟨_, (pss_cons (ps_set (i := 3) sc_law_leads.nd rfl (Or.inl rfl) (pe_callB (show CallR _ _ (rLenL K) from call_lenL) (by rfl) T.m_len (by decide +kernel) (pa_cons (pv 1) pa_nil)))
          (pss_cons (ps_for PassesOwn.never rfl (pi_range1 (by rfl) T.m_range (pa_cons pe_int pa_nil)) (pg_name (i := 4) sc_law_leads.nd rfl (Or.inl rfl)) (pss_cons (ps_set (i := 5) sc_law_leads.nd rfl (Or.inl rfl) (pe_meth0 (pv 0) T.cl_Pack T.m_Pack_whole (ok_Pack_whole T) (hr.mono (by decide)) T.b_Pack_whole .nil pass0 ))
          (pss_cons (ps_if (PW.pt (pw_or (pt_not (pt_valS (pe_callB (show CallR _ _ (rIsi K) from call_isi) (by rfl) T.m_isinstance (by decide +kernel) (pa_cons (pv 5) (pa_cons (pe_bltn (v := .ty "tuple") (by rfl) T.m_tuple (by decide +kernel) rfl) pa_nil))))) (pw_or (pt_cmpR op_neS (pe_callB (show CallR _ _ (rLenT K) from call_lenT) (by rfl) T.m_len (by decide +kernel) (pa_cons (pv 5) pa_nil)) pe_int (nomark _)) (pw_or1 (pt_not (pt_valS (pe_call (ok_law_is T) (hr.mono (by decide)) (by rfl) T.g_law_is T.F_law_is.kp T.b_law_is .nil pass0 (pa_cons (pe_ix (show IxR _ (rIxT K) from ix_tup) (pv 5) pe_int (fun _ _ => rfl)) (pa_cons (pe_ix (show IxR _ (rIxT K) from ix_tup) (pv 5) pe_int (fun _ _ => rfl)) (pa_cons (pv 2) (pa_cons (pv 3) pa_nil))))))))))) (pss_one (ps_ret pe_bl)) pss_nil)
          (pss_cons (ps_if (pt_cmpR (opS (show OpR _ _ (rNeX K) from op_neX (hu64 hr))) (pe_call (ok_law_riffled T) (hr.mono (by decide)) (by rfl) T.g_law_riffled T.F_law_riffled.kp T.b_law_riffled .nil pass0 (pa_cons (pe_listRg rfl (by rfl) T.m_list (prg_1 (by rfl) T.m_range (pv 3))) (pa_cons (pe_ix (show IxR _ (rIxT K) from ix_tup) (pv 5) pe_int (fun _ _ => rfl)) (pa_cons (pe_ix (show IxR _ (rIxT K) from ix_tup) (pv 5) pe_int (fun _ _ => rfl)) pa_nil)))) (pv 1) (nomark _)) (pss_one (ps_ret pe_bl)) pss_nil)
          (pss_cons (ps_expr (pe_bmK (K := K) (pe_bm PySem.F.plainAttrs_list PySem.F.slot_list_append PySem.F.type_list_append mt_append (pe_ix (show IxR _ (rIxT K) from ix_tup) (pv 5) pe_int (fun _ _ => rfl)) (pa_cons pe_bl pa_nil))))
          (pss_one (ps_expr (pe_bmK (K := K) (pe_bm PySem.F.plainAttrs_list PySem.F.slot_list_append PySem.F.type_list_append mt_append (pe_ix (show IxR _ (rIxT K) from ix_tup) (pv 5) pe_int (fun _ _ => rfl)) (pa_cons pe_int pa_nil))))))))))
          (pss_one (ps_ret pe_bl)))), ?_⟩
    refine ⟨_, rfl, _, _, _, rfl, (SqL.of (fr.same _ _ h_order)), (List.length_map _), ?_⟩
    refine ⟨_, rfl, ?_, ?_, ?_⟩
    · walk_at "side"
    · walk_at "side"
    refine for_it (walkR (n := (Int.toNat 2))) (fun (i : Nat) σ H1 => ∃ (y_1 : Option V) (y_2 : Option V), σ = [some (V.ref a_pack), some (V.ref a_order), some (V.int many), some (V.int ((order.length : Int))), y_1, y_2] ∧ Fr H H1 []) ?_ ?_ ?_ ?_
    · refine ⟨_, _, rfl, fr⟩
    · rintro i σ H1 hi ⟨y_1, y_2, rfl, fr⟩
      exact trivial
    · rintro i_3 x_5 s_8 H_6 H_7 hi_4 ⟨y_1, y_2, rfl, fr⟩ ⟨rfl, rfl⟩
      refine ⟨_, rfl, _, _, _, rfl, (PkAt.p (PkAt.same h_pack fr.same)), (pkF_no _ _ (by decide +kernel) (by decide +kernel)), a_pack, pack, rfl, (PkAt.same h_pack fr.same), ?_, ?_, ?_, fun H_9 p_14 a_17 Pack_whole_16 a_19 Pack_whole_18 hp_12 hp_13 ff_15 => ?_⟩
      · exact pre0
      · omega
      · omega
      subst hp_12
      subst hp_13
      have fr : Fr H _ [(p_14, (.tup [(V.ref a_17), (V.ref a_19)] : HO)), (a_17, (.lst (List.map V.bl ((((wholeP pack.order.length pack.past).1)))) : HO)), (a_19, (.lst (List.map V.int ((((wholeP pack.order.length pack.past).2)))) : HO))] := Fr.comp fr ff_15
      refine ⟨_, rfl, _, _, _, _, _, rfl, (ClsV.ty _), (.base (.tup fr.at0)), (kit_ty (r := true) (by decide +kernel)), _, rfl, fun _ => ?_, (fun h => nomatch h)⟩
      refine iteF ?_
      refine ⟨_, rfl, _, 2, _, rfl, (SqT.of fr.at0), rfl, _, _, rfl, rfl, ?_, ?_⟩
      · intro h20
        exfalso
        exact h20 rfl
      · intro h20
        refine ⟨_, rfl, ?_⟩
        refine iteF ?_
        refine ⟨_, rfl, _, _, _, _, rfl, rfl, (SqT.of fr.at0), (atI_nat (j := 0) rfl), _, rfl, _, _, _, _, rfl, rfl, (SqT.of fr.at0), (atI_nat (j := 1) rfl), _, rfl, _, rfl, a_17, ((((wholeP pack.order.length pack.past).1))), a_19, ((((wholeP pack.order.length pack.past).2))), many, ((order.length : Int)), rfl, fr.at1, fr.at2, ?_, ?_, ?_, fun H_21 is_22 hp_24 sm_23 => ?_⟩
        · omega
        · omega
        · exact hwo.2
        have fr : Fr H _ [(p_14, (.tup [(V.ref a_17), (V.ref a_19)] : HO)), (a_17, (.lst (List.map V.bl ((((wholeP pack.order.length pack.past).1)))) : HO)), (a_19, (.lst (List.map V.int ((((wholeP pack.order.length pack.past).2)))) : HO))] := fr.call sm_23
        subst hp_24
        refine ⟨_, rfl, fun _ => ?_, (fun h => nomatch h)⟩
        refine iteF ?_
        refine ⟨_, rfl, _, rfl, ?_, fun l_25 nl_26 => ?_⟩
        · walk_at "rgok"
        have fr : Fr H _ [(l_25, (.lst (List.map V.int ((rangeI ((order.length : Int))))) : HO)), (p_14, (.tup [(V.ref a_17), (V.ref a_19)] : HO)), (a_17, (.lst (List.map V.bl ((((wholeP pack.order.length pack.past).1)))) : HO)), (a_19, (.lst (List.map V.int ((((wholeP pack.order.length pack.past).2)))) : HO))] := (fr.new nl_26).cast (lst_rng _)
        refine ⟨_, rfl, _, _, _, _, rfl, rfl, (SqT.of fr.at1), (atI_nat (j := 0) rfl), _, rfl, _, _, _, _, rfl, rfl, (SqT.of fr.at1), (atI_nat (j := 1) rfl), l_25, ((rangeI ((order.length : Int)))), a_17, ((((wholeP pack.order.length pack.past).1))), a_19, ((((wholeP pack.order.length pack.past).2))), rfl, fr.at0, fr.at2, fr.at3, ?_, ?_, fun H_27 p_31 riffled_28 hp_30 sm_29 np_32 ep_33 => ?_⟩
        · exact hwo.2
        · refine ⟨?_, by omega, ?_⟩ <;> (simp [rangeI]; omega)
        have fr : Fr H _ [(p_31, (.lst (List.map V.int riffled_28) : HO)), (l_25, (.lst (List.map V.int ((rangeI ((order.length : Int))))) : HO)), (p_14, (.tup [(V.ref a_17), (V.ref a_19)] : HO)), (a_17, (.lst (List.map V.bl ((((wholeP pack.order.length pack.past).1)))) : HO)), (a_19, (.lst (List.map V.int ((((wholeP pack.order.length pack.past).2)))) : HO))] := fr.cnew sm_29 np_32 ep_33
        subst hp_30
        refine ⟨_, rfl, _, _, decide (((riffleI ((rangeI ((order.length : Int)))) ((((wholeP pack.order.length pack.past).1))) ((((wholeP pack.order.length pack.past).2))))) = order), (dp_ints fr.at0), (dp_ints (fr.same _ _ h_order)), (Okd.sh (okd_ints _)), (Okd.sh (okd_ints _)), (eqv_ints _ _), _, rfl, ?_, ?_⟩
        · intro h34
          replace h34 := not_of_nd h34
          exfalso
          refine h34 (Eq.trans ?_ (hwl.trans pre1.2.1.symm)); rw [hol]; rfl
        · intro h34
          replace h34 := of_nd h34
          refine ⟨_, rfl, ?_⟩
          refine iteF ?_
          have fr : Fr H _ [(l_25, (.lst (List.map V.int ((rangeI ((order.length : Int))))) : HO)), (p_14, (.tup [(V.ref a_17), (V.ref a_19)] : HO)), (a_17, (.lst (List.map V.bl ((((wholeP pack.order.length pack.past).1)))) : HO)), (a_19, (.lst (List.map V.int ((((wholeP pack.order.length pack.past).2)))) : HO))] := Fr.dk fr 0
          have fr : Fr H _ [(p_14, (.tup [(V.ref a_17), (V.ref a_19)] : HO)), (a_17, (.lst (List.map V.bl ((((wholeP pack.order.length pack.past).1)))) : HO)), (a_19, (.lst (List.map V.int ((((wholeP pack.order.length pack.past).2)))) : HO))] := Fr.dk fr 0
          refine ⟨_, rfl, _, _, _, _, rfl, rfl, (SqT.of fr.at0), (atI_nat (j := 0) rfl), (.inl ⟨rfl, _, (SqL.of fr.at1)⟩), _, _, _, rfl, rfl, fr.at1, ?_, ?_⟩
          · walk_at "size"
          have fr : Fr H _ [(p_14, (.tup [(V.ref a_17), (V.ref a_19)] : HO)), (a_17, (.lst (List.map V.bl (((((wholeP pack.order.length pack.past).1)) ++ [true]))) : HO)), (a_19, (.lst (List.map V.int ((((wholeP pack.order.length pack.past).2)))) : HO))] := Fr.wrk fr 1 rfl (lst_app V.bl _ _)
          refine ⟨_, rfl, _, _, _, _, rfl, rfl, (SqT.of fr.at0), (atI_nat (j := 1) rfl), (.inl ⟨rfl, _, (SqL.of fr.at2)⟩), _, _, _, rfl, rfl, fr.at2, ?_, ?_⟩
          · walk_at "size"
          have fr : Fr H _ [(p_14, (.tup [(V.ref a_17), (V.ref a_19)] : HO)), (a_17, (.lst (List.map V.bl (((((wholeP pack.order.length pack.past).1)) ++ [true]))) : HO)), (a_19, (.lst (List.map V.int (((((wholeP pack.order.length pack.past).2)) ++ [0]))) : HO))] := Fr.wrk fr 2 rfl (lst_app V.int _ _)
          have fr : Fr H _ [(a_17, (.lst (List.map V.bl (((((wholeP pack.order.length pack.past).1)) ++ [true]))) : HO)), (a_19, (.lst (List.map V.int (((((wholeP pack.order.length pack.past).2)) ++ [0]))) : HO))] := Fr.dk fr 0
          have fr : Fr H _ [(a_19, (.lst (List.map V.int (((((wholeP pack.order.length pack.past).2)) ++ [0]))) : HO))] := Fr.dk fr 0
          have fr : Fr H _ [] := Fr.dk fr 0
          refine ⟨_, _, rfl, fr⟩
    rintro s_36 H_35 ⟨y_1, y_2, rfl, fr⟩
    exact q _ true (by rfl) fr.same
def sp_Pack_whole_x {K : PySem.W.Frag} {mg : Str → Option Value} (T : Txt K mg) : Sp := fun vs H Q E => ∃ (a_slf : Addr) (slf : PK), vs = [V.ref a_slf] ∧ PkAt T.C_Pack H a_slf slf ∧ (PkOk slf.order.length slf.past) ∧ (1 ≤ slf.order.length ∧ slf.order.length ≤ 60) ∧ (∀ (H1 : Hp) (rA : Addr) (a0 : Addr) (res0 : List Bool) (a1 : Addr) (res1 : List Int), (res0 = (wholeP slf.order.length slf.past).1) → (res1 = (wholeP slf.order.length slf.past).2) → (heapsP slf.past ≤ 400) → Fr H H1 [(rA, HO.tup [V.ref a0, V.ref a1]), (a0, .lst (List.map V.bl res0)), (a1, .lst (List.map V.int res1))] → Q (V.ref rA) H1) ∧ (∀ (H1 : Hp), (400 < heapsP slf.past) → Same H H1 → E (.ref T.C_TooMany) none H1)
theorem sc_Pack_whole_x : FnScope ["self", "marks", "word", "others", "more"] ["self"] (defScope s_Pack_whole) := ⟨rfl, rfl, rfl, by decide +kernel, rfl, by decide +kernel, by decide +kernel⟩
theorem ok_Pack_whole_x (T : Txt K mg) : FnOk P w K mg base (L2.CX P w) 6 T.f_Pack_whole T.fd_Pack_whole ["self"] (sp_Pack_whole_x T) := by
  refine T.F_Pack_whole.okX sc_Pack_whole_x (fun vs H Q E h => ?_) (fun cdv A outer s H vs Q E hr h => ?_)
  · obtain ⟨a_slf, slf, rfl, _⟩ := h; rfl
  · obtain ⟨a_slf, slf, rfl, h_slf, pre0, pre1, q, qe0⟩ := h
    have fr := Fr.nil H
    have hok := pre0
    have hnb := pre1
    refine ⟨_, (pss_cons (ps_set (i := 1) sc_Pack_whole_x.nd rfl (Or.inl rfl) (pe_lst (pa_cons pe_bl pa_nil)))
          (pss_cons (ps_set (i := 2) sc_Pack_whole_x.nd rfl (Or.inl rfl) (pe_op op_rep (pe_lst (pa_cons pe_int pa_nil)) (pe_callB (show CallR _ _ (rLenL K) from call_lenL) (by rfl) T.m_len (by decide +kernel) (pa_cons (pe_fld (pv 0) rfl) pa_nil))))
          (pss_cons (ps_for (passes_of rfl) rfl (pi_list (pe_fld (pv 0) rfl)) (pg_tup rfl (pgs_cons (pg_name (i := 3) sc_Pack_whole_x.nd rfl (Or.inl rfl)) (pgs_cons (pg_name (i := 4) sc_Pack_whole_x.nd rfl (Or.inl rfl)) pgs_nil))) (pss_cons (ps_if (pt_cmpR op_gtS (pe_op op_mul (pe_callB (show CallR _ _ (rLenL K) from call_lenL) (by rfl) T.m_len (by decide +kernel) (pa_cons (pv 1) pa_nil)) (pe_callB (show CallR _ _ (rLenL K) from call_lenL) (by rfl) T.m_len (by decide +kernel) (pa_cons (pv 3) pa_nil))) (pe_glob rfl T.c_HEAPS T.r_HEAPS) (nomark _)) (pss_one (ps_raise rfl (takes_of rfl rfl rfl rfl) (pmk_own PySem.F.excBase_ValueError T.X_TooMany.ex T.X_TooMany.g T.X_TooMany.kp (raises_own T.X_TooMany.c.hs T.X_TooMany.ty) rfl))) pss_nil)
          (pss_cons (ps_set (i := 2) sc_Pack_whole_x.nd rfl (Or.inl rfl) (pe_call (ok_joined T) (hr.mono (by decide)) (by rfl) T.g_joined T.F_joined.kp T.b_joined .nil pass0 (pa_cons (pv 1) (pa_cons (pv 2) (pa_cons (pv 3) (pa_cons (pv 4) pa_nil))))))
          (pss_one (ps_set (i := 1) sc_Pack_whole_x.nd rfl (Or.inl rfl) (pe_call (ok_joined_marks T) (hr.mono (by decide)) (by rfl) T.g_joined_marks T.F_joined_marks.kp T.b_joined_marks .nil pass0 (pa_cons (pv 1) (pa_cons (pv 3) pa_nil))))))))
          (pss_one (ps_ret (pe_tup (pa_cons (pv 1) (pa_cons (pv 2) pa_nil)))))))), ?_⟩
    refine ⟨(Evl.sz_of (show 1 ≤ 100000 by decide)), fun l_1 nl_2 => ?_⟩
    have fr : Fr H _ [(l_1, (.lst (List.map V.bl ([false])) : HO))] := fr.new nl_2
    refine ⟨(Evl.sz_of (show 1 ≤ 100000 by decide)), fun l_3 nl_4 => ?_⟩
    have fr : Fr H _ [(l_3, (.lst (List.map V.int ([0])) : HO)), (l_1, (.lst (List.map V.bl ([false])) : HO))] := fr.new nl_4
    refine ⟨_, rfl, _, _, _, _, _, rfl, (fr.same _ _ (PkAt.p h_slf)), T.cl_Pack, T.na_Pack_cards, (pkF_cards _ _), _, _, _, rfl, (SqL.of (fr.same _ _ (PkAt.a h_slf))), (List.length_map _), _, _, _, rfl, rfl, fr.at0, ?_, ?_, ?_, fun l_5 nl_6 => ?_⟩
    · walk_at "side"
    · walk_at "side"
    · walk_at "size"
    have fr : Fr H _ [(l_5, (.lst (List.map V.int ((List.replicate (Int.toNat ((slf.order.length : Int))) 0))) : HO)), (l_3, (.lst (List.map V.int ([0])) : HO)), (l_1, (.lst (List.map V.bl ([false])) : HO))] := (fr.new nl_6).cast (lst_rep1 _ _ _)
    have fr : Fr H _ [(l_5, (.lst (List.map V.int ((List.replicate (Int.toNat ((slf.order.length : Int))) 0))) : HO)), (l_1, (.lst (List.map V.bl ([false])) : HO))] := Fr.dk fr 1
    refine ⟨_, rfl, _, _, _, _, _, rfl, (fr.same _ _ (PkAt.p h_slf)), T.cl_Pack, T.na_Pack_past, (pkF_past _ _), _, rfl, ⟨_, (SqL.of (fr.same _ _ (PkAt.b h_slf)))⟩, ?_⟩
    refine for_it (walkP (K := K) (a := slf.b) (es := slf.es) (pk_past slf)) (fun (i : Nat) σ H1 => ∃ (amarks_7 : Addr) (marks_8 : List Bool) (aword_9 : Addr) (word_10 : List Int) (y_11 : Option V) (y_12 : Option V), σ = [some (V.ref a_slf), some (V.ref amarks_7), some (V.ref aword_9), y_11, y_12] ∧ Fr H H1 [(aword_9, (.lst (List.map V.int word_10) : HO)), (amarks_7, (.lst (List.map V.bl marks_8) : HO))] ∧ (marks_8 = (wholeP slf.order.length (slf.past.take i)).1) ∧ (word_10 = (wholeP slf.order.length (slf.past.take i)).2) ∧ (heapsP (slf.past.take i) ≤ 400)) ?_ ?_ ?_ ?_
    · refine ⟨l_1, [false], l_5, (List.replicate (Int.toNat ((slf.order.length : Int))) 0), _, _, rfl, fr, ?_, ?_, ?_⟩
      · rfl
      · rfl
      · exact (by decide : (1 : Nat) ≤ 400)
    · rintro i σ H1 hi ⟨amarks_7, marks_8, aword_9, word_10, y_11, y_12, rfl, fr, hm, hw, hh⟩
      exact (fr.same _ _ (PkAt.b h_slf))
    · rintro i_13 x_15 s_18 H_16 H_17 hi_14 ⟨amarks_7, marks_8, aword_9, word_10, y_11, y_12, rfl, fr, hm, hw, hh⟩ ⟨rfl, y_19, hr_20, hy_21, rfl⟩
      refine ⟨_, _, rfl, (SqT.of (PesAt.t (PesAt.same (PkAt.es h_slf) fr.same) (List.mem_of_getElem? hr_20))), rfl, _, _, rfl, _, _, rfl, rfl, ?_⟩
      have htn := hp_turn (n := slf.order.length) hok hy_21
      rw [← hm] at htn
      refine ⟨_, rfl, _, _, _, rfl, (SqL.of fr.at1), (List.length_map _), _, rfl, _, _, _, rfl, (SqL.of (PesAt.m (PesAt.same (PkAt.es h_slf) fr.same) (List.mem_of_getElem? hr_20))), (List.length_map _), _, _, rfl, rfl, ?_, _, _, rfl, rfl, ?_, ?_⟩
      · exact .inr (by omega)
      · intro h22
        refine ⟨_, rfl, ?_⟩
        refine iteT ?_
        exact qe0 _ (by have h2 := prod_iff.mp (by assumption); rw [htn.2.2] at h2; omega) fr.same
      · intro h22
        have hle := Nat.le_of_not_lt (fun z => h22 (prod_iff.mpr z))
        have hwt := wh_turn (n := slf.order.length) hok (by assumption) (by rw [← htn.2.2]; omega)
        rw [← hm, ← hw] at hwt
        refine ⟨_, rfl, ?_⟩
        refine iteF ?_
        refine ⟨_, rfl, _, rfl, _, rfl, _, rfl, amarks_7, marks_8, aword_9, word_10, (PE.m y_19), ((PE.marks y_19)), (PE.w y_19), ((PE.word y_19)), rfl, fr.at1, fr.at0, (PesAt.m (PesAt.same (PkAt.es h_slf) fr.same) (List.mem_of_getElem? hr_20)), (PesAt.w (PesAt.same (PkAt.es h_slf) fr.same) (List.mem_of_getElem? hr_20)), ?_, ?_, ?_, ?_, fun H_23 p_27 joined_24 hp_26 sm_25 np_28 ep_29 => ?_⟩
        · exact hwt.2.2.2.1
        · exact hwt.2.2.2.2.1
        · omega
        · omega
        have fr : Fr H _ [(p_27, (.lst (List.map V.int joined_24) : HO)), (aword_9, (.lst (List.map V.int word_10) : HO)), (amarks_7, (.lst (List.map V.bl marks_8) : HO))] := fr.cnew sm_25 np_28 ep_29
        subst hp_26
        have fr : Fr H _ [(p_27, (.lst (List.map V.int (((bothW marks_8 word_10 ((PE.marks y_19)) ((PE.word y_19)))))) : HO)), (amarks_7, (.lst (List.map V.bl marks_8) : HO))] := Fr.dk fr 1
        refine ⟨_, rfl, _, rfl, amarks_7, marks_8, (PE.m y_19), ((PE.marks y_19)), rfl, fr.at1, (PesAt.m (PesAt.same (PkAt.es h_slf) fr.same) (List.mem_of_getElem? hr_20)), ?_, fun H_30 p_34 joined_marks_31 hp_33 sm_32 np_35 ep_36 => ?_⟩
        · omega
        have fr : Fr H _ [(p_34, (.lst (List.map V.bl joined_marks_31) : HO)), (p_27, (.lst (List.map V.int (((bothW marks_8 word_10 ((PE.marks y_19)) ((PE.word y_19)))))) : HO)), (amarks_7, (.lst (List.map V.bl marks_8) : HO))] := fr.cnew sm_32 np_35 ep_36
        subst hp_33
        have fr : Fr H _ [(p_34, (.lst (List.map V.bl (((joinedM marks_8 ((PE.marks y_19)))))) : HO)), (p_27, (.lst (List.map V.int (((bothW marks_8 word_10 ((PE.marks y_19)) ((PE.word y_19)))))) : HO))] := Fr.dk fr 2
        have fr : Fr H _ [(p_27, (.lst (List.map V.int (((bothW marks_8 word_10 ((PE.marks y_19)) ((PE.word y_19)))))) : HO)), (p_34, (.lst (List.map V.bl (((joinedM marks_8 ((PE.marks y_19)))))) : HO))] := Fr.upk fr 1 rfl
        refine ⟨p_34, ((joinedM marks_8 ((PE.marks y_19)))), p_27, ((bothW marks_8 word_10 ((PE.marks y_19)) ((PE.word y_19)))), _, _, rfl, fr, ?_, ?_, ?_⟩
        · rw [wh_next hy_21, hm]; rfl
        · rw [wh_next hy_21, hm, hw]; rfl
        · rw [hp_next hy_21]; have h9 := hwt.2.2.2.2.2.2.2.2; rw [htn.2.2] at h9; exact h9
    rintro s_38 H_37 ⟨amarks_7, marks_8, aword_9, word_10, y_11, y_12, rfl, fr, hm, hw, hh⟩
    rw [List.take_length] at hm hw
    rw [List.take_length] at hh
    refine ⟨_, rfl, _, rfl, (Evl.sz_of (show 2 ≤ 100000 by decide)), fun t_39 nt_40 => ?_⟩
    have fr : Fr H _ [(t_39, (.tup [(V.ref amarks_7), (V.ref aword_9)] : HO)), (aword_9, (.lst (List.map V.int word_10) : HO)), (amarks_7, (.lst (List.map V.bl marks_8) : HO))] := fr.new nt_40
    have fr : Fr H _ [(aword_9, (.lst (List.map V.int word_10) : HO)), (t_39, (.tup [(V.ref amarks_7), (V.ref aword_9)] : HO)), (amarks_7, (.lst (List.map V.bl marks_8) : HO))] := Fr.upk fr 1 rfl
    have fr : Fr H _ [(amarks_7, (.lst (List.map V.bl marks_8) : HO)), (aword_9, (.lst (List.map V.int word_10) : HO)), (t_39, (.tup [(V.ref amarks_7), (V.ref aword_9)] : HO))] := Fr.upk fr 2 rfl
    have fr : Fr H _ [(t_39, (.tup [(V.ref amarks_7), (V.ref aword_9)] : HO)), (amarks_7, (.lst (List.map V.bl marks_8) : HO)), (aword_9, (.lst (List.map V.int word_10) : HO))] := Fr.upk fr 2 rfl
    exact q _ _ amarks_7 marks_8 aword_9 word_10 (by rw [hm]) (by rw [hw]) (by exact hh) fr
def sp_law_refused {K : PySem.W.Frag} {mg : Str → Option Value} (T : Txt K mg) : Sp := fun vs H Q _ => ∃ (a_pack : Addr) (pack : PK), vs = [V.ref a_pack] ∧ PkAt T.C_Pack H a_pack pack ∧ (PkOk pack.order.length pack.past) ∧ (1 ≤ pack.order.length ∧ pack.order.length ≤ 60) ∧ (400 < heapsP pack.past) ∧ (∀ (H1 : Hp) (res : Bool), (res = true) → Same H H1 → Q (V.bl res) H1)
theorem sc_law_refused : FnScope ["_law_pack", "e"] ["_law_pack"] (defScope s_law_refused) := ⟨rfl, rfl, rfl, by decide +kernel, rfl, by decide +kernel, by decide +kernel⟩
theorem ok_law_refused (T : Txt K mg) : FnOk P w K mg base CX0 7 T.f_law_refused T.fd_law_refused ["_law_pack"] (sp_law_refused T) := by
  refine T.F_law_refused.ok sc_law_refused (fun vs H Q E h => ?_) (fun cdv A outer s H vs Q E hr h => ?_)
  · obtain ⟨a_pack, pack, rfl, _⟩ := h; rfl
  · obtain ⟨a_pack, pack, rfl, h_pack, pre0, pre1, pre2, q⟩ := h
    have fr := Fr.nil H
    refine ⟨_, (pss_cons (ps_try_as (i := 1) (Wout := fun _ _ _ _ => False) rfl rfl sc_law_refused.nd rfl rfl ⟨rfl, by decide, .inl T.X_TooMany.g⟩ takes0 (fun W xpn xxe xtk _ => (pss_one (ps_expr (pe_methX0 (pv 0) T.cl_Pack T.m_Pack_whole (ok_Pack_whole_x T) (hr.mono (by decide)) T.b_Pack_whole (fun σ => passAt xtk σ) )))) (fun xa xoe xcls xd xpn xhz xhf => (pss_cons (ps_if (PW.pt (pw_or (pt_valS (pe_callB (show CallR _ _ (rIsP K xa xcls xd) from call_isP xhz xhf List.mem_cons_self) (by rfl) T.m_isinstance (by decide +kernel) (pa_cons (pv 1) (pa_cons (pe_glob rfl T.X_NoPack.g (show RelV (.ref T.C_NoPack) (.ref T.C_NoPack) from rfl)) pa_nil)))) (pw_or (pt_valS (pe_callB (show CallR _ _ (rIsP K xa xcls xd) from call_isP xhz xhf List.mem_cons_self) (by rfl) T.m_isinstance (by decide +kernel) (pa_cons (pv 1) (pa_cons (pe_glob rfl T.X_NoMarks.g (show RelV (.ref T.C_NoMarks) (.ref T.C_NoMarks) from rfl)) pa_nil)))) (pw_or (pt_valS (pe_callB (show CallR _ _ (rIsP K xa xcls xd) from call_isP xhz xhf List.mem_cons_self) (by rfl) T.m_isinstance (by decide +kernel) (pa_cons (pv 1) (pa_cons (pe_glob rfl T.X_NoRiffle.g (show RelV (.ref T.C_NoRiffle) (.ref T.C_NoRiffle) from rfl)) pa_nil)))) (pw_or1 (pt_valS (pe_callB (show CallR _ _ (rIsP K xa xcls xd) from call_isP xhz xhf List.mem_cons_self) (by rfl) T.m_isinstance (by decide +kernel) (pa_cons (pv 1) (pa_cons (pe_glob rfl T.X_NoWay.g (show RelV (.ref T.C_NoWay) (.ref T.C_NoWay) from rfl)) pa_nil))))))))) (pss_one (ps_ret pe_bl)) pss_nil)
          (pss_one (ps_ret (pe_and (pe_splS (pe_not (pe_callB (show CallR _ _ (rIsP K xa xcls xd) from call_isP xhz xhf List.mem_cons_self) (by rfl) T.m_isinstance (by decide +kernel) (pa_cons (pv 1) (pa_cons (pe_glob rfl T.X_NoFigures.g (show RelV (.ref T.C_NoFigures) (.ref T.C_NoFigures) from rfl)) pa_nil))))) (pe_and (pe_splS (pe_not (pe_callB (show CallR _ _ (rIsP K xa xcls xd) from call_isP xhz xhf List.mem_cons_self) (by rfl) T.m_isinstance (by decide +kernel) (pa_cons (pv 1) (pa_cons (pe_glob rfl T.X_NoText.g (show RelV (.ref T.C_NoText) (.ref T.C_NoText) from rfl)) pa_nil))))) (pe_one (pe_callB (show CallR _ _ (rIsP K xa xcls xd) from call_isP xhz xhf List.mem_cons_self) (by rfl) T.m_isinstance (by decide +kernel) (pa_cons (pv 1) (pa_cons (pe_glob rfl T.X_RiftError.g (show RelV (.ref T.C_RiftError) (.ref T.C_RiftError) from rfl)) pa_nil)))))))))))
          (pss_one (ps_ret pe_bl))), ?_⟩
    refine ⟨_, rfl, _, _, _, rfl, (PkAt.p (PkAt.same h_pack fr.same)), (pkF_no _ _ (by decide +kernel) (by decide +kernel)), a_pack, pack, rfl, (PkAt.same h_pack fr.same), ?_, ?_, ?_, ?_⟩
    · exact pre0
    · omega
    · intro H_1 p_7 a_10 r_11 a_12 r_13 hp_4 hp_5 hp_6 sm_3
      exfalso
      omega
    · intro H_15 hr_14 sm_16
      have fr : Fr H _ [] := fr.call sm_16
      refine ⟨true, T.X_TooMany.exm T.S_TooMany_TooMany, fun _ ax_17 _ => ?_, fun q => nomatch q⟩
      refine ⟨_, rfl, _, _, _, _, rfl, rfl, T.X_TooMany.c, rfl, rel_ref, (T.X_NoPack.kit T.S_TooMany_NoPack (fun _ => T.N_TooMany_NoPack)), _, rfl, (fun h => nomatch h), fun _ => ?_⟩
      refine iteF ?_
      refine ⟨_, rfl, _, _, _, _, rfl, rfl, T.X_TooMany.c, rfl, rel_ref, (T.X_NoMarks.kit T.S_TooMany_NoMarks (fun _ => T.N_TooMany_NoMarks)), _, rfl, (fun h => nomatch h), fun _ => ?_⟩
      refine iteF ?_
      refine ⟨_, rfl, _, _, _, _, rfl, rfl, T.X_TooMany.c, rfl, rel_ref, (T.X_NoRiffle.kit T.S_TooMany_NoRiffle (fun _ => T.N_TooMany_NoRiffle)), _, rfl, (fun h => nomatch h), fun _ => ?_⟩
      refine iteF ?_
      refine ⟨_, rfl, _, _, _, _, rfl, rfl, T.X_TooMany.c, rfl, rel_ref, (T.X_NoWay.kit T.S_TooMany_NoWay (fun _ => T.N_TooMany_NoWay)), _, rfl, (fun h => nomatch h), fun _ => ?_⟩
      refine iteF ?_
      refine ⟨_, rfl, _, _, _, _, rfl, rfl, T.X_TooMany.c, rfl, rel_ref, (T.X_NoFigures.kit T.S_TooMany_NoFigures (fun _ => T.N_TooMany_NoFigures)), _, rfl, _, rfl, fun _ => ?_, (fun h => nomatch h)⟩
      refine ⟨_, rfl, ?_⟩
      refine iteT ?_
      refine ⟨_, rfl, _, _, _, _, rfl, rfl, T.X_TooMany.c, rfl, rel_ref, (T.X_NoText.kit T.S_TooMany_NoText (fun _ => T.N_TooMany_NoText)), _, rfl, _, rfl, fun _ => ?_, (fun h => nomatch h)⟩
      refine ⟨_, rfl, ?_⟩
      refine iteT ?_
      refine ⟨_, rfl, _, _, _, _, rfl, rfl, T.X_TooMany.c, rfl, rel_ref, (T.X_RiftError.kit T.S_TooMany_RiftError (fun z => nomatch z)), ?_⟩
      exact q _ true (by rfl) fr.same
def sp_law_told {K : PySem.W.Frag} {mg : Str → Option Value} (T : Txt K mg) : Sp := fun vs H Q _ => ∃ (a_pack : Addr) (pack : PK) (a_orders : Addr) (orders : List (List Int)) (a_past : Addr) (r_past : List PE) (past : List PC) (n : Nat), vs = [V.ref a_pack, V.ref a_orders, V.ref a_past] ∧ PkAt T.C_Pack H a_pack pack ∧ Tab H gI a_orders orders ∧ PstAt H a_past r_past past ∧ (Pk3 n pack orders past) ∧ (∀ (H1 : Hp) (res : Bool), (res = true) → Same H H1 → Q (V.bl res) H1)
theorem sc_law_told : FnScope ["_law_pack", "_law_orders", "_law_past", "_law_many", "_law_marks_here", "_law_word_here"] ["_law_pack", "_law_orders", "_law_past"] (defScope s_law_told) := ⟨rfl, rfl, rfl, by decide +kernel, rfl, by decide +kernel, by decide +kernel⟩
theorem ok_law_told (T : Txt K mg) : FnOk P w K mg base CX0 8 T.f_law_told T.fd_law_told ["_law_pack", "_law_orders", "_law_past"] (sp_law_told T) := by
  refine T.F_law_told.ok sc_law_told (fun vs H Q E h => ?_) (fun cdv A outer s H vs Q E hr h => ?_)
  · obtain ⟨a_pack, pack, a_orders, orders, a_past, r_past, past, n, rfl, _⟩ := h; rfl
  · obtain ⟨a_pack, pack, a_orders, orders, a_past, r_past, past, n, rfl, h_pack, ht_orders, h_past, pre0, q⟩ := h
    obtain ⟨r_orders, hc_orders, h_orders, hr_orders⟩ := ht_orders.ex
    have fr := Fr.nil H
    have h3l := pre0.len
    have hnb := pre0.nb
    have hlast := pre0.last
    have hnn : n = pack.order.length := h3l.1.symm
    have hokp := pre0.ok
    rw [hnn] at hokp
    have hok : PkOk pack.order.length pack.past := by rw [pre0.past]; exact hokp
    have hord := pre0.order
    rw [hnn, ← pre0.past] at hord
    refine ⟨_, (pss_cons (ps_set (i := 3) sc_law_told.nd rfl (Or.inl rfl) pe_int)
          (pss_cons (ps_for PassesOwn.never rfl (pi_list (pv 2)) (pg_tup rfl (pgs_cons (pg_name (i := 4) sc_law_told.nd rfl (Or.inl rfl)) (pgs_cons (pg_name (i := 5) sc_law_told.nd rfl (Or.inl rfl)) pgs_nil))) (pss_one (ps_set (i := 3) sc_law_told.nd rfl (Or.inl rfl) (pe_op op_mul (pv 3) (pe_callB (show CallR _ _ (rLenL K) from call_lenL) (by rfl) T.m_len (by decide +kernel) (pa_cons (pv 4) pa_nil))))))
          (pss_cons (ps_if (pt_cmpR op_gtS (pv 3) pe_int (nomark _)) (pss_one (ps_ret (pe_and (pe_splS (pe_call (ok_law_refused T) (hr.mono (by decide)) (by rfl) T.g_law_refused T.F_law_refused.kp T.b_law_refused .nil pass0 (pa_cons (pv 0) pa_nil))) (pe_one (pe_cmpR (show OpR _ _ (rEqX K) from op_eqX (hu64 hr)) (pe_meth0 (pv 0) T.cl_Pack T.m_Pack_order (ok_Pack_order T) (hr.mono (by decide)) T.b_Pack_order .nil pass0 ) (pe_ix (show IxR _ (rIxL K) from ix_list) (pv 1) (pe_un un_neg pe_int) (fun _ _ => rfl)) (nomark _)))))) pss_nil)
          (pss_cons (ps_if (pt_cmpR (opS (show OpR _ _ (rNeX K) from op_neX (hu64 hr))) (pe_meth0 (pv 0) T.cl_Pack T.m_Pack_whole (ok_Pack_whole T) (hr.mono (by decide)) T.b_Pack_whole .nil pass0 ) (pe_call (ok_law_joined T) (hr.mono (by decide)) (by rfl) T.g_law_joined T.F_law_joined.kp T.b_law_joined .nil pass0 (pa_cons (pv 2) (pa_cons (pe_callB (show CallR _ _ (rLenL K) from call_lenL) (by rfl) T.m_len (by decide +kernel) (pa_cons (pe_ix (show IxR _ (rIxL K) from ix_list) (pv 1) (pe_un un_neg pe_int) (fun _ _ => rfl)) pa_nil)) pa_nil))) (nomark _)) (pss_one (ps_ret pe_bl)) pss_nil)
          (pss_one (ps_ret (pe_call (ok_law_leads T) (hr.mono (by decide)) (by rfl) T.g_law_leads T.F_law_leads.kp T.b_law_leads .nil pass0 (pa_cons (pv 0) (pa_cons (pe_ix (show IxR _ (rIxL K) from ix_list) (pv 1) (pe_un un_neg pe_int) (fun _ _ => rfl)) (pa_cons (pv 3) pa_nil)))))))))), ?_⟩
    refine ⟨_, rfl, _, rfl, ⟨_, (SqL.of (fr.same _ _ h_past.e))⟩, ?_⟩
    refine for_it (walkP (K := K) (a := a_past) (es := r_past) h_past.c) (fun (i : Nat) σ H1 => ∃ (many_1 : Int) (y_2 : Option V) (y_3 : Option V), σ = [some (V.ref a_pack), some (V.ref a_orders), some (V.ref a_past), some (V.int many_1), y_2, y_3] ∧ Fr H H1 [] ∧ (many_1 = (heapsP (past.take i) : Int))) ?_ ?_ ?_ ?_
    · refine ⟨1, _, _, rfl, fr, ?_⟩
      · rfl
    · rintro i σ H1 hi ⟨many_1, y_2, y_3, rfl, fr, hmy⟩
      exact (fr.same _ _ h_past.e)
    · rintro i_4 x_6 s_9 H_7 H_8 hi_5 ⟨many_1, y_2, y_3, rfl, fr, hmy⟩ ⟨rfl, y_10, hr_11, hy_12, rfl⟩
      refine ⟨_, _, rfl, (SqT.of (PesAt.t (PesAt.same h_past.r fr.same) (List.mem_of_getElem? hr_11))), rfl, _, _, rfl, _, _, rfl, rfl, ?_⟩
      have htn := hp_turn (n := pack.order.length) hokp hy_12
      refine ⟨_, rfl, _, rfl, _, _, _, rfl, (SqL.of (PesAt.m (PesAt.same h_past.r fr.same) (List.mem_of_getElem? hr_11))), (List.length_map _), _, _, rfl, rfl, ?_, ?_⟩
      · exact .inr (by omega)
      refine ⟨(many_1 * (((PE.marks y_10)).length : Int)), _, _, rfl, fr, ?_⟩
      · rw [hp_next hy_12, hmy]; push_cast; rfl
    rintro s_14 H_13 ⟨many_1, y_2, y_3, rfl, fr, hmy⟩
    rw [List.take_length, ← pre0.past] at hmy
    refine ⟨_, rfl, _, _, rfl, rfl, ?_, ?_⟩
    · intro h15
      refine ⟨_, rfl, ?_⟩
      refine iteT ?_
      refine ⟨_, rfl, a_pack, pack, rfl, (PkAt.same h_pack fr.same), ?_, ?_, ?_, fun H_16 refused_17 hp_19 sm_18 => ?_⟩
      · exact hok
      · omega
      · omega
      have fr : Fr H _ [] := fr.call sm_18
      subst hp_19
      refine ⟨_, rfl, fun _ => ?_, (fun h => nomatch h)⟩
      refine ⟨_, rfl, ?_⟩
      refine iteT ?_
      refine ⟨_, rfl, _, _, _, rfl, (PkAt.p (PkAt.same h_pack fr.same)), (pkF_no _ _ (by decide +kernel) (by decide +kernel)), a_pack, pack, rfl, (PkAt.same h_pack fr.same), fun H_20 p_24 Pack_order_21 hp_23 sm_22 np_25 ep_26 => ?_⟩
      have fr : Fr H _ [(p_24, (.lst (List.map V.int Pack_order_21) : HO))] := fr.cnew sm_22 np_25 ep_26
      subst hp_23
      have hlt_27 : (List.length orders - 1) < List.length orders := by omega
      refine ⟨_, rfl, _, rfl, _, _, _, _, rfl, rfl, (SqL.of (fr.same _ _ h_orders)), (atRowLast hc_orders [] ?_), _, _, decide (pack.order = (List.getD orders (List.length orders - 1) [])), (dp_ints fr.at0), (dp_ints (ros_at (fun z hz => fr.same _ _ (hr_orders z hz)) hc_orders [] (List.length orders - 1) hlt_27)), (Okd.sh (okd_ints _)), (Okd.sh (okd_ints _)), (eqv_ints _ _), ?_⟩
      · walk_at "side"
      exact q _ (decide (pack.order = (List.getD orders (List.length orders - 1) []))) (by first | rfl | exact decide_eq_true hlast.symm) fr.same
    · intro h15
      refine ⟨_, rfl, ?_⟩
      refine iteF ?_
      refine ⟨_, rfl, _, _, _, rfl, (PkAt.p (PkAt.same h_pack fr.same)), (pkF_no _ _ (by decide +kernel) (by decide +kernel)), a_pack, pack, rfl, (PkAt.same h_pack fr.same), ?_, ?_, ?_, fun H_28 p_33 a_36 Pack_whole_35 a_38 Pack_whole_37 hp_31 hp_32 ff_34 => ?_⟩
      · exact hok
      · omega
      · omega
      subst hp_31
      subst hp_32
      have fr : Fr H _ [(p_33, (.tup [(V.ref a_36), (V.ref a_38)] : HO)), (a_36, (.lst (List.map V.bl ((((wholeP pack.order.length pack.past).1)))) : HO)), (a_38, (.lst (List.map V.int ((((wholeP pack.order.length pack.past).2)))) : HO))] := Fr.comp fr ff_34
      have hlt_39 : (List.length orders - 1) < List.length orders := by omega
      refine ⟨_, rfl, _, rfl, _, rfl, _, _, _, _, rfl, rfl, (SqL.of (fr.same _ _ h_orders)), (atRowLast hc_orders [] ?_), _, _, _, rfl, (SqL.of (ros_at (fun z hz => fr.same _ _ (hr_orders z hz)) hc_orders [] (List.length orders - 1) hlt_39)), (List.length_map _), a_past, r_past, past, ((((List.getD orders (List.length orders - 1) [])).length : Int)), rfl, (PstAt.mk (fr.same _ _ h_past.e) (PesAt.same h_past.r fr.same) h_past.c), ?_, ?_, ?_, fun H_40 p_45 a_48 joined_47 a_50 joined_49 hp_43 hp_44 ff_46 => ?_⟩
      · walk_at "side"
      · rw [hlast]; exact hokp
      · rw [hlast]; omega
      · rw [← pre0.past]; omega
      subst hp_43
      subst hp_44
      have fr : Fr H _ [(p_45, (.tup [(V.ref a_48), (V.ref a_50)] : HO)), (a_48, (.lst (List.map V.bl ((((wholeP (Int.toNat ((((List.getD orders (List.length orders - 1) [])).length : Int))) past).1)))) : HO)), (a_50, (.lst (List.map V.int ((((wholeP (Int.toNat ((((List.getD orders (List.length orders - 1) [])).length : Int))) past).2)))) : HO)), (p_33, (.tup [(V.ref a_36), (V.ref a_38)] : HO)), (a_36, (.lst (List.map V.bl ((((wholeP pack.order.length pack.past).1)))) : HO)), (a_38, (.lst (List.map V.int ((((wholeP pack.order.length pack.past).2)))) : HO))] := Fr.comp fr ff_46
      refine ⟨_, _, true, (Dp.tup (SqT.of fr.at3) (DpAll.cons (dp_bls (Fr.atk fr 4 rfl)) (DpAll.cons (dp_ints (Fr.atk fr 5 rfl)) DpAll.nil))), (Dp.tup (SqT.of fr.at0) (DpAll.cons (dp_bls fr.at1) (DpAll.cons (dp_ints fr.at2) DpAll.nil))), (Okd.sh (okt_cons (okd_bls _) (okt_cons (okd_ints _) okt_nil))), (Okd.sh (okt_cons (okd_bls _) (okt_cons (okd_ints _) okt_nil))), (by exact eqv_same (by rw [hlast, pre0.past]; rfl) (okt_cons (n := 8) (okd_bls _) (okt_cons (okd_ints _) okt_nil)).can), _, rfl, (fun h => nomatch h), fun _ => ?_⟩
      refine ⟨_, rfl, ?_⟩
      refine iteF ?_
      have fr : Fr H _ [(a_48, (.lst (List.map V.bl ((((wholeP (Int.toNat ((((List.getD orders (List.length orders - 1) [])).length : Int))) past).1)))) : HO)), (a_50, (.lst (List.map V.int ((((wholeP (Int.toNat ((((List.getD orders (List.length orders - 1) [])).length : Int))) past).2)))) : HO)), (p_33, (.tup [(V.ref a_36), (V.ref a_38)] : HO)), (a_36, (.lst (List.map V.bl ((((wholeP pack.order.length pack.past).1)))) : HO)), (a_38, (.lst (List.map V.int ((((wholeP pack.order.length pack.past).2)))) : HO))] := Fr.dk fr 0
      have fr : Fr H _ [(a_50, (.lst (List.map V.int ((((wholeP (Int.toNat ((((List.getD orders (List.length orders - 1) [])).length : Int))) past).2)))) : HO)), (p_33, (.tup [(V.ref a_36), (V.ref a_38)] : HO)), (a_36, (.lst (List.map V.bl ((((wholeP pack.order.length pack.past).1)))) : HO)), (a_38, (.lst (List.map V.int ((((wholeP pack.order.length pack.past).2)))) : HO))] := Fr.dk fr 0
      have fr : Fr H _ [(p_33, (.tup [(V.ref a_36), (V.ref a_38)] : HO)), (a_36, (.lst (List.map V.bl ((((wholeP pack.order.length pack.past).1)))) : HO)), (a_38, (.lst (List.map V.int ((((wholeP pack.order.length pack.past).2)))) : HO))] := Fr.dk fr 0
      have fr : Fr H _ [(a_36, (.lst (List.map V.bl ((((wholeP pack.order.length pack.past).1)))) : HO)), (a_38, (.lst (List.map V.int ((((wholeP pack.order.length pack.past).2)))) : HO))] := Fr.dk fr 0
      have fr : Fr H _ [(a_38, (.lst (List.map V.int ((((wholeP pack.order.length pack.past).2)))) : HO))] := Fr.dk fr 0
      have fr : Fr H _ [] := Fr.dk fr 0
      have hlt_51 : (List.length orders - 1) < List.length orders := by omega
      refine ⟨_, rfl, _, rfl, _, rfl, _, _, _, _, rfl, rfl, (SqL.of (fr.same _ _ h_orders)), (atRowLast hc_orders [] ?_), _, rfl, a_pack, pack, (List.getD r_orders (List.length orders - 1) (0, [])).1, ((List.getD orders (List.length orders - 1) [])), many_1, rfl, (PkAt.same h_pack fr.same), (ros_at (fun z hz => fr.same _ _ (hr_orders z hz)) hc_orders [] (List.length orders - 1) hlt_51), ?_, ?_, ?_, fun H_52 leads_53 hp_55 sm_54 => ?_⟩
      · walk_at "side"
      · exact hok
      · refine ⟨hlast.symm, ?_, ?_, ?_⟩ <;> rw [hlast] <;> first | exact hord | omega
      · omega
      have fr : Fr H _ [] := fr.call sm_54
      subst hp_55
      exact q _ true (by first | rfl | exact decide_eq_true hlast.symm) fr.same
def sp_law_rim (K : PySem.W.Frag) : Sp := fun vs H Q _ => ∃ (n : Int) (head : Int), vs = [V.int n, V.int head] ∧ (1 ≤ n ∧ n ≤ 60) ∧ (∀ (H1 : Hp) (res : Bool), (res = true) → Same H H1 → Q (V.bl res) H1)
theorem sc_law_rim : FnScope ["_law_n", "_law_head", "_law_pack", "_law_orders", "_law_past", "_law_many", "_law_marks_here", "_law_word_here", "_law_k"] ["_law_n", "_law_head"] (defScope s_law_rim) := ⟨rfl, rfl, rfl, by decide +kernel, rfl, by decide +kernel, by decide +kernel⟩
theorem ok_law_rim (T : Txt K mg) : FnOk P w K mg base CX0 9 T.f_law_rim T.fd_law_rim ["_law_n", "_law_head"] (sp_law_rim K) := by
  refine T.F_law_rim.ok sc_law_rim (fun vs H Q E h => ?_) (fun cdv A outer s H vs Q E hr h => ?_)
  · obtain ⟨n, head, rfl, _⟩ := h; rfl
  · obtain ⟨n, head, rfl, pre0, q⟩ := h
    have fr := Fr.nil H
    refine ⟨_, (pss_cons (ps_set (i := 2) sc_law_rim.nd rfl (Or.inl rfl) (pe_make T.mk_Pack (ok_Pack___init T) (hr.mono (by decide)) (by rfl) T.mg_Pack T.b_Pack___init .nil pass0 (pa_cons (pv 0) pa_nil)))
          (pss_cons (ps_set (i := 3) sc_law_rim.nd rfl (Or.inl rfl) (pe_lst (pa_cons (pe_listRg rfl (by rfl) T.m_list (prg_1 (by rfl) T.m_range (pv 0))) pa_nil)))
          (pss_cons (ps_set (i := 4) sc_law_rim.nd rfl (Or.inl rfl) (pe_lst pa_nil))
          (pss_cons (ps_for PassesOwn.never rfl (pi_list (pe_lst (pa_cons pe_int (pa_cons pe_int (pa_cons pe_int (pa_cons pe_int pa_nil)))))) (pg_name (i := 5) sc_law_rim.nd rfl (Or.inr rfl)) (pss_cons (ps_setLc (i := 6) (own := [("_law_k", 8)]) (g := gName 8) (tt := tYes) rfl sc_law_rim.nd rfl rfl (sw_true rfl rfl rfl (by decide +kernel)) (pi_range1 (by rfl) T.m_range (pa_cons (pv 5) pa_nil)) (blkOk_by (N := ["_law_n", "_law_head", "_law_pack", "_law_orders", "_law_past", "_law_many", "_law_marks_here", "_law_word_here", "_law_k"]) (sc := (defScope s_law_rim)) (by decide +kernel)) (fun _ _ _ _ _ => pg_name (i := 8) sc_law_rim.nd rfl (Or.inl rfl)) (fun _ _ _ _ _ => pts_nil) (fun _ _ _ _ _ => (pe_callTy call_bool1 (by rfl) T.m_bool (by decide +kernel) (pa_cons (pe_cmp (pc_eqI (pe_op op_mod (pe_op op_add (pv 1) (pv 8)) pe_int) pe_int)) pa_nil))))
          (pss_cons (ps_setLc (i := 7) (own := [("_law_k", 8)]) (g := gName 8) (tt := tYes) rfl sc_law_rim.nd rfl rfl (sw_true rfl rfl rfl (by decide +kernel)) (pi_range1 (by rfl) T.m_range (pa_cons (pv 0) pa_nil)) (blkOk_by (N := ["_law_n", "_law_head", "_law_pack", "_law_orders", "_law_past", "_law_many", "_law_marks_here", "_law_word_here", "_law_k"]) (sc := (defScope s_law_rim)) (by decide +kernel)) (fun _ _ _ _ _ => pg_name (i := 8) sc_law_rim.nd rfl (Or.inl rfl)) (fun _ _ _ _ _ => pts_nil) (fun _ _ _ _ _ => (pe_op op_mod (pe_op op_add (pe_op op_fdiv (pv 1) pe_int) (pe_op op_mul pe_int (pv 8))) (pv 5))))
          (pss_cons (ps_expr (pe_meth (pv 2) T.cl_Pack T.m_Pack_riffle (ok_Pack_riffle T) (hr.mono (by decide)) T.b_Pack_riffle .nil pass0 (pa_cons (pe_callTy (show CallR _ _ (rListL K) from call_listL) (by rfl) T.m_list (by decide +kernel) (pa_cons (pv 6) pa_nil)) (pa_cons (pe_callTy (show CallR _ _ (rListL K) from call_listL) (by rfl) T.m_list (by decide +kernel) (pa_cons (pv 7) pa_nil)) pa_nil))))
          (pss_cons (ps_expr (pe_bmK (K := K) (pe_bm PySem.F.plainAttrs_list PySem.F.slot_list_append PySem.F.type_list_append mt_append (pv 3) (pa_cons (pe_call (ok_law_riffled T) (hr.mono (by decide)) (by rfl) T.g_law_riffled T.F_law_riffled.kp T.b_law_riffled .nil pass0 (pa_cons (pe_ix (show IxR _ (rIxL K) from ix_list) (pv 3) (pe_un un_neg pe_int) (fun _ _ => rfl)) (pa_cons (pv 6) (pa_cons (pv 7) pa_nil)))) pa_nil))))
          (pss_cons (ps_expr (pe_bmK (K := K) (pe_bm PySem.F.plainAttrs_list PySem.F.slot_list_append PySem.F.type_list_append mt_append (pv 4) (pa_cons (pe_tup (pa_cons (pv 6) (pa_cons (pv 7) pa_nil))) pa_nil))))
          (pss_one (ps_if (pt_not (pt_valS (pe_call (ok_law_told T) (hr.mono (by decide)) (by rfl) T.g_law_told T.F_law_told.kp T.b_law_told .nil pass0 (pa_cons (pv 2) (pa_cons (pv 3) (pa_cons (pv 4) pa_nil)))))) (pss_one (ps_ret pe_bl)) pss_nil))))))))
          (pss_one (ps_ret pe_bl)))))), ?_⟩
    refine ⟨_, rfl, fun ob_1 dx_2 nob_3 ndx_4 nex_5 => ?_⟩
    have fr : Fr H _ [(ob_1, (.ins T.C_Pack dx_2 [] : HO)), (dx_2, (.own ob_1 : HO))] := Fr.made fr nob_3 ndx_4 nex_5
    have fr : Fr H _ [(dx_2, (.own ob_1 : HO)), (ob_1, (.ins T.C_Pack dx_2 [] : HO))] := Fr.upk fr 1 rfl
    have fr : Fr H _ [(ob_1, (.ins T.C_Pack dx_2 [] : HO)), (dx_2, (.own ob_1 : HO))] := Fr.upk fr 1 rfl
    have frF_6 := Fr.split (bpre := [(ob_1, (.ins T.C_Pack dx_2 [] : HO)), (dx_2, (.own ob_1 : HO))]) (pre := []) (bts := []) (ts := []) fr
    have fr : Fr H _ [] := Fr.mn frF_6
    refine ⟨ob_1, dx_2, n, _, rfl, (Fr.lent frF_6), ?_, fun H_7 k_9 hp_10 hp_11 ff_8 => ?_⟩
    · exact pre0
    have fr : Fr H _ ([] ++ List.flatten [pkOwn T.C_Pack ob_1 k_9]) := Fr.back2 (bpre := [(ob_1, (.ins T.C_Pack dx_2 [] : HO)), (dx_2, (.own ob_1 : HO))]) (pre := []) (bts := []) (ts := []) (bpre' := []) (bts' := [pkOwn T.C_Pack ob_1 k_9]) frF_6 ff_8
    refine ⟨rfl, ?_⟩
    refine ⟨_, rfl, _, rfl, ?_, fun l_12 nl_13 => ?_⟩
    · walk_at "rgok"
    have fr : Fr H _ ([(l_12, (.lst (List.map V.int ((rangeI n))) : HO))] ++ List.flatten [pkOwn T.C_Pack ob_1 k_9]) := (fr.new nl_13).cast (lst_rng _)
    refine ⟨(Evl.sz_of (show 1 ≤ 100000 by decide)), fun l_14 nl_15 => ?_⟩
    have fr : Fr H _ ([(l_14, (.lst [V.ref l_12] : HO)), (l_12, (.lst (List.map V.int ((rangeI n))) : HO))] ++ List.flatten [pkOwn T.C_Pack ob_1 k_9]) := fr.new nl_15
    have fr : Fr H _ ([(l_12, (.lst (List.map V.int ((rangeI n))) : HO)), (l_14, (.lst [V.ref l_12] : HO))] ++ List.flatten [pkOwn T.C_Pack ob_1 k_9]) := Fr.upk fr 1 rfl
    have fr : Fr H _ ([(l_14, (.lst [V.ref l_12] : HO))] ++ List.flatten [rosOwn gI (([(l_12, (rangeI n))] : List (RO (List Int)))), pkOwn T.C_Pack ob_1 k_9]) := Fr.rnew (g := gI) (pre := [(l_14, (.lst [V.ref l_12] : HO))]) (ts := [pkOwn T.C_Pack ob_1 k_9]) (x := (rangeI n)) fr
    have fr : Fr H _ ([(l_14, (.lst (List.map rref (([(l_12, (rangeI n))] : List (RO (List Int))))) : HO))] ++ List.flatten [rosOwn gI (([(l_12, (rangeI n))] : List (RO (List Int)))), pkOwn T.C_Pack ob_1 k_9]) := fr
    refine ⟨(Evl.sz_of (show 0 ≤ 100000 by decide)), fun l_16 nl_17 => ?_⟩
    have fr : Fr H _ ([(l_16, (.lst [] : HO)), (l_14, (.lst (List.map rref (([(l_12, (rangeI n))] : List (RO (List Int))))) : HO))] ++ List.flatten [rosOwn gI (([(l_12, (rangeI n))] : List (RO (List Int)))), pkOwn T.C_Pack ob_1 k_9]) := fr.new nl_17
    have fr : Fr H _ ([(l_16, (.lst (List.map peRef (([] : List PE))) : HO)), (l_14, (.lst (List.map rref (([(l_12, (rangeI n))] : List (RO (List Int))))) : HO))] ++ List.flatten [pesOwn (([] : List PE)), rosOwn gI (([(l_12, (rangeI n))] : List (RO (List Int)))), pkOwn T.C_Pack ob_1 k_9]) := fr
    refine ⟨(Evl.sz_of (show 4 ≤ 100000 by decide)), fun l_18 nl_19 => ?_⟩
    have fr : Fr H _ ([(l_18, (.lst (List.map V.int ([20, 20, 1, 2])) : HO)), (l_16, (.lst (List.map peRef (([] : List PE))) : HO)), (l_14, (.lst (List.map rref (([(l_12, (rangeI n))] : List (RO (List Int))))) : HO))] ++ List.flatten [pesOwn (([] : List PE)), rosOwn gI (([(l_12, (rangeI n))] : List (RO (List Int)))), pkOwn T.C_Pack ob_1 k_9]) := fr.new nl_19
    refine ⟨_, rfl, ⟨_, (SqL.of fr.at0)⟩, ?_⟩
    refine for_it (walkL V.int ([20, 20, 1, 2])) (fun (i : Nat) σ H1 => ∃ (k_20 : PK) (r_21 : List (RO (List Int))) (c_22 : List (List Int)) (r_24 : List (PE)) (c_25 : List (PC)) (y_27 : Option V) (y_28 : Option V) (y_29 : Option V), σ = [some (V.int n), some (V.int head), some (V.ref ob_1), some (V.ref l_14), some (V.ref l_16), y_27, y_28, y_29, none] ∧ Fr H H1 ([(l_18, (.lst (List.map V.int ([20, 20, 1, 2])) : HO)), (l_16, (.lst (List.map peRef r_24) : HO)), (l_14, (.lst (List.map rref r_21) : HO))] ++ List.flatten [pesOwn r_24, rosOwn gI r_21, pkOwn T.C_Pack ob_1 k_20]) ∧ (r_21.map (·.2) = c_22) ∧ (r_24.map peC = c_25) ∧ (Pk3 (Int.toNat n) k_20 c_22 c_25) ∧ (c_25.length ≤ i)) ?_ ?_ ?_ ?_
    · have fr : Fr H _ ([(l_18, (.lst (List.map V.int ([20, 20, 1, 2])) : HO)), (l_16, (.lst (List.map peRef (([] : List PE))) : HO)), (l_14, (.lst (List.map rref (([(l_12, (rangeI n))] : List (RO (List Int))))) : HO))] ++ List.flatten [pkOwn T.C_Pack ob_1 k_9, pesOwn (([] : List PE)), rosOwn gI (([(l_12, (rangeI n))] : List (RO (List Int))))]) := Fr.tup (pre := [(l_18, (.lst (List.map V.int ([20, 20, 1, 2])) : HO)), (l_16, (.lst (List.map peRef (([] : List PE))) : HO)), (l_14, (.lst (List.map rref (([(l_12, (rangeI n))] : List (RO (List Int))))) : HO))]) (ts := [pesOwn (([] : List PE)), rosOwn gI (([(l_12, (rangeI n))] : List (RO (List Int)))), pkOwn T.C_Pack ob_1 k_9]) fr 2 rfl
      have fr : Fr H _ ([(l_18, (.lst (List.map V.int ([20, 20, 1, 2])) : HO)), (l_16, (.lst (List.map peRef (([] : List PE))) : HO)), (l_14, (.lst (List.map rref (([(l_12, (rangeI n))] : List (RO (List Int))))) : HO))] ++ List.flatten [rosOwn gI (([(l_12, (rangeI n))] : List (RO (List Int)))), pkOwn T.C_Pack ob_1 k_9, pesOwn (([] : List PE))]) := Fr.tup (pre := [(l_18, (.lst (List.map V.int ([20, 20, 1, 2])) : HO)), (l_16, (.lst (List.map peRef (([] : List PE))) : HO)), (l_14, (.lst (List.map rref (([(l_12, (rangeI n))] : List (RO (List Int))))) : HO))]) (ts := [pkOwn T.C_Pack ob_1 k_9, pesOwn (([] : List PE)), rosOwn gI (([(l_12, (rangeI n))] : List (RO (List Int))))]) fr 2 rfl
      have fr : Fr H _ ([(l_18, (.lst (List.map V.int ([20, 20, 1, 2])) : HO)), (l_16, (.lst (List.map peRef (([] : List PE))) : HO)), (l_14, (.lst (List.map rref (([(l_12, (rangeI n))] : List (RO (List Int))))) : HO))] ++ List.flatten [pesOwn (([] : List PE)), rosOwn gI (([(l_12, (rangeI n))] : List (RO (List Int)))), pkOwn T.C_Pack ob_1 k_9]) := Fr.tup (pre := [(l_18, (.lst (List.map V.int ([20, 20, 1, 2])) : HO)), (l_16, (.lst (List.map peRef (([] : List PE))) : HO)), (l_14, (.lst (List.map rref (([(l_12, (rangeI n))] : List (RO (List Int))))) : HO))]) (ts := [rosOwn gI (([(l_12, (rangeI n))] : List (RO (List Int)))), pkOwn T.C_Pack ob_1 k_9, pesOwn (([] : List PE))]) fr 2 rfl
      refine ⟨k_9, ([(l_12, (rangeI n))] : List (RO (List Int))), ([(rangeI n)] : List (List Int)), ([] : List PE), ([] : List PC), _, _, _, rfl, fr, ?_, ?_, ?_, ?_⟩
      · exact rfl
      · exact rfl
      · exact Pk3.start pre0 (by assumption) (by assumption)
      · walk_at "inv"
    · rintro i σ H1 hi ⟨k_20, r_21, c_22, r_24, c_25, y_27, y_28, y_29, rfl, fr, hC_23, hC_26, h3, hbl⟩
      exact fr.at0
    · rintro i_30 x_32 s_35 H_33 H_34 hi_31 ⟨k_20, r_21, c_22, r_24, c_25, y_27, y_28, y_29, rfl, fr, hC_23, hC_26, h3, hbl⟩ ⟨rfl, y_36, hy_37, rfl⟩
      have hmy := mem4 hy_37
      have hl4 : List.length ([20, 20, 1, 2] : List Int) = 4 := rfl
      have hlast := h3.last
      have h3l := h3.len
      refine ⟨_, rfl, _, rfl, ?_, ?_, ?_⟩
      · walk_at "side"
      · walk_at "side"
      intro D_38 nD_39
      refine lc_it (walkR (n := (Int.toNat y_36))) (fun (i : Nat) H1 => Fr H H1 ([(D_38, (.lst (List.map V.bl ((List.map (fun i : Nat => decide (((head + (i : Int)) % 3) = 0)) (List.range i)))) : HO)), (l_18, (.lst (List.map V.int ([20, 20, 1, 2])) : HO)), (l_16, (.lst (List.map peRef r_24) : HO)), (l_14, (.lst (List.map rref r_21) : HO))] ++ List.flatten [pesOwn r_24, rosOwn gI r_21, pkOwn T.C_Pack ob_1 k_20])) (fr.new nD_39) (fun i H1 hi fr => trivial) ?_ ?_
      · rintro i_41 x_45 H_43 H_44 hi_42 fr ⟨rfl, rfl⟩
        refine ⟨rfl, ?_⟩
        refine ⟨_, rfl, _, rfl, _, _, rfl, rfl, _, _, rfl, rfl, (show (0 : Int) < _ by decide), _, _, rfl, rfl, ?_⟩
        refine .inr ⟨_, rfl, ?_⟩
        refine ⟨_, (Fr.atk fr 0 rfl), ?_, ?_⟩
        · walk_at "csize"
        have fr : Fr H _ ([(D_38, (.lst (List.map V.bl ((List.map (fun i : Nat => decide (((head + (i : Int)) % 3) = 0)) (List.range i_41)))) : HO)), (l_18, (.lst (List.map V.int ([20, 20, 1, 2])) : HO)), (l_16, (.lst (List.map peRef r_24) : HO)), (l_14, (.lst (List.map rref r_21) : HO))] ++ List.flatten [pkOwn T.C_Pack ob_1 k_20, pesOwn r_24, rosOwn gI r_21]) := Fr.tup (pre := [(D_38, (.lst (List.map V.bl ((List.map (fun i : Nat => decide (((head + (i : Int)) % 3) = 0)) (List.range i_41)))) : HO)), (l_18, (.lst (List.map V.int ([20, 20, 1, 2])) : HO)), (l_16, (.lst (List.map peRef r_24) : HO)), (l_14, (.lst (List.map rref r_21) : HO))]) (ts := [pesOwn r_24, rosOwn gI r_21, pkOwn T.C_Pack ob_1 k_20]) fr 2 rfl
        have fr : Fr H _ ([(D_38, (.lst (List.map V.bl ((List.map (fun i : Nat => decide (((head + (i : Int)) % 3) = 0)) (List.range i_41)))) : HO)), (l_18, (.lst (List.map V.int ([20, 20, 1, 2])) : HO)), (l_16, (.lst (List.map peRef r_24) : HO)), (l_14, (.lst (List.map rref r_21) : HO))] ++ List.flatten [rosOwn gI r_21, pkOwn T.C_Pack ob_1 k_20, pesOwn r_24]) := Fr.tup (pre := [(D_38, (.lst (List.map V.bl ((List.map (fun i : Nat => decide (((head + (i : Int)) % 3) = 0)) (List.range i_41)))) : HO)), (l_18, (.lst (List.map V.int ([20, 20, 1, 2])) : HO)), (l_16, (.lst (List.map peRef r_24) : HO)), (l_14, (.lst (List.map rref r_21) : HO))]) (ts := [pkOwn T.C_Pack ob_1 k_20, pesOwn r_24, rosOwn gI r_21]) fr 2 rfl
        have fr : Fr H _ ([(D_38, (.lst (List.map V.bl ((List.map (fun i : Nat => decide (((head + (i : Int)) % 3) = 0)) (List.range i_41)))) : HO)), (l_18, (.lst (List.map V.int ([20, 20, 1, 2])) : HO)), (l_16, (.lst (List.map peRef r_24) : HO)), (l_14, (.lst (List.map rref r_21) : HO))] ++ List.flatten [pesOwn r_24, rosOwn gI r_21, pkOwn T.C_Pack ob_1 k_20]) := Fr.tup (pre := [(D_38, (.lst (List.map V.bl ((List.map (fun i : Nat => decide (((head + (i : Int)) % 3) = 0)) (List.range i_41)))) : HO)), (l_18, (.lst (List.map V.int ([20, 20, 1, 2])) : HO)), (l_16, (.lst (List.map peRef r_24) : HO)), (l_14, (.lst (List.map rref r_21) : HO))]) (ts := [rosOwn gI r_21, pkOwn T.C_Pack ob_1 k_20, pesOwn r_24]) fr 2 rfl
        exact (Fr.wr fr).cast (lc_r _ _)
      intro H_46 fr
      have fr : Fr H _ ([(D_38, (.lst (List.map V.bl ((List.map (fun i : Nat => decide (((head + (i : Int)) % 3) = 0)) (List.range (Int.toNat y_36))))) : HO)), (l_18, (.lst (List.map V.int ([20, 20, 1, 2])) : HO)), (l_16, (.lst (List.map peRef r_24) : HO)), (l_14, (.lst (List.map rref r_21) : HO))] ++ List.flatten [pesOwn r_24, rosOwn gI r_21, pkOwn T.C_Pack ob_1 k_20]) := fr
      have hml : (((List.map (fun i : Nat => decide (((head + (i : Int)) % 3) = 0)) (List.range (Int.toNat y_36)))).length : Int) = y_36 := by rw [List.length_map, List.length_range]; omega
      refine ⟨_, rfl, _, rfl, ?_, ?_, ?_⟩
      · walk_at "side"
      · walk_at "side"
      intro D_47 nD_48
      refine lc_it (walkR (n := (Int.toNat n))) (fun (i : Nat) H1 => Fr H H1 ([(D_47, (.lst (List.map V.int ((List.map (fun i : Nat => (((head / 3) + (7 * (i : Int))) % y_36)) (List.range i)))) : HO)), (D_38, (.lst (List.map V.bl ((List.map (fun i : Nat => decide (((head + (i : Int)) % 3) = 0)) (List.range (Int.toNat y_36))))) : HO)), (l_18, (.lst (List.map V.int ([20, 20, 1, 2])) : HO)), (l_16, (.lst (List.map peRef r_24) : HO)), (l_14, (.lst (List.map rref r_21) : HO))] ++ List.flatten [pesOwn r_24, rosOwn gI r_21, pkOwn T.C_Pack ob_1 k_20])) (fr.new nD_48) (fun i H1 hi fr => trivial) ?_ ?_
      · rintro i_50 x_54 H_52 H_53 hi_51 fr ⟨rfl, rfl⟩
        refine ⟨rfl, ?_⟩
        refine ⟨_, rfl, _, _, rfl, rfl, ⟨by decide, by decide⟩, _, rfl, _, _, rfl, rfl, (.inl (by decide)), _, _, rfl, rfl, _, rfl, _, _, rfl, rfl, ?_, _, (Fr.atk fr 0 rfl), ?_, ?_⟩
        · omega
        · walk_at "csize"
        have fr : Fr H _ ([(D_47, (.lst (List.map V.int ((List.map (fun i : Nat => (((head / 3) + (7 * (i : Int))) % y_36)) (List.range i_50)))) : HO)), (D_38, (.lst (List.map V.bl ((List.map (fun i : Nat => decide (((head + (i : Int)) % 3) = 0)) (List.range (Int.toNat y_36))))) : HO)), (l_18, (.lst (List.map V.int ([20, 20, 1, 2])) : HO)), (l_16, (.lst (List.map peRef r_24) : HO)), (l_14, (.lst (List.map rref r_21) : HO))] ++ List.flatten [pkOwn T.C_Pack ob_1 k_20, pesOwn r_24, rosOwn gI r_21]) := Fr.tup (pre := [(D_47, (.lst (List.map V.int ((List.map (fun i : Nat => (((head / 3) + (7 * (i : Int))) % y_36)) (List.range i_50)))) : HO)), (D_38, (.lst (List.map V.bl ((List.map (fun i : Nat => decide (((head + (i : Int)) % 3) = 0)) (List.range (Int.toNat y_36))))) : HO)), (l_18, (.lst (List.map V.int ([20, 20, 1, 2])) : HO)), (l_16, (.lst (List.map peRef r_24) : HO)), (l_14, (.lst (List.map rref r_21) : HO))]) (ts := [pesOwn r_24, rosOwn gI r_21, pkOwn T.C_Pack ob_1 k_20]) fr 2 rfl
        have fr : Fr H _ ([(D_47, (.lst (List.map V.int ((List.map (fun i : Nat => (((head / 3) + (7 * (i : Int))) % y_36)) (List.range i_50)))) : HO)), (D_38, (.lst (List.map V.bl ((List.map (fun i : Nat => decide (((head + (i : Int)) % 3) = 0)) (List.range (Int.toNat y_36))))) : HO)), (l_18, (.lst (List.map V.int ([20, 20, 1, 2])) : HO)), (l_16, (.lst (List.map peRef r_24) : HO)), (l_14, (.lst (List.map rref r_21) : HO))] ++ List.flatten [rosOwn gI r_21, pkOwn T.C_Pack ob_1 k_20, pesOwn r_24]) := Fr.tup (pre := [(D_47, (.lst (List.map V.int ((List.map (fun i : Nat => (((head / 3) + (7 * (i : Int))) % y_36)) (List.range i_50)))) : HO)), (D_38, (.lst (List.map V.bl ((List.map (fun i : Nat => decide (((head + (i : Int)) % 3) = 0)) (List.range (Int.toNat y_36))))) : HO)), (l_18, (.lst (List.map V.int ([20, 20, 1, 2])) : HO)), (l_16, (.lst (List.map peRef r_24) : HO)), (l_14, (.lst (List.map rref r_21) : HO))]) (ts := [pkOwn T.C_Pack ob_1 k_20, pesOwn r_24, rosOwn gI r_21]) fr 2 rfl
        have fr : Fr H _ ([(D_47, (.lst (List.map V.int ((List.map (fun i : Nat => (((head / 3) + (7 * (i : Int))) % y_36)) (List.range i_50)))) : HO)), (D_38, (.lst (List.map V.bl ((List.map (fun i : Nat => decide (((head + (i : Int)) % 3) = 0)) (List.range (Int.toNat y_36))))) : HO)), (l_18, (.lst (List.map V.int ([20, 20, 1, 2])) : HO)), (l_16, (.lst (List.map peRef r_24) : HO)), (l_14, (.lst (List.map rref r_21) : HO))] ++ List.flatten [pesOwn r_24, rosOwn gI r_21, pkOwn T.C_Pack ob_1 k_20]) := Fr.tup (pre := [(D_47, (.lst (List.map V.int ((List.map (fun i : Nat => (((head / 3) + (7 * (i : Int))) % y_36)) (List.range i_50)))) : HO)), (D_38, (.lst (List.map V.bl ((List.map (fun i : Nat => decide (((head + (i : Int)) % 3) = 0)) (List.range (Int.toNat y_36))))) : HO)), (l_18, (.lst (List.map V.int ([20, 20, 1, 2])) : HO)), (l_16, (.lst (List.map peRef r_24) : HO)), (l_14, (.lst (List.map rref r_21) : HO))]) (ts := [rosOwn gI r_21, pkOwn T.C_Pack ob_1 k_20, pesOwn r_24]) fr 2 rfl
        exact (Fr.wr fr).cast (lc_r _ _)
      intro H_55 fr
      have fr : Fr H _ ([(D_47, (.lst (List.map V.int ((List.map (fun i : Nat => (((head / 3) + (7 * (i : Int))) % y_36)) (List.range (Int.toNat n))))) : HO)), (D_38, (.lst (List.map V.bl ((List.map (fun i : Nat => decide (((head + (i : Int)) % 3) = 0)) (List.range (Int.toNat y_36))))) : HO)), (l_18, (.lst (List.map V.int ([20, 20, 1, 2])) : HO)), (l_16, (.lst (List.map peRef r_24) : HO)), (l_14, (.lst (List.map rref r_21) : HO))] ++ List.flatten [pesOwn r_24, rosOwn gI r_21, pkOwn T.C_Pack ob_1 k_20]) := fr
      have hwl : (((List.map (fun i : Nat => (((head / 3) + (7 * (i : Int))) % y_36)) (List.range (Int.toNat n)))).length : Int) = n := by rw [List.length_map, List.length_range]; omega
      have hww : IsW ((List.map (fun i : Nat => decide (((head + (i : Int)) % 3) = 0)) (List.range (Int.toNat y_36)))).length ((List.map (fun i : Nat => (((head / 3) + (7 * (i : Int))) % y_36)) (List.range (Int.toNat n)))) := fun x hx => by
        obtain ⟨j, _, rfl⟩ := List.mem_map.mp hx
        rw [hml]
        exact ⟨Int.emod_nonneg _ (by omega), Int.emod_lt_of_pos _ (by omega)⟩
      refine ⟨_, rfl, _, _, _, rfl, (PkAt.p (Fr.pk (pre := [(D_47, (.lst (List.map V.int ((List.map (fun i : Nat => (((head / 3) + (7 * (i : Int))) % y_36)) (List.range (Int.toNat n))))) : HO)), (D_38, (.lst (List.map V.bl ((List.map (fun i : Nat => decide (((head + (i : Int)) % 3) = 0)) (List.range (Int.toNat y_36))))) : HO)), (l_18, (.lst (List.map V.int ([20, 20, 1, 2])) : HO)), (l_16, (.lst (List.map peRef r_24) : HO)), (l_14, (.lst (List.map rref r_21) : HO))]) (ts := [pesOwn r_24, rosOwn gI r_21, pkOwn T.C_Pack ob_1 k_20]) fr 2 rfl)), (pkF_no _ _ (by decide +kernel) (by decide +kernel)), _, rfl, _, _, rfl, (.inl (SqL.of fr.at1)), fun l_56 nl_57 => ?_⟩
      have fr : Fr H _ ([(l_56, (.lst (List.map V.bl ((List.map (fun i : Nat => decide (((head + (i : Int)) % 3) = 0)) (List.range (Int.toNat y_36))))) : HO)), (D_47, (.lst (List.map V.int ((List.map (fun i : Nat => (((head / 3) + (7 * (i : Int))) % y_36)) (List.range (Int.toNat n))))) : HO)), (D_38, (.lst (List.map V.bl ((List.map (fun i : Nat => decide (((head + (i : Int)) % 3) = 0)) (List.range (Int.toNat y_36))))) : HO)), (l_18, (.lst (List.map V.int ([20, 20, 1, 2])) : HO)), (l_16, (.lst (List.map peRef r_24) : HO)), (l_14, (.lst (List.map rref r_21) : HO))] ++ List.flatten [pesOwn r_24, rosOwn gI r_21, pkOwn T.C_Pack ob_1 k_20]) := fr.new nl_57
      refine ⟨_, rfl, _, _, rfl, (.inl (SqL.of fr.at1)), fun l_58 nl_59 => ?_⟩
      have fr : Fr H _ ([(l_58, (.lst (List.map V.int ((List.map (fun i : Nat => (((head / 3) + (7 * (i : Int))) % y_36)) (List.range (Int.toNat n))))) : HO)), (l_56, (.lst (List.map V.bl ((List.map (fun i : Nat => decide (((head + (i : Int)) % 3) = 0)) (List.range (Int.toNat y_36))))) : HO)), (D_47, (.lst (List.map V.int ((List.map (fun i : Nat => (((head / 3) + (7 * (i : Int))) % y_36)) (List.range (Int.toNat n))))) : HO)), (D_38, (.lst (List.map V.bl ((List.map (fun i : Nat => decide (((head + (i : Int)) % 3) = 0)) (List.range (Int.toNat y_36))))) : HO)), (l_18, (.lst (List.map V.int ([20, 20, 1, 2])) : HO)), (l_16, (.lst (List.map peRef r_24) : HO)), (l_14, (.lst (List.map rref r_21) : HO))] ++ List.flatten [pesOwn r_24, rosOwn gI r_21, pkOwn T.C_Pack ob_1 k_20]) := fr.new nl_59
      have fr : Fr H _ ([(l_58, (.lst (List.map V.int ((List.map (fun i : Nat => (((head / 3) + (7 * (i : Int))) % y_36)) (List.range (Int.toNat n))))) : HO)), (l_56, (.lst (List.map V.bl ((List.map (fun i : Nat => decide (((head + (i : Int)) % 3) = 0)) (List.range (Int.toNat y_36))))) : HO)), (D_47, (.lst (List.map V.int ((List.map (fun i : Nat => (((head / 3) + (7 * (i : Int))) % y_36)) (List.range (Int.toNat n))))) : HO)), (D_38, (.lst (List.map V.bl ((List.map (fun i : Nat => decide (((head + (i : Int)) % 3) = 0)) (List.range (Int.toNat y_36))))) : HO)), (l_18, (.lst (List.map V.int ([20, 20, 1, 2])) : HO)), (l_16, (.lst (List.map peRef r_24) : HO)), (l_14, (.lst (List.map rref r_21) : HO))] ++ List.flatten [pkOwn T.C_Pack ob_1 k_20, pesOwn r_24, rosOwn gI r_21]) := Fr.tup (pre := [(l_58, (.lst (List.map V.int ((List.map (fun i : Nat => (((head / 3) + (7 * (i : Int))) % y_36)) (List.range (Int.toNat n))))) : HO)), (l_56, (.lst (List.map V.bl ((List.map (fun i : Nat => decide (((head + (i : Int)) % 3) = 0)) (List.range (Int.toNat y_36))))) : HO)), (D_47, (.lst (List.map V.int ((List.map (fun i : Nat => (((head / 3) + (7 * (i : Int))) % y_36)) (List.range (Int.toNat n))))) : HO)), (D_38, (.lst (List.map V.bl ((List.map (fun i : Nat => decide (((head + (i : Int)) % 3) = 0)) (List.range (Int.toNat y_36))))) : HO)), (l_18, (.lst (List.map V.int ([20, 20, 1, 2])) : HO)), (l_16, (.lst (List.map peRef r_24) : HO)), (l_14, (.lst (List.map rref r_21) : HO))]) (ts := [pesOwn r_24, rosOwn gI r_21, pkOwn T.C_Pack ob_1 k_20]) fr 2 rfl
      have frF_60 := Fr.split (bpre := []) (pre := [(l_58, (.lst (List.map V.int ((List.map (fun i : Nat => (((head / 3) + (7 * (i : Int))) % y_36)) (List.range (Int.toNat n))))) : HO)), (l_56, (.lst (List.map V.bl ((List.map (fun i : Nat => decide (((head + (i : Int)) % 3) = 0)) (List.range (Int.toNat y_36))))) : HO)), (D_47, (.lst (List.map V.int ((List.map (fun i : Nat => (((head / 3) + (7 * (i : Int))) % y_36)) (List.range (Int.toNat n))))) : HO)), (D_38, (.lst (List.map V.bl ((List.map (fun i : Nat => decide (((head + (i : Int)) % 3) = 0)) (List.range (Int.toNat y_36))))) : HO)), (l_18, (.lst (List.map V.int ([20, 20, 1, 2])) : HO)), (l_16, (.lst (List.map peRef r_24) : HO)), (l_14, (.lst (List.map rref r_21) : HO))]) (bts := [pkOwn T.C_Pack ob_1 k_20]) (ts := [pesOwn r_24, rosOwn gI r_21]) fr
      have fr : Fr H _ ([(l_58, (.lst (List.map V.int ((List.map (fun i : Nat => (((head / 3) + (7 * (i : Int))) % y_36)) (List.range (Int.toNat n))))) : HO)), (l_56, (.lst (List.map V.bl ((List.map (fun i : Nat => decide (((head + (i : Int)) % 3) = 0)) (List.range (Int.toNat y_36))))) : HO)), (D_47, (.lst (List.map V.int ((List.map (fun i : Nat => (((head / 3) + (7 * (i : Int))) % y_36)) (List.range (Int.toNat n))))) : HO)), (D_38, (.lst (List.map V.bl ((List.map (fun i : Nat => decide (((head + (i : Int)) % 3) = 0)) (List.range (Int.toNat y_36))))) : HO)), (l_18, (.lst (List.map V.int ([20, 20, 1, 2])) : HO)), (l_16, (.lst (List.map peRef r_24) : HO)), (l_14, (.lst (List.map rref r_21) : HO))] ++ List.flatten [pesOwn r_24, rosOwn gI r_21]) := Fr.mn frF_60
      refine ⟨ob_1, k_20, l_56, ((List.map (fun i : Nat => decide (((head + (i : Int)) % 3) = 0)) (List.range (Int.toNat y_36)))), l_58, ((List.map (fun i : Nat => (((head / 3) + (7 * (i : Int))) % y_36)) (List.range (Int.toNat n)))), _, rfl, (Fr.lent frF_60), fr.at1, fr.at0, ?_, ?_, ?_, fun H_61 k_63 p_64 riffle_65 hp_66 hp_67 hp_68 ff_62 => ?_⟩
      · exact hww
      · omega
      · omega
      have fr : Fr H _ ([(p_64, (.lst (List.map V.int riffle_65) : HO)), (l_58, (.lst (List.map V.int ((List.map (fun i : Nat => (((head / 3) + (7 * (i : Int))) % y_36)) (List.range (Int.toNat n))))) : HO)), (l_56, (.lst (List.map V.bl ((List.map (fun i : Nat => decide (((head + (i : Int)) % 3) = 0)) (List.range (Int.toNat y_36))))) : HO)), (D_47, (.lst (List.map V.int ((List.map (fun i : Nat => (((head / 3) + (7 * (i : Int))) % y_36)) (List.range (Int.toNat n))))) : HO)), (D_38, (.lst (List.map V.bl ((List.map (fun i : Nat => decide (((head + (i : Int)) % 3) = 0)) (List.range (Int.toNat y_36))))) : HO)), (l_18, (.lst (List.map V.int ([20, 20, 1, 2])) : HO)), (l_16, (.lst (List.map peRef r_24) : HO)), (l_14, (.lst (List.map rref r_21) : HO))] ++ List.flatten [pkOwn T.C_Pack ob_1 k_63, pesOwn r_24, rosOwn gI r_21]) := Fr.back2 (bpre := []) (pre := [(l_58, (.lst (List.map V.int ((List.map (fun i : Nat => (((head / 3) + (7 * (i : Int))) % y_36)) (List.range (Int.toNat n))))) : HO)), (l_56, (.lst (List.map V.bl ((List.map (fun i : Nat => decide (((head + (i : Int)) % 3) = 0)) (List.range (Int.toNat y_36))))) : HO)), (D_47, (.lst (List.map V.int ((List.map (fun i : Nat => (((head / 3) + (7 * (i : Int))) % y_36)) (List.range (Int.toNat n))))) : HO)), (D_38, (.lst (List.map V.bl ((List.map (fun i : Nat => decide (((head + (i : Int)) % 3) = 0)) (List.range (Int.toNat y_36))))) : HO)), (l_18, (.lst (List.map V.int ([20, 20, 1, 2])) : HO)), (l_16, (.lst (List.map peRef r_24) : HO)), (l_14, (.lst (List.map rref r_21) : HO))]) (bts := [pkOwn T.C_Pack ob_1 k_20]) (ts := [pesOwn r_24, rosOwn gI r_21]) (bpre' := [(p_64, (.lst (List.map V.int riffle_65) : HO))]) (bts' := [pkOwn T.C_Pack ob_1 k_63]) frF_60 ff_62
      subst hp_68
      have hn3 := h3.riffle (by omega) (by omega) hww hp_66 hp_67
      have fr : Fr H _ ([(l_58, (.lst (List.map V.int ((List.map (fun i : Nat => (((head / 3) + (7 * (i : Int))) % y_36)) (List.range (Int.toNat n))))) : HO)), (l_56, (.lst (List.map V.bl ((List.map (fun i : Nat => decide (((head + (i : Int)) % 3) = 0)) (List.range (Int.toNat y_36))))) : HO)), (D_47, (.lst (List.map V.int ((List.map (fun i : Nat => (((head / 3) + (7 * (i : Int))) % y_36)) (List.range (Int.toNat n))))) : HO)), (D_38, (.lst (List.map V.bl ((List.map (fun i : Nat => decide (((head + (i : Int)) % 3) = 0)) (List.range (Int.toNat y_36))))) : HO)), (l_18, (.lst (List.map V.int ([20, 20, 1, 2])) : HO)), (l_16, (.lst (List.map peRef r_24) : HO)), (l_14, (.lst (List.map rref r_21) : HO))] ++ List.flatten [pkOwn T.C_Pack ob_1 k_63, pesOwn r_24, rosOwn gI r_21]) := Fr.dk fr 0
      have fr : Fr H _ ([(l_56, (.lst (List.map V.bl ((List.map (fun i : Nat => decide (((head + (i : Int)) % 3) = 0)) (List.range (Int.toNat y_36))))) : HO)), (D_47, (.lst (List.map V.int ((List.map (fun i : Nat => (((head / 3) + (7 * (i : Int))) % y_36)) (List.range (Int.toNat n))))) : HO)), (D_38, (.lst (List.map V.bl ((List.map (fun i : Nat => decide (((head + (i : Int)) % 3) = 0)) (List.range (Int.toNat y_36))))) : HO)), (l_18, (.lst (List.map V.int ([20, 20, 1, 2])) : HO)), (l_16, (.lst (List.map peRef r_24) : HO)), (l_14, (.lst (List.map rref r_21) : HO))] ++ List.flatten [pkOwn T.C_Pack ob_1 k_63, pesOwn r_24, rosOwn gI r_21]) := Fr.dk fr 0
      have fr : Fr H _ ([(D_47, (.lst (List.map V.int ((List.map (fun i : Nat => (((head / 3) + (7 * (i : Int))) % y_36)) (List.range (Int.toNat n))))) : HO)), (D_38, (.lst (List.map V.bl ((List.map (fun i : Nat => decide (((head + (i : Int)) % 3) = 0)) (List.range (Int.toNat y_36))))) : HO)), (l_18, (.lst (List.map V.int ([20, 20, 1, 2])) : HO)), (l_16, (.lst (List.map peRef r_24) : HO)), (l_14, (.lst (List.map rref r_21) : HO))] ++ List.flatten [pkOwn T.C_Pack ob_1 k_63, pesOwn r_24, rosOwn gI r_21]) := Fr.dk fr 0
      have hlt_69 : (List.length c_22 - 1) < List.length c_22 := by omega
      refine ⟨_, rfl, (.inl ⟨rfl, _, (SqL.of (Fr.atk fr 4 rfl))⟩), _, rfl, _, rfl, _, _, _, _, rfl, rfl, (SqL.of (Fr.atk fr 4 rfl)), (atRowLast hC_23 [] ?_), _, rfl, _, rfl, (List.getD r_21 (List.length c_22 - 1) (0, [])).1, ((List.getD c_22 (List.length c_22 - 1) [])), D_38, ((List.map (fun i : Nat => decide (((head + (i : Int)) % 3) = 0)) (List.range (Int.toNat y_36)))), D_47, ((List.map (fun i : Nat => (((head / 3) + (7 * (i : Int))) % y_36)) (List.range (Int.toNat n)))), rfl, (ros_at (fun z hz => Fr.rmem (pre := [(D_47, (.lst (List.map V.int ((List.map (fun i : Nat => (((head / 3) + (7 * (i : Int))) % y_36)) (List.range (Int.toNat n))))) : HO)), (D_38, (.lst (List.map V.bl ((List.map (fun i : Nat => decide (((head + (i : Int)) % 3) = 0)) (List.range (Int.toNat y_36))))) : HO)), (l_18, (.lst (List.map V.int ([20, 20, 1, 2])) : HO)), (l_16, (.lst (List.map peRef r_24) : HO)), (l_14, (.lst (List.map rref r_21) : HO))]) (ts := [pkOwn T.C_Pack ob_1 k_63, pesOwn r_24, rosOwn gI r_21]) fr 2 rfl hz) hC_23 [] (List.length c_22 - 1) hlt_69), fr.at1, fr.at0, ?_, ?_, fun H_70 p_74 riffled_71 hp_73 sm_72 np_75 ep_76 => ?_⟩
      · walk_at "side"
      · exact hww
      · rw [hlast]; omega
      have fr : Fr H _ ([(p_74, (.lst (List.map V.int riffled_71) : HO)), (D_47, (.lst (List.map V.int ((List.map (fun i : Nat => (((head / 3) + (7 * (i : Int))) % y_36)) (List.range (Int.toNat n))))) : HO)), (D_38, (.lst (List.map V.bl ((List.map (fun i : Nat => decide (((head + (i : Int)) % 3) = 0)) (List.range (Int.toNat y_36))))) : HO)), (l_18, (.lst (List.map V.int ([20, 20, 1, 2])) : HO)), (l_16, (.lst (List.map peRef r_24) : HO)), (l_14, (.lst (List.map rref r_21) : HO))] ++ List.flatten [pkOwn T.C_Pack ob_1 k_63, pesOwn r_24, rosOwn gI r_21]) := fr.cnew sm_72 np_75 ep_76
      subst hp_73
      refine ⟨_, _, _, rfl, rfl, (Fr.atk fr 5 rfl), ?_, ?_⟩
      · walk_at "tsize"
      have fr : Fr H _ ([(p_74, (.lst (List.map V.int (((riffleI ((List.getD c_22 (List.length c_22 - 1) [])) ((List.map (fun i : Nat => decide (((head + (i : Int)) % 3) = 0)) (List.range (Int.toNat y_36)))) ((List.map (fun i : Nat => (((head / 3) + (7 * (i : Int))) % y_36)) (List.range (Int.toNat n)))))))) : HO)), (D_47, (.lst (List.map V.int ((List.map (fun i : Nat => (((head / 3) + (7 * (i : Int))) % y_36)) (List.range (Int.toNat n))))) : HO)), (D_38, (.lst (List.map V.bl ((List.map (fun i : Nat => decide (((head + (i : Int)) % 3) = 0)) (List.range (Int.toNat y_36))))) : HO)), (l_18, (.lst (List.map V.int ([20, 20, 1, 2])) : HO)), (l_16, (.lst (List.map peRef r_24) : HO)), (l_14, (.lst (List.map rref ((r_21 ++ [(p_74, ((riffleI ((List.getD c_22 (List.length c_22 - 1) [])) ((List.map (fun i : Nat => decide (((head + (i : Int)) % 3) = 0)) (List.range (Int.toNat y_36)))) ((List.map (fun i : Nat => (((head / 3) + (7 * (i : Int))) % y_36)) (List.range (Int.toNat n)))))))]))) : HO))] ++ List.flatten [pkOwn T.C_Pack ob_1 k_63, pesOwn r_24, rosOwn gI r_21]) := Fr.wrk fr 5 rfl (lst_rref_app (rows := r_21) (x := ((riffleI ((List.getD c_22 (List.length c_22 - 1) [])) ((List.map (fun i : Nat => decide (((head + (i : Int)) % 3) = 0)) (List.range (Int.toNat y_36)))) ((List.map (fun i : Nat => (((head / 3) + (7 * (i : Int))) % y_36)) (List.range (Int.toNat n))))))))
      have fr : Fr H _ ([(p_74, (.lst (List.map V.int (((riffleI ((List.getD c_22 (List.length c_22 - 1) [])) ((List.map (fun i : Nat => decide (((head + (i : Int)) % 3) = 0)) (List.range (Int.toNat y_36)))) ((List.map (fun i : Nat => (((head / 3) + (7 * (i : Int))) % y_36)) (List.range (Int.toNat n)))))))) : HO)), (D_47, (.lst (List.map V.int ((List.map (fun i : Nat => (((head / 3) + (7 * (i : Int))) % y_36)) (List.range (Int.toNat n))))) : HO)), (D_38, (.lst (List.map V.bl ((List.map (fun i : Nat => decide (((head + (i : Int)) % 3) = 0)) (List.range (Int.toNat y_36))))) : HO)), (l_18, (.lst (List.map V.int ([20, 20, 1, 2])) : HO)), (l_16, (.lst (List.map peRef r_24) : HO)), (l_14, (.lst (List.map rref ((r_21 ++ [(p_74, ((riffleI ((List.getD c_22 (List.length c_22 - 1) [])) ((List.map (fun i : Nat => decide (((head + (i : Int)) % 3) = 0)) (List.range (Int.toNat y_36)))) ((List.map (fun i : Nat => (((head / 3) + (7 * (i : Int))) % y_36)) (List.range (Int.toNat n)))))))]))) : HO))] ++ List.flatten [rosOwn gI r_21, pkOwn T.C_Pack ob_1 k_63, pesOwn r_24]) := Fr.tup (pre := [(p_74, (.lst (List.map V.int (((riffleI ((List.getD c_22 (List.length c_22 - 1) [])) ((List.map (fun i : Nat => decide (((head + (i : Int)) % 3) = 0)) (List.range (Int.toNat y_36)))) ((List.map (fun i : Nat => (((head / 3) + (7 * (i : Int))) % y_36)) (List.range (Int.toNat n)))))))) : HO)), (D_47, (.lst (List.map V.int ((List.map (fun i : Nat => (((head / 3) + (7 * (i : Int))) % y_36)) (List.range (Int.toNat n))))) : HO)), (D_38, (.lst (List.map V.bl ((List.map (fun i : Nat => decide (((head + (i : Int)) % 3) = 0)) (List.range (Int.toNat y_36))))) : HO)), (l_18, (.lst (List.map V.int ([20, 20, 1, 2])) : HO)), (l_16, (.lst (List.map peRef r_24) : HO)), (l_14, (.lst (List.map rref ((r_21 ++ [(p_74, ((riffleI ((List.getD c_22 (List.length c_22 - 1) [])) ((List.map (fun i : Nat => decide (((head + (i : Int)) % 3) = 0)) (List.range (Int.toNat y_36)))) ((List.map (fun i : Nat => (((head / 3) + (7 * (i : Int))) % y_36)) (List.range (Int.toNat n)))))))]))) : HO))]) (ts := [pkOwn T.C_Pack ob_1 k_63, pesOwn r_24, rosOwn gI r_21]) fr 2 rfl
      have fr : Fr H _ ([(D_47, (.lst (List.map V.int ((List.map (fun i : Nat => (((head / 3) + (7 * (i : Int))) % y_36)) (List.range (Int.toNat n))))) : HO)), (D_38, (.lst (List.map V.bl ((List.map (fun i : Nat => decide (((head + (i : Int)) % 3) = 0)) (List.range (Int.toNat y_36))))) : HO)), (l_18, (.lst (List.map V.int ([20, 20, 1, 2])) : HO)), (l_16, (.lst (List.map peRef r_24) : HO)), (l_14, (.lst (List.map rref ((r_21 ++ [(p_74, ((riffleI ((List.getD c_22 (List.length c_22 - 1) [])) ((List.map (fun i : Nat => decide (((head + (i : Int)) % 3) = 0)) (List.range (Int.toNat y_36)))) ((List.map (fun i : Nat => (((head / 3) + (7 * (i : Int))) % y_36)) (List.range (Int.toNat n)))))))]))) : HO))] ++ List.flatten [rosOwn gI ((r_21 ++ [(p_74, ((riffleI ((List.getD c_22 (List.length c_22 - 1) [])) ((List.map (fun i : Nat => decide (((head + (i : Int)) % 3) = 0)) (List.range (Int.toNat y_36)))) ((List.map (fun i : Nat => (((head / 3) + (7 * (i : Int))) % y_36)) (List.range (Int.toNat n)))))))])), pkOwn T.C_Pack ob_1 k_63, pesOwn r_24]) := Fr.radd (g := gI) (pre := [(D_47, (.lst (List.map V.int ((List.map (fun i : Nat => (((head / 3) + (7 * (i : Int))) % y_36)) (List.range (Int.toNat n))))) : HO)), (D_38, (.lst (List.map V.bl ((List.map (fun i : Nat => decide (((head + (i : Int)) % 3) = 0)) (List.range (Int.toNat y_36))))) : HO)), (l_18, (.lst (List.map V.int ([20, 20, 1, 2])) : HO)), (l_16, (.lst (List.map peRef r_24) : HO)), (l_14, (.lst (List.map rref ((r_21 ++ [(p_74, ((riffleI ((List.getD c_22 (List.length c_22 - 1) [])) ((List.map (fun i : Nat => decide (((head + (i : Int)) % 3) = 0)) (List.range (Int.toNat y_36)))) ((List.map (fun i : Nat => (((head / 3) + (7 * (i : Int))) % y_36)) (List.range (Int.toNat n)))))))]))) : HO))]) (ts := [pkOwn T.C_Pack ob_1 k_63, pesOwn r_24]) (rows := r_21) (x := ((riffleI ((List.getD c_22 (List.length c_22 - 1) [])) ((List.map (fun i : Nat => decide (((head + (i : Int)) % 3) = 0)) (List.range (Int.toNat y_36)))) ((List.map (fun i : Nat => (((head / 3) + (7 * (i : Int))) % y_36)) (List.range (Int.toNat n))))))) fr
      refine ⟨_, rfl, (.inl ⟨rfl, _, (SqL.of fr.at3)⟩), _, rfl, _, rfl, (Evl.sz_of (show 2 ≤ 100000 by decide)), fun t_77 nt_78 => ?_⟩
      have fr : Fr H _ ([(t_77, (.tup [(V.ref D_38), (V.ref D_47)] : HO)), (D_47, (.lst (List.map V.int ((List.map (fun i : Nat => (((head / 3) + (7 * (i : Int))) % y_36)) (List.range (Int.toNat n))))) : HO)), (D_38, (.lst (List.map V.bl ((List.map (fun i : Nat => decide (((head + (i : Int)) % 3) = 0)) (List.range (Int.toNat y_36))))) : HO)), (l_18, (.lst (List.map V.int ([20, 20, 1, 2])) : HO)), (l_16, (.lst (List.map peRef r_24) : HO)), (l_14, (.lst (List.map rref ((r_21 ++ [(p_74, ((riffleI ((List.getD c_22 (List.length c_22 - 1) [])) ((List.map (fun i : Nat => decide (((head + (i : Int)) % 3) = 0)) (List.range (Int.toNat y_36)))) ((List.map (fun i : Nat => (((head / 3) + (7 * (i : Int))) % y_36)) (List.range (Int.toNat n)))))))]))) : HO))] ++ List.flatten [rosOwn gI ((r_21 ++ [(p_74, ((riffleI ((List.getD c_22 (List.length c_22 - 1) [])) ((List.map (fun i : Nat => decide (((head + (i : Int)) % 3) = 0)) (List.range (Int.toNat y_36)))) ((List.map (fun i : Nat => (((head / 3) + (7 * (i : Int))) % y_36)) (List.range (Int.toNat n)))))))])), pkOwn T.C_Pack ob_1 k_63, pesOwn r_24]) := fr.new nt_78
      refine ⟨_, _, _, rfl, rfl, (Fr.atk fr 4 rfl), ?_, ?_⟩
      · rw [pc_len2 hC_26]; refine Evl.sz_lt ?_; omega
      have fr : Fr H _ ([(t_77, (.tup [(V.ref D_38), (V.ref D_47)] : HO)), (D_47, (.lst (List.map V.int ((List.map (fun i : Nat => (((head / 3) + (7 * (i : Int))) % y_36)) (List.range (Int.toNat n))))) : HO)), (D_38, (.lst (List.map V.bl ((List.map (fun i : Nat => decide (((head + (i : Int)) % 3) = 0)) (List.range (Int.toNat y_36))))) : HO)), (l_18, (.lst (List.map V.int ([20, 20, 1, 2])) : HO)), (l_16, (.lst (List.map peRef ((r_24 ++ [(⟨t_77, D_38, D_47, (List.map (fun i : Nat => decide (((head + (i : Int)) % 3) = 0)) (List.range (Int.toNat y_36))), (List.map (fun i : Nat => (((head / 3) + (7 * (i : Int))) % y_36)) (List.range (Int.toNat n)))⟩ : PE)]))) : HO)), (l_14, (.lst (List.map rref ((r_21 ++ [(p_74, ((riffleI ((List.getD c_22 (List.length c_22 - 1) [])) ((List.map (fun i : Nat => decide (((head + (i : Int)) % 3) = 0)) (List.range (Int.toNat y_36)))) ((List.map (fun i : Nat => (((head / 3) + (7 * (i : Int))) % y_36)) (List.range (Int.toNat n)))))))]))) : HO))] ++ List.flatten [rosOwn gI ((r_21 ++ [(p_74, ((riffleI ((List.getD c_22 (List.length c_22 - 1) [])) ((List.map (fun i : Nat => decide (((head + (i : Int)) % 3) = 0)) (List.range (Int.toNat y_36)))) ((List.map (fun i : Nat => (((head / 3) + (7 * (i : Int))) % y_36)) (List.range (Int.toNat n)))))))])), pkOwn T.C_Pack ob_1 k_63, pesOwn r_24]) := Fr.wrk fr 4 rfl lst_pe_app
      have fr : Fr H _ ([(t_77, (.tup [(V.ref D_38), (V.ref D_47)] : HO)), (D_47, (.lst (List.map V.int ((List.map (fun i : Nat => (((head / 3) + (7 * (i : Int))) % y_36)) (List.range (Int.toNat n))))) : HO)), (D_38, (.lst (List.map V.bl ((List.map (fun i : Nat => decide (((head + (i : Int)) % 3) = 0)) (List.range (Int.toNat y_36))))) : HO)), (l_18, (.lst (List.map V.int ([20, 20, 1, 2])) : HO)), (l_16, (.lst (List.map peRef ((r_24 ++ [(⟨t_77, D_38, D_47, (List.map (fun i : Nat => decide (((head + (i : Int)) % 3) = 0)) (List.range (Int.toNat y_36))), (List.map (fun i : Nat => (((head / 3) + (7 * (i : Int))) % y_36)) (List.range (Int.toNat n)))⟩ : PE)]))) : HO)), (l_14, (.lst (List.map rref ((r_21 ++ [(p_74, ((riffleI ((List.getD c_22 (List.length c_22 - 1) [])) ((List.map (fun i : Nat => decide (((head + (i : Int)) % 3) = 0)) (List.range (Int.toNat y_36)))) ((List.map (fun i : Nat => (((head / 3) + (7 * (i : Int))) % y_36)) (List.range (Int.toNat n)))))))]))) : HO))] ++ List.flatten [pesOwn r_24, rosOwn gI ((r_21 ++ [(p_74, ((riffleI ((List.getD c_22 (List.length c_22 - 1) [])) ((List.map (fun i : Nat => decide (((head + (i : Int)) % 3) = 0)) (List.range (Int.toNat y_36)))) ((List.map (fun i : Nat => (((head / 3) + (7 * (i : Int))) % y_36)) (List.range (Int.toNat n)))))))])), pkOwn T.C_Pack ob_1 k_63]) := Fr.tup (pre := [(t_77, (.tup [(V.ref D_38), (V.ref D_47)] : HO)), (D_47, (.lst (List.map V.int ((List.map (fun i : Nat => (((head / 3) + (7 * (i : Int))) % y_36)) (List.range (Int.toNat n))))) : HO)), (D_38, (.lst (List.map V.bl ((List.map (fun i : Nat => decide (((head + (i : Int)) % 3) = 0)) (List.range (Int.toNat y_36))))) : HO)), (l_18, (.lst (List.map V.int ([20, 20, 1, 2])) : HO)), (l_16, (.lst (List.map peRef ((r_24 ++ [(⟨t_77, D_38, D_47, (List.map (fun i : Nat => decide (((head + (i : Int)) % 3) = 0)) (List.range (Int.toNat y_36))), (List.map (fun i : Nat => (((head / 3) + (7 * (i : Int))) % y_36)) (List.range (Int.toNat n)))⟩ : PE)]))) : HO)), (l_14, (.lst (List.map rref ((r_21 ++ [(p_74, ((riffleI ((List.getD c_22 (List.length c_22 - 1) [])) ((List.map (fun i : Nat => decide (((head + (i : Int)) % 3) = 0)) (List.range (Int.toNat y_36)))) ((List.map (fun i : Nat => (((head / 3) + (7 * (i : Int))) % y_36)) (List.range (Int.toNat n)))))))]))) : HO))]) (ts := [rosOwn gI ((r_21 ++ [(p_74, ((riffleI ((List.getD c_22 (List.length c_22 - 1) [])) ((List.map (fun i : Nat => decide (((head + (i : Int)) % 3) = 0)) (List.range (Int.toNat y_36)))) ((List.map (fun i : Nat => (((head / 3) + (7 * (i : Int))) % y_36)) (List.range (Int.toNat n)))))))])), pkOwn T.C_Pack ob_1 k_63, pesOwn r_24]) fr 2 rfl
      have fr : Fr H _ ([(D_47, (.lst (List.map V.int ((List.map (fun i : Nat => (((head / 3) + (7 * (i : Int))) % y_36)) (List.range (Int.toNat n))))) : HO)), (t_77, (.tup [(V.ref D_38), (V.ref D_47)] : HO)), (D_38, (.lst (List.map V.bl ((List.map (fun i : Nat => decide (((head + (i : Int)) % 3) = 0)) (List.range (Int.toNat y_36))))) : HO)), (l_18, (.lst (List.map V.int ([20, 20, 1, 2])) : HO)), (l_16, (.lst (List.map peRef ((r_24 ++ [(⟨t_77, D_38, D_47, (List.map (fun i : Nat => decide (((head + (i : Int)) % 3) = 0)) (List.range (Int.toNat y_36))), (List.map (fun i : Nat => (((head / 3) + (7 * (i : Int))) % y_36)) (List.range (Int.toNat n)))⟩ : PE)]))) : HO)), (l_14, (.lst (List.map rref ((r_21 ++ [(p_74, ((riffleI ((List.getD c_22 (List.length c_22 - 1) [])) ((List.map (fun i : Nat => decide (((head + (i : Int)) % 3) = 0)) (List.range (Int.toNat y_36)))) ((List.map (fun i : Nat => (((head / 3) + (7 * (i : Int))) % y_36)) (List.range (Int.toNat n)))))))]))) : HO))] ++ List.flatten [pesOwn r_24, rosOwn gI ((r_21 ++ [(p_74, ((riffleI ((List.getD c_22 (List.length c_22 - 1) [])) ((List.map (fun i : Nat => decide (((head + (i : Int)) % 3) = 0)) (List.range (Int.toNat y_36)))) ((List.map (fun i : Nat => (((head / 3) + (7 * (i : Int))) % y_36)) (List.range (Int.toNat n)))))))])), pkOwn T.C_Pack ob_1 k_63]) := Fr.upk fr 1 rfl
      have fr : Fr H _ ([(D_38, (.lst (List.map V.bl ((List.map (fun i : Nat => decide (((head + (i : Int)) % 3) = 0)) (List.range (Int.toNat y_36))))) : HO)), (D_47, (.lst (List.map V.int ((List.map (fun i : Nat => (((head / 3) + (7 * (i : Int))) % y_36)) (List.range (Int.toNat n))))) : HO)), (t_77, (.tup [(V.ref D_38), (V.ref D_47)] : HO)), (l_18, (.lst (List.map V.int ([20, 20, 1, 2])) : HO)), (l_16, (.lst (List.map peRef ((r_24 ++ [(⟨t_77, D_38, D_47, (List.map (fun i : Nat => decide (((head + (i : Int)) % 3) = 0)) (List.range (Int.toNat y_36))), (List.map (fun i : Nat => (((head / 3) + (7 * (i : Int))) % y_36)) (List.range (Int.toNat n)))⟩ : PE)]))) : HO)), (l_14, (.lst (List.map rref ((r_21 ++ [(p_74, ((riffleI ((List.getD c_22 (List.length c_22 - 1) [])) ((List.map (fun i : Nat => decide (((head + (i : Int)) % 3) = 0)) (List.range (Int.toNat y_36)))) ((List.map (fun i : Nat => (((head / 3) + (7 * (i : Int))) % y_36)) (List.range (Int.toNat n)))))))]))) : HO))] ++ List.flatten [pesOwn r_24, rosOwn gI ((r_21 ++ [(p_74, ((riffleI ((List.getD c_22 (List.length c_22 - 1) [])) ((List.map (fun i : Nat => decide (((head + (i : Int)) % 3) = 0)) (List.range (Int.toNat y_36)))) ((List.map (fun i : Nat => (((head / 3) + (7 * (i : Int))) % y_36)) (List.range (Int.toNat n)))))))])), pkOwn T.C_Pack ob_1 k_63]) := Fr.upk fr 2 rfl
      have fr : Fr H _ ([(t_77, (.tup [(V.ref D_38), (V.ref D_47)] : HO)), (D_38, (.lst (List.map V.bl ((List.map (fun i : Nat => decide (((head + (i : Int)) % 3) = 0)) (List.range (Int.toNat y_36))))) : HO)), (D_47, (.lst (List.map V.int ((List.map (fun i : Nat => (((head / 3) + (7 * (i : Int))) % y_36)) (List.range (Int.toNat n))))) : HO)), (l_18, (.lst (List.map V.int ([20, 20, 1, 2])) : HO)), (l_16, (.lst (List.map peRef ((r_24 ++ [(⟨t_77, D_38, D_47, (List.map (fun i : Nat => decide (((head + (i : Int)) % 3) = 0)) (List.range (Int.toNat y_36))), (List.map (fun i : Nat => (((head / 3) + (7 * (i : Int))) % y_36)) (List.range (Int.toNat n)))⟩ : PE)]))) : HO)), (l_14, (.lst (List.map rref ((r_21 ++ [(p_74, ((riffleI ((List.getD c_22 (List.length c_22 - 1) [])) ((List.map (fun i : Nat => decide (((head + (i : Int)) % 3) = 0)) (List.range (Int.toNat y_36)))) ((List.map (fun i : Nat => (((head / 3) + (7 * (i : Int))) % y_36)) (List.range (Int.toNat n)))))))]))) : HO))] ++ List.flatten [pesOwn r_24, rosOwn gI ((r_21 ++ [(p_74, ((riffleI ((List.getD c_22 (List.length c_22 - 1) [])) ((List.map (fun i : Nat => decide (((head + (i : Int)) % 3) = 0)) (List.range (Int.toNat y_36)))) ((List.map (fun i : Nat => (((head / 3) + (7 * (i : Int))) % y_36)) (List.range (Int.toNat n)))))))])), pkOwn T.C_Pack ob_1 k_63]) := Fr.upk fr 2 rfl
      have fr : Fr H _ ([(l_18, (.lst (List.map V.int ([20, 20, 1, 2])) : HO)), (l_16, (.lst (List.map peRef ((r_24 ++ [(⟨t_77, D_38, D_47, (List.map (fun i : Nat => decide (((head + (i : Int)) % 3) = 0)) (List.range (Int.toNat y_36))), (List.map (fun i : Nat => (((head / 3) + (7 * (i : Int))) % y_36)) (List.range (Int.toNat n)))⟩ : PE)]))) : HO)), (l_14, (.lst (List.map rref ((r_21 ++ [(p_74, ((riffleI ((List.getD c_22 (List.length c_22 - 1) [])) ((List.map (fun i : Nat => decide (((head + (i : Int)) % 3) = 0)) (List.range (Int.toNat y_36)))) ((List.map (fun i : Nat => (((head / 3) + (7 * (i : Int))) % y_36)) (List.range (Int.toNat n)))))))]))) : HO))] ++ List.flatten [pesOwn ((r_24 ++ [(⟨t_77, D_38, D_47, (List.map (fun i : Nat => decide (((head + (i : Int)) % 3) = 0)) (List.range (Int.toNat y_36))), (List.map (fun i : Nat => (((head / 3) + (7 * (i : Int))) % y_36)) (List.range (Int.toNat n)))⟩ : PE)])), rosOwn gI ((r_21 ++ [(p_74, ((riffleI ((List.getD c_22 (List.length c_22 - 1) [])) ((List.map (fun i : Nat => decide (((head + (i : Int)) % 3) = 0)) (List.range (Int.toNat y_36)))) ((List.map (fun i : Nat => (((head / 3) + (7 * (i : Int))) % y_36)) (List.range (Int.toNat n)))))))])), pkOwn T.C_Pack ob_1 k_63]) := Fr.padd (pre := [(l_18, (.lst (List.map V.int ([20, 20, 1, 2])) : HO)), (l_16, (.lst (List.map peRef ((r_24 ++ [(⟨t_77, D_38, D_47, (List.map (fun i : Nat => decide (((head + (i : Int)) % 3) = 0)) (List.range (Int.toNat y_36))), (List.map (fun i : Nat => (((head / 3) + (7 * (i : Int))) % y_36)) (List.range (Int.toNat n)))⟩ : PE)]))) : HO)), (l_14, (.lst (List.map rref ((r_21 ++ [(p_74, ((riffleI ((List.getD c_22 (List.length c_22 - 1) [])) ((List.map (fun i : Nat => decide (((head + (i : Int)) % 3) = 0)) (List.range (Int.toNat y_36)))) ((List.map (fun i : Nat => (((head / 3) + (7 * (i : Int))) % y_36)) (List.range (Int.toNat n)))))))]))) : HO))]) (ts := [rosOwn gI ((r_21 ++ [(p_74, ((riffleI ((List.getD c_22 (List.length c_22 - 1) [])) ((List.map (fun i : Nat => decide (((head + (i : Int)) % 3) = 0)) (List.range (Int.toNat y_36)))) ((List.map (fun i : Nat => (((head / 3) + (7 * (i : Int))) % y_36)) (List.range (Int.toNat n)))))))])), pkOwn T.C_Pack ob_1 k_63]) (es := r_24) fr
      refine ⟨_, rfl, _, rfl, _, rfl, ob_1, k_63, l_14, ((c_22 ++ [((riffleI ((List.getD c_22 (List.length c_22 - 1) [])) ((List.map (fun i : Nat => decide (((head + (i : Int)) % 3) = 0)) (List.range (Int.toNat y_36)))) ((List.map (fun i : Nat => (((head / 3) + (7 * (i : Int))) % y_36)) (List.range (Int.toNat n))))))])), l_16, ((r_24 ++ [(⟨t_77, D_38, D_47, (List.map (fun i : Nat => decide (((head + (i : Int)) % 3) = 0)) (List.range (Int.toNat y_36))), (List.map (fun i : Nat => (((head / 3) + (7 * (i : Int))) % y_36)) (List.range (Int.toNat n)))⟩ : PE)])), ((c_25 ++ [((List.map (fun i : Nat => decide (((head + (i : Int)) % 3) = 0)) (List.range (Int.toNat y_36))), (List.map (fun i : Nat => (((head / 3) + (7 * (i : Int))) % y_36)) (List.range (Int.toNat n))))])), (Int.toNat n), rfl, (Fr.pk (pre := [(l_18, (.lst (List.map V.int ([20, 20, 1, 2])) : HO)), (l_16, (.lst (List.map peRef ((r_24 ++ [(⟨t_77, D_38, D_47, (List.map (fun i : Nat => decide (((head + (i : Int)) % 3) = 0)) (List.range (Int.toNat y_36))), (List.map (fun i : Nat => (((head / 3) + (7 * (i : Int))) % y_36)) (List.range (Int.toNat n)))⟩ : PE)]))) : HO)), (l_14, (.lst (List.map rref ((r_21 ++ [(p_74, ((riffleI ((List.getD c_22 (List.length c_22 - 1) [])) ((List.map (fun i : Nat => decide (((head + (i : Int)) % 3) = 0)) (List.range (Int.toNat y_36)))) ((List.map (fun i : Nat => (((head / 3) + (7 * (i : Int))) % y_36)) (List.range (Int.toNat n)))))))]))) : HO))]) (ts := [pesOwn ((r_24 ++ [(⟨t_77, D_38, D_47, (List.map (fun i : Nat => decide (((head + (i : Int)) % 3) = 0)) (List.range (Int.toNat y_36))), (List.map (fun i : Nat => (((head / 3) + (7 * (i : Int))) % y_36)) (List.range (Int.toNat n)))⟩ : PE)])), rosOwn gI ((r_21 ++ [(p_74, ((riffleI ((List.getD c_22 (List.length c_22 - 1) [])) ((List.map (fun i : Nat => decide (((head + (i : Int)) % 3) = 0)) (List.range (Int.toNat y_36)))) ((List.map (fun i : Nat => (((head / 3) + (7 * (i : Int))) % y_36)) (List.range (Int.toNat n)))))))])), pkOwn T.C_Pack ob_1 k_63]) fr 2 rfl), (tab_lit (rows := ((r_21 ++ [(p_74, ((riffleI ((List.getD c_22 (List.length c_22 - 1) [])) ((List.map (fun i : Nat => decide (((head + (i : Int)) % 3) = 0)) (List.range (Int.toNat y_36)))) ((List.map (fun i : Nat => (((head / 3) + (7 * (i : Int))) % y_36)) (List.range (Int.toNat n)))))))]))) (fun z hz => Fr.rmem (pre := [(l_18, (.lst (List.map V.int ([20, 20, 1, 2])) : HO)), (l_16, (.lst (List.map peRef ((r_24 ++ [(⟨t_77, D_38, D_47, (List.map (fun i : Nat => decide (((head + (i : Int)) % 3) = 0)) (List.range (Int.toNat y_36))), (List.map (fun i : Nat => (((head / 3) + (7 * (i : Int))) % y_36)) (List.range (Int.toNat n)))⟩ : PE)]))) : HO)), (l_14, (.lst (List.map rref ((r_21 ++ [(p_74, ((riffleI ((List.getD c_22 (List.length c_22 - 1) [])) ((List.map (fun i : Nat => decide (((head + (i : Int)) % 3) = 0)) (List.range (Int.toNat y_36)))) ((List.map (fun i : Nat => (((head / 3) + (7 * (i : Int))) % y_36)) (List.range (Int.toNat n)))))))]))) : HO))]) (ts := [pesOwn ((r_24 ++ [(⟨t_77, D_38, D_47, (List.map (fun i : Nat => decide (((head + (i : Int)) % 3) = 0)) (List.range (Int.toNat y_36))), (List.map (fun i : Nat => (((head / 3) + (7 * (i : Int))) % y_36)) (List.range (Int.toNat n)))⟩ : PE)])), rosOwn gI ((r_21 ++ [(p_74, ((riffleI ((List.getD c_22 (List.length c_22 - 1) [])) ((List.map (fun i : Nat => decide (((head + (i : Int)) % 3) = 0)) (List.range (Int.toNat y_36)))) ((List.map (fun i : Nat => (((head / 3) + (7 * (i : Int))) % y_36)) (List.range (Int.toNat n)))))))])), pkOwn T.C_Pack ob_1 k_63]) fr 1 rfl hz) fr.at2 (snd_app (p := p_74) (x := ((riffleI ((List.getD c_22 (List.length c_22 - 1) [])) ((List.map (fun i : Nat => decide (((head + (i : Int)) % 3) = 0)) (List.range (Int.toNat y_36)))) ((List.map (fun i : Nat => (((head / 3) + (7 * (i : Int))) % y_36)) (List.range (Int.toNat n))))))) hC_23)), (PstAt.mk fr.at1 (Fr.pes (pre := [(l_18, (.lst (List.map V.int ([20, 20, 1, 2])) : HO)), (l_16, (.lst (List.map peRef ((r_24 ++ [(⟨t_77, D_38, D_47, (List.map (fun i : Nat => decide (((head + (i : Int)) % 3) = 0)) (List.range (Int.toNat y_36))), (List.map (fun i : Nat => (((head / 3) + (7 * (i : Int))) % y_36)) (List.range (Int.toNat n)))⟩ : PE)]))) : HO)), (l_14, (.lst (List.map rref ((r_21 ++ [(p_74, ((riffleI ((List.getD c_22 (List.length c_22 - 1) [])) ((List.map (fun i : Nat => decide (((head + (i : Int)) % 3) = 0)) (List.range (Int.toNat y_36)))) ((List.map (fun i : Nat => (((head / 3) + (7 * (i : Int))) % y_36)) (List.range (Int.toNat n)))))))]))) : HO))]) (ts := [pesOwn ((r_24 ++ [(⟨t_77, D_38, D_47, (List.map (fun i : Nat => decide (((head + (i : Int)) % 3) = 0)) (List.range (Int.toNat y_36))), (List.map (fun i : Nat => (((head / 3) + (7 * (i : Int))) % y_36)) (List.range (Int.toNat n)))⟩ : PE)])), rosOwn gI ((r_21 ++ [(p_74, ((riffleI ((List.getD c_22 (List.length c_22 - 1) [])) ((List.map (fun i : Nat => decide (((head + (i : Int)) % 3) = 0)) (List.range (Int.toNat y_36)))) ((List.map (fun i : Nat => (((head / 3) + (7 * (i : Int))) % y_36)) (List.range (Int.toNat n)))))))])), pkOwn T.C_Pack ob_1 k_63]) fr 0 rfl) (pc_app hC_26)), ?_, fun H_79 told_80 hp_82 sm_81 => ?_⟩
      · exact hn3
      have fr : Fr H _ ([(l_18, (.lst (List.map V.int ([20, 20, 1, 2])) : HO)), (l_16, (.lst (List.map peRef ((r_24 ++ [(⟨t_77, D_38, D_47, (List.map (fun i : Nat => decide (((head + (i : Int)) % 3) = 0)) (List.range (Int.toNat y_36))), (List.map (fun i : Nat => (((head / 3) + (7 * (i : Int))) % y_36)) (List.range (Int.toNat n)))⟩ : PE)]))) : HO)), (l_14, (.lst (List.map rref ((r_21 ++ [(p_74, ((riffleI ((List.getD c_22 (List.length c_22 - 1) [])) ((List.map (fun i : Nat => decide (((head + (i : Int)) % 3) = 0)) (List.range (Int.toNat y_36)))) ((List.map (fun i : Nat => (((head / 3) + (7 * (i : Int))) % y_36)) (List.range (Int.toNat n)))))))]))) : HO))] ++ List.flatten [pesOwn ((r_24 ++ [(⟨t_77, D_38, D_47, (List.map (fun i : Nat => decide (((head + (i : Int)) % 3) = 0)) (List.range (Int.toNat y_36))), (List.map (fun i : Nat => (((head / 3) + (7 * (i : Int))) % y_36)) (List.range (Int.toNat n)))⟩ : PE)])), rosOwn gI ((r_21 ++ [(p_74, ((riffleI ((List.getD c_22 (List.length c_22 - 1) [])) ((List.map (fun i : Nat => decide (((head + (i : Int)) % 3) = 0)) (List.range (Int.toNat y_36)))) ((List.map (fun i : Nat => (((head / 3) + (7 * (i : Int))) % y_36)) (List.range (Int.toNat n)))))))])), pkOwn T.C_Pack ob_1 k_63]) := fr.call sm_81
      subst hp_82
      refine ⟨_, rfl, fun _ => ?_, (fun h => nomatch h)⟩
      refine iteF ?_
      have fr : Fr H _ ([(l_18, (.lst (List.map V.int ([20, 20, 1, 2])) : HO)), (l_16, (.lst (List.map peRef ((r_24 ++ [(⟨t_77, D_38, D_47, (List.map (fun i : Nat => decide (((head + (i : Int)) % 3) = 0)) (List.range (Int.toNat y_36))), (List.map (fun i : Nat => (((head / 3) + (7 * (i : Int))) % y_36)) (List.range (Int.toNat n)))⟩ : PE)]))) : HO)), (l_14, (.lst (List.map rref ((r_21 ++ [(p_74, ((riffleI ((List.getD c_22 (List.length c_22 - 1) [])) ((List.map (fun i : Nat => decide (((head + (i : Int)) % 3) = 0)) (List.range (Int.toNat y_36)))) ((List.map (fun i : Nat => (((head / 3) + (7 * (i : Int))) % y_36)) (List.range (Int.toNat n)))))))]))) : HO))] ++ List.flatten [pkOwn T.C_Pack ob_1 k_63, pesOwn ((r_24 ++ [(⟨t_77, D_38, D_47, (List.map (fun i : Nat => decide (((head + (i : Int)) % 3) = 0)) (List.range (Int.toNat y_36))), (List.map (fun i : Nat => (((head / 3) + (7 * (i : Int))) % y_36)) (List.range (Int.toNat n)))⟩ : PE)])), rosOwn gI ((r_21 ++ [(p_74, ((riffleI ((List.getD c_22 (List.length c_22 - 1) [])) ((List.map (fun i : Nat => decide (((head + (i : Int)) % 3) = 0)) (List.range (Int.toNat y_36)))) ((List.map (fun i : Nat => (((head / 3) + (7 * (i : Int))) % y_36)) (List.range (Int.toNat n)))))))]))]) := Fr.tup (pre := [(l_18, (.lst (List.map V.int ([20, 20, 1, 2])) : HO)), (l_16, (.lst (List.map peRef ((r_24 ++ [(⟨t_77, D_38, D_47, (List.map (fun i : Nat => decide (((head + (i : Int)) % 3) = 0)) (List.range (Int.toNat y_36))), (List.map (fun i : Nat => (((head / 3) + (7 * (i : Int))) % y_36)) (List.range (Int.toNat n)))⟩ : PE)]))) : HO)), (l_14, (.lst (List.map rref ((r_21 ++ [(p_74, ((riffleI ((List.getD c_22 (List.length c_22 - 1) [])) ((List.map (fun i : Nat => decide (((head + (i : Int)) % 3) = 0)) (List.range (Int.toNat y_36)))) ((List.map (fun i : Nat => (((head / 3) + (7 * (i : Int))) % y_36)) (List.range (Int.toNat n)))))))]))) : HO))]) (ts := [pesOwn ((r_24 ++ [(⟨t_77, D_38, D_47, (List.map (fun i : Nat => decide (((head + (i : Int)) % 3) = 0)) (List.range (Int.toNat y_36))), (List.map (fun i : Nat => (((head / 3) + (7 * (i : Int))) % y_36)) (List.range (Int.toNat n)))⟩ : PE)])), rosOwn gI ((r_21 ++ [(p_74, ((riffleI ((List.getD c_22 (List.length c_22 - 1) [])) ((List.map (fun i : Nat => decide (((head + (i : Int)) % 3) = 0)) (List.range (Int.toNat y_36)))) ((List.map (fun i : Nat => (((head / 3) + (7 * (i : Int))) % y_36)) (List.range (Int.toNat n)))))))])), pkOwn T.C_Pack ob_1 k_63]) fr 2 rfl
      have fr : Fr H _ ([(l_18, (.lst (List.map V.int ([20, 20, 1, 2])) : HO)), (l_16, (.lst (List.map peRef ((r_24 ++ [(⟨t_77, D_38, D_47, (List.map (fun i : Nat => decide (((head + (i : Int)) % 3) = 0)) (List.range (Int.toNat y_36))), (List.map (fun i : Nat => (((head / 3) + (7 * (i : Int))) % y_36)) (List.range (Int.toNat n)))⟩ : PE)]))) : HO)), (l_14, (.lst (List.map rref ((r_21 ++ [(p_74, ((riffleI ((List.getD c_22 (List.length c_22 - 1) [])) ((List.map (fun i : Nat => decide (((head + (i : Int)) % 3) = 0)) (List.range (Int.toNat y_36)))) ((List.map (fun i : Nat => (((head / 3) + (7 * (i : Int))) % y_36)) (List.range (Int.toNat n)))))))]))) : HO))] ++ List.flatten [rosOwn gI ((r_21 ++ [(p_74, ((riffleI ((List.getD c_22 (List.length c_22 - 1) [])) ((List.map (fun i : Nat => decide (((head + (i : Int)) % 3) = 0)) (List.range (Int.toNat y_36)))) ((List.map (fun i : Nat => (((head / 3) + (7 * (i : Int))) % y_36)) (List.range (Int.toNat n)))))))])), pkOwn T.C_Pack ob_1 k_63, pesOwn ((r_24 ++ [(⟨t_77, D_38, D_47, (List.map (fun i : Nat => decide (((head + (i : Int)) % 3) = 0)) (List.range (Int.toNat y_36))), (List.map (fun i : Nat => (((head / 3) + (7 * (i : Int))) % y_36)) (List.range (Int.toNat n)))⟩ : PE)]))]) := Fr.tup (pre := [(l_18, (.lst (List.map V.int ([20, 20, 1, 2])) : HO)), (l_16, (.lst (List.map peRef ((r_24 ++ [(⟨t_77, D_38, D_47, (List.map (fun i : Nat => decide (((head + (i : Int)) % 3) = 0)) (List.range (Int.toNat y_36))), (List.map (fun i : Nat => (((head / 3) + (7 * (i : Int))) % y_36)) (List.range (Int.toNat n)))⟩ : PE)]))) : HO)), (l_14, (.lst (List.map rref ((r_21 ++ [(p_74, ((riffleI ((List.getD c_22 (List.length c_22 - 1) [])) ((List.map (fun i : Nat => decide (((head + (i : Int)) % 3) = 0)) (List.range (Int.toNat y_36)))) ((List.map (fun i : Nat => (((head / 3) + (7 * (i : Int))) % y_36)) (List.range (Int.toNat n)))))))]))) : HO))]) (ts := [pkOwn T.C_Pack ob_1 k_63, pesOwn ((r_24 ++ [(⟨t_77, D_38, D_47, (List.map (fun i : Nat => decide (((head + (i : Int)) % 3) = 0)) (List.range (Int.toNat y_36))), (List.map (fun i : Nat => (((head / 3) + (7 * (i : Int))) % y_36)) (List.range (Int.toNat n)))⟩ : PE)])), rosOwn gI ((r_21 ++ [(p_74, ((riffleI ((List.getD c_22 (List.length c_22 - 1) [])) ((List.map (fun i : Nat => decide (((head + (i : Int)) % 3) = 0)) (List.range (Int.toNat y_36)))) ((List.map (fun i : Nat => (((head / 3) + (7 * (i : Int))) % y_36)) (List.range (Int.toNat n)))))))]))]) fr 2 rfl
      have fr : Fr H _ ([(l_18, (.lst (List.map V.int ([20, 20, 1, 2])) : HO)), (l_16, (.lst (List.map peRef ((r_24 ++ [(⟨t_77, D_38, D_47, (List.map (fun i : Nat => decide (((head + (i : Int)) % 3) = 0)) (List.range (Int.toNat y_36))), (List.map (fun i : Nat => (((head / 3) + (7 * (i : Int))) % y_36)) (List.range (Int.toNat n)))⟩ : PE)]))) : HO)), (l_14, (.lst (List.map rref ((r_21 ++ [(p_74, ((riffleI ((List.getD c_22 (List.length c_22 - 1) [])) ((List.map (fun i : Nat => decide (((head + (i : Int)) % 3) = 0)) (List.range (Int.toNat y_36)))) ((List.map (fun i : Nat => (((head / 3) + (7 * (i : Int))) % y_36)) (List.range (Int.toNat n)))))))]))) : HO))] ++ List.flatten [pesOwn ((r_24 ++ [(⟨t_77, D_38, D_47, (List.map (fun i : Nat => decide (((head + (i : Int)) % 3) = 0)) (List.range (Int.toNat y_36))), (List.map (fun i : Nat => (((head / 3) + (7 * (i : Int))) % y_36)) (List.range (Int.toNat n)))⟩ : PE)])), rosOwn gI ((r_21 ++ [(p_74, ((riffleI ((List.getD c_22 (List.length c_22 - 1) [])) ((List.map (fun i : Nat => decide (((head + (i : Int)) % 3) = 0)) (List.range (Int.toNat y_36)))) ((List.map (fun i : Nat => (((head / 3) + (7 * (i : Int))) % y_36)) (List.range (Int.toNat n)))))))])), pkOwn T.C_Pack ob_1 k_63]) := Fr.tup (pre := [(l_18, (.lst (List.map V.int ([20, 20, 1, 2])) : HO)), (l_16, (.lst (List.map peRef ((r_24 ++ [(⟨t_77, D_38, D_47, (List.map (fun i : Nat => decide (((head + (i : Int)) % 3) = 0)) (List.range (Int.toNat y_36))), (List.map (fun i : Nat => (((head / 3) + (7 * (i : Int))) % y_36)) (List.range (Int.toNat n)))⟩ : PE)]))) : HO)), (l_14, (.lst (List.map rref ((r_21 ++ [(p_74, ((riffleI ((List.getD c_22 (List.length c_22 - 1) [])) ((List.map (fun i : Nat => decide (((head + (i : Int)) % 3) = 0)) (List.range (Int.toNat y_36)))) ((List.map (fun i : Nat => (((head / 3) + (7 * (i : Int))) % y_36)) (List.range (Int.toNat n)))))))]))) : HO))]) (ts := [rosOwn gI ((r_21 ++ [(p_74, ((riffleI ((List.getD c_22 (List.length c_22 - 1) [])) ((List.map (fun i : Nat => decide (((head + (i : Int)) % 3) = 0)) (List.range (Int.toNat y_36)))) ((List.map (fun i : Nat => (((head / 3) + (7 * (i : Int))) % y_36)) (List.range (Int.toNat n)))))))])), pkOwn T.C_Pack ob_1 k_63, pesOwn ((r_24 ++ [(⟨t_77, D_38, D_47, (List.map (fun i : Nat => decide (((head + (i : Int)) % 3) = 0)) (List.range (Int.toNat y_36))), (List.map (fun i : Nat => (((head / 3) + (7 * (i : Int))) % y_36)) (List.range (Int.toNat n)))⟩ : PE)]))]) fr 2 rfl
      refine ⟨k_63, (r_21 ++ [(p_74, ((riffleI ((List.getD c_22 (List.length c_22 - 1) [])) ((List.map (fun i : Nat => decide (((head + (i : Int)) % 3) = 0)) (List.range (Int.toNat y_36)))) ((List.map (fun i : Nat => (((head / 3) + (7 * (i : Int))) % y_36)) (List.range (Int.toNat n)))))))]), (c_22 ++ [((riffleI ((List.getD c_22 (List.length c_22 - 1) [])) ((List.map (fun i : Nat => decide (((head + (i : Int)) % 3) = 0)) (List.range (Int.toNat y_36)))) ((List.map (fun i : Nat => (((head / 3) + (7 * (i : Int))) % y_36)) (List.range (Int.toNat n))))))]), (r_24 ++ [(⟨t_77, D_38, D_47, (List.map (fun i : Nat => decide (((head + (i : Int)) % 3) = 0)) (List.range (Int.toNat y_36))), (List.map (fun i : Nat => (((head / 3) + (7 * (i : Int))) % y_36)) (List.range (Int.toNat n)))⟩ : PE)]), (c_25 ++ [((List.map (fun i : Nat => decide (((head + (i : Int)) % 3) = 0)) (List.range (Int.toNat y_36))), (List.map (fun i : Nat => (((head / 3) + (7 * (i : Int))) % y_36)) (List.range (Int.toNat n))))]), _, _, _, rfl, fr, ?_, ?_, ?_, ?_⟩
      · exact (snd_app (p := p_74) (x := ((riffleI ((List.getD c_22 (List.length c_22 - 1) [])) ((List.map (fun i : Nat => decide (((head + (i : Int)) % 3) = 0)) (List.range (Int.toNat y_36)))) ((List.map (fun i : Nat => (((head / 3) + (7 * (i : Int))) % y_36)) (List.range (Int.toNat n))))))) hC_23)
      · exact (pc_app hC_26)
      · exact hn3
      · rw [List.length_append]; exact Nat.succ_le_succ hbl
    rintro s_84 H_83 ⟨k_20, r_21, c_22, r_24, c_25, y_27, y_28, y_29, rfl, fr, hC_23, hC_26, h3, hbl⟩
    have fr : Fr H _ ([(l_16, (.lst (List.map peRef r_24) : HO)), (l_14, (.lst (List.map rref r_21) : HO))] ++ List.flatten [pesOwn r_24, rosOwn gI r_21, pkOwn T.C_Pack ob_1 k_20]) := Fr.dk fr 0
    exact q _ true (by rfl) fr.same
def sp_law_word (K : PySem.W.Frag) : Sp := fun vs H Q _ => ∃ (cell : Int) (heaps : Int) (n : Int), vs = [V.int cell, V.int heaps, V.int n] ∧ (1 ≤ heaps ∧ heaps ≤ 400) ∧ (1 ≤ n ∧ n ≤ 60) ∧ (∀ (H1 : Hp) (rA : Addr) (res : List Int), ((res.length : Int) = n) → (IsW (Int.toNat heaps) res) → Same H H1 → H rA = none → H1 rA = some (.lst (List.map V.int res)) → Q (V.ref rA) H1)
theorem sc_law_word : FnScope ["_law_cell", "_law_heaps", "_law_n", "_law_rest", "_law_word_here", "_law_k", "_law_number"] ["_law_cell", "_law_heaps", "_law_n"] (defScope s_law_word) := ⟨rfl, rfl, rfl, by decide +kernel, rfl, by decide +kernel, by decide +kernel⟩
theorem ok_law_word (T : Txt K mg) : FnOk P w K mg base CX0 2 T.f_law_word T.fd_law_word ["_law_cell", "_law_heaps", "_law_n"] (sp_law_word K) := by
  refine T.F_law_word.ok sc_law_word (fun vs H Q E h => ?_) (fun cdv A outer s H vs Q E hr h => ?_)
  · obtain ⟨cell, heaps, n, rfl, _⟩ := h; rfl
  · obtain ⟨cell, heaps, n, rfl, pre0, pre1, q⟩ := h
    have fr := Fr.nil H
    refine ⟨_, (pss_cons (ps_set (i := 3) sc_law_word.nd rfl (Or.inl rfl) (pv 0))
          (pss_cons (ps_set (i := 4) sc_law_word.nd rfl (Or.inl rfl) (pe_lst pa_nil))
          (pss_cons (ps_for PassesOwn.never rfl (pi_range1 (by rfl) T.m_range (pa_cons (pv 2) pa_nil)) (pg_name (i := 5) sc_law_word.nd rfl (Or.inl rfl)) (pss_cons (ps_set (i := 6) sc_law_word.nd rfl (Or.inl rfl) (pe_op op_mod (pv 3) (pv 1)))
          (pss_cons (ps_set (i := 3) sc_law_word.nd rfl (Or.inl rfl) (pe_op op_fdiv (pv 3) (pv 1)))
          (pss_cut (ps_if (pt_cmpR op_ltS (pe_callB call_absI (by rfl) T.m_abs (by decide +kernel) (pa_cons (pv 0) pa_nil)) (pe_op op_powL pe_int pe_int) (nomark _)) (pss_one (ps_set (i := 6) sc_law_word.nd rfl (Or.inl rfl) (pe_op op_mod (pe_op op_fdiv (pe_call (ok_law_mixed T) (hr.mono (by decide)) (by rfl) T.g_law_mixed T.F_law_mixed.kp T.b_law_mixed .nil pass0 (pa_cons (pv 0) (pa_cons (pe_op op_add (pv 5) pe_int) pa_nil))) pe_int) (pv 1)))) pss_nil)
          (pss_one (ps_expr (pe_bmK (K := K) (pe_bm PySem.F.plainAttrs_list PySem.F.slot_list_append PySem.F.type_list_append mt_append (pv 4) (pa_cons (pv 6) pa_nil)))))))))
          (pss_one (ps_ret (pv 4)))))), ?_⟩
    refine ⟨_, rfl, ?_⟩
    refine ⟨(Evl.sz_of (show 0 ≤ 100000 by decide)), fun l_1 nl_2 => ?_⟩
    have fr : Fr H _ [(l_1, (.lst [] : HO))] := fr.new nl_2
    have fr : Fr H _ [(l_1, (.lst (List.map V.int ([])) : HO))] := fr
    refine ⟨_, rfl, _, rfl, ?_, ?_, ?_⟩
    · walk_at "side"
    · walk_at "side"
    refine for_it (walkR (n := (Int.toNat n))) (fun (i : Nat) σ H1 => ∃ (rest_3 : Int) (word_4 : List Int) (y_5 : Option V) (y_6 : Option V), σ = [some (V.int cell), some (V.int heaps), some (V.int n), some (V.int rest_3), some (V.ref l_1), y_5, y_6] ∧ Fr H H1 [(l_1, (.lst (List.map V.int word_4) : HO))] ∧ (word_4.length = i) ∧ (IsW (Int.toNat heaps) word_4)) ?_ ?_ ?_ ?_
    · refine ⟨cell, [], _, _, rfl, fr, ?_, ?_⟩
      · walk_at "inv"
      · exact IsW.nil _
    · rintro i σ H1 hi ⟨rest_3, word_4, y_5, y_6, rfl, fr, hl, hw⟩
      exact trivial
    · rintro i_7 x_9 s_12 H_10 H_11 hi_8 ⟨rest_3, word_4, y_5, y_6, rfl, fr, hl, hw⟩ ⟨rfl, rfl⟩
      have hmm1 := Int.emod_nonneg rest_3 (show heaps ≠ 0 by omega)
      have hmm2 := Int.emod_lt_of_pos rest_3 (show 0 < heaps by omega)
      refine ⟨_, rfl, _, rfl, _, _, rfl, rfl, ?_, ?_⟩
      · walk_at "side"
      refine ⟨_, rfl, _, rfl, _, _, rfl, rfl, ?_, ?_⟩
      · walk_at "div"
      refine ⟨fun σ H1 => ∃ (number_13 : Int), σ = [some (V.int cell), some (V.int heaps), some (V.int n), some (V.int ((rest_3 / heaps))), some (V.ref l_1), some (V.int ((i_7 : Int))), some (V.int number_13)] ∧ Fr H H1 [(l_1, (.lst (List.map V.int word_4) : HO))] ∧ (0 ≤ number_13 ∧ number_13 < heaps), ?_, ?_⟩
      · refine ⟨_, rfl, _, rfl, _, _, 1000000000000000000, rfl, rfl, ⟨by decide, by decide, by decide⟩, (by decide), _, _, rfl, rfl, ?_, ?_⟩
        · intro h14
          refine ⟨_, rfl, ?_⟩
          refine iteT ?_
          refine ⟨_, rfl, _, rfl, _, _, rfl, rfl, cell, (((i_7 : Int) + 300)), rfl, ?_, fun H_15 mixed_16 hp_18 sm_17 => ?_⟩
          · walk_at "side"
          have fr : Fr H _ [(l_1, (.lst (List.map V.int word_4) : HO))] := fr.call sm_17
          refine ⟨_, _, rfl, rfl, ⟨by decide, by decide⟩, _, rfl, _, _, rfl, rfl, ?_, ?_⟩
          · walk_at "side"
          refine ⟨((mixed_16 / 5) % heaps), rfl, fr, ?_⟩
          · first | exact ⟨hmm1, hmm2⟩ | exact ⟨Int.emod_nonneg _ (by omega), Int.emod_lt_of_pos _ (by omega)⟩
        · intro h14
          refine ⟨_, rfl, ?_⟩
          refine iteF ?_
          refine ⟨(rest_3 % heaps), rfl, fr, ?_⟩
          · first | exact ⟨hmm1, hmm2⟩ | exact ⟨Int.emod_nonneg _ (by omega), Int.emod_lt_of_pos _ (by omega)⟩
      rintro s_20 H_19 ⟨number_13, rfl, fr, hpk⟩
      refine ⟨_, rfl, (.inl ⟨rfl, _, (SqL.of fr.at0)⟩), _, rfl, _, _, _, rfl, rfl, fr.at0, ?_, ?_⟩
      · walk_at "size"
      have fr : Fr H _ [(l_1, (.lst (List.map V.int ((word_4 ++ [number_13]))) : HO))] := Fr.wrk fr 0 rfl (lst_app V.int _ _)
      refine ⟨(rest_3 / heaps), (word_4 ++ [number_13]), _, _, rfl, fr, ?_, ?_⟩
      · walk_at "inv"
      · exact hw.app hpk.1 (by omega)
    rintro s_22 H_21 ⟨rest_3, word_4, y_5, y_6, rfl, fr, hl, hw⟩
    refine ⟨_, rfl, ?_⟩
    exact q _ _ word_4 (by omega) (by exact hw) fr.same fr.n0 fr.at0
def sp_law (K : PySem.W.Frag) : Sp := fun vs H Q _ => ∃ (a_script : Addr) (script : List Int), vs = [V.ref a_script] ∧ SqL K H a_script (List.map V.int script) ∧ (script.length ≤ 63) ∧ (∀ (H1 : Hp) (res : Bool), (res = true) → Same H H1 → Q (V.bl res) H1)
theorem sc_law : FnScope ["_law_script", "_law_head", "_law_n", "_law_pack", "_law_orders", "_law_past", "_law_k", "_law_marks_here", "_law_word_here"] ["_law_script"] (defScope s_law) := ⟨rfl, rfl, rfl, by decide +kernel, rfl, by decide +kernel, by decide +kernel⟩
theorem ok_law (T : Txt K mg) : FnOk P w K mg base CX0 10 T.f_law T.fd_law ["_law_script"] (sp_law K) := by
  refine T.F_law.ok sc_law (fun vs H Q E h => ?_) (fun cdv A outer s H vs Q E hr h => ?_)
  · obtain ⟨a_script, script, rfl, _⟩ := h; rfl
  · obtain ⟨a_script, script, rfl, h_script, pre0, q⟩ := h
    have fr := Fr.nil H
    refine ⟨_, (pss_cons (ps_set (i := 1) sc_law.nd rfl (Or.inl rfl) (pe_call (ok_law_cell_at T) (hr.mono (by decide)) (by rfl) T.g_law_cell_at T.F_law_cell_at.kp T.b_law_cell_at .nil pass0 (pa_cons (pv 0) (pa_cons pe_int pa_nil))))
          (pss_cons (ps_set (i := 2) sc_law.nd rfl (Or.inl rfl) (pe_op op_add pe_int (pe_op op_mod (pe_op op_fdiv (pv 1) pe_int) (pe_ix (show IxR _ (rIxL K) from ix_list) (pe_lst (pa_cons pe_int (pa_cons pe_int pa_nil))) (pe_callB (call_minI rfl) (by rfl) T.m_min (by decide +kernel) (pa_cons pe_int (pa_cons (pe_op op_mod (pv 1) pe_int) pa_nil))) (fun _ _ => rfl)))))
          (pss_cons (ps_set (i := 3) sc_law.nd rfl (Or.inl rfl) (pe_make T.mk_Pack (ok_Pack___init T) (hr.mono (by decide)) (by rfl) T.mg_Pack T.b_Pack___init .nil pass0 (pa_cons (pv 2) pa_nil)))
          (pss_cons (ps_set (i := 4) sc_law.nd rfl (Or.inl rfl) (pe_lst (pa_cons (pe_listRg rfl (by rfl) T.m_list (prg_1 (by rfl) T.m_range (pv 2))) pa_nil)))
          (pss_cons (ps_set (i := 5) sc_law.nd rfl (Or.inl rfl) (pe_lst pa_nil))
          (pss_cons (ps_if (pt_not (pt_valS (pe_call (ok_law_told T) (hr.mono (by decide)) (by rfl) T.g_law_told T.F_law_told.kp T.b_law_told .nil pass0 (pa_cons (pv 3) (pa_cons (pv 4) (pa_cons (pv 5) pa_nil)))))) (pss_one (ps_ret pe_bl)) pss_nil)
          (pss_cons (ps_for PassesOwn.never rfl (pi_range3 (by rfl) T.m_range (pa_cons pe_int (pa_cons (pe_callB (call_minI rfl) (by rfl) T.m_min (by decide +kernel) (pa_cons pe_int (pa_cons (pe_callB (show CallR _ _ (rLenL K) from call_lenL) (by rfl) T.m_len (by decide +kernel) (pa_cons (pv 0) pa_nil)) pa_nil))) (pa_cons pe_int pa_nil)))) (pg_name (i := 6) sc_law.nd rfl (Or.inl rfl)) (pss_cons (ps_if (PW.pt (pw_and (pt_cmpR op_eqS (pe_op op_mod (pe_ix (show IxR _ (rIxL K) from ix_list) (pv 0) (pv 6) (fun _ _ => rfl)) pe_int) pe_int (nomark _)) (pw_and1 (pt_cmpR op_gtS (pe_callB (show CallR _ _ (rLenL K) from call_lenL) (by rfl) T.m_len (by decide +kernel) (pa_cons (pv 5) pa_nil)) pe_int (nomark _))))) (pss_cons (ps_expr (pe_meth0 (pv 3) T.cl_Pack T.m_Pack_undo (ok_Pack_undo T) (hr.mono (by decide)) T.b_Pack_undo .nil pass0 ))
          (pss_cons (ps_expr (pe_bm0 PySem.F.plainAttrs_list PySem.F.slot_list_pop PySem.F.type_list_pop mt_pop (pv 4)))
          (pss_one (ps_expr (pe_bm0 PySem.F.plainAttrs_list PySem.F.slot_list_pop PySem.F.type_list_pop mt_pop (pv 5)))))) (pss_cons (ps_set (i := 7) sc_law.nd rfl (Or.inl rfl) (pe_call (ok_law_marks T) (hr.mono (by decide)) (by rfl) T.g_law_marks T.F_law_marks.kp T.b_law_marks .nil pass0 (pa_cons (pe_call (ok_law_cell_at T) (hr.mono (by decide)) (by rfl) T.g_law_cell_at T.F_law_cell_at.kp T.b_law_cell_at .nil pass0 (pa_cons (pv 0) (pa_cons (pe_op op_add (pv 6) pe_int) pa_nil))) (pa_cons (pe_ix (show IxR _ (rIxL K) from ix_list) (pe_lst (pa_cons pe_int (pa_cons pe_int pa_nil))) (pe_callB (call_minI rfl) (by rfl) T.m_min (by decide +kernel) (pa_cons pe_int (pa_cons (pe_op op_mod (pe_op op_fdiv (pe_ix (show IxR _ (rIxL K) from ix_list) (pv 0) (pv 6) (fun _ _ => rfl)) pe_int) pe_int) pa_nil))) (fun _ _ => rfl)) pa_nil))))
          (pss_cons (ps_set (i := 8) sc_law.nd rfl (Or.inl rfl) (pe_call (ok_law_word T) (hr.mono (by decide)) (by rfl) T.g_law_word T.F_law_word.kp T.b_law_word .nil pass0 (pa_cons (pe_call (ok_law_cell_at T) (hr.mono (by decide)) (by rfl) T.g_law_cell_at T.F_law_cell_at.kp T.b_law_cell_at .nil pass0 (pa_cons (pv 0) (pa_cons (pe_op op_add (pv 6) pe_int) pa_nil))) (pa_cons (pe_callB (show CallR _ _ (rLenL K) from call_lenL) (by rfl) T.m_len (by decide +kernel) (pa_cons (pv 7) pa_nil)) (pa_cons (pv 2) pa_nil)))))
          (pss_cons (ps_expr (pe_meth (pv 3) T.cl_Pack T.m_Pack_riffle (ok_Pack_riffle T) (hr.mono (by decide)) T.b_Pack_riffle .nil pass0 (pa_cons (pe_callTy (show CallR _ _ (rListL K) from call_listL) (by rfl) T.m_list (by decide +kernel) (pa_cons (pv 7) pa_nil)) (pa_cons (pe_callTy (show CallR _ _ (rListL K) from call_listL) (by rfl) T.m_list (by decide +kernel) (pa_cons (pv 8) pa_nil)) pa_nil))))
          (pss_cons (ps_expr (pe_bmK (K := K) (pe_bm PySem.F.plainAttrs_list PySem.F.slot_list_append PySem.F.type_list_append mt_append (pv 4) (pa_cons (pe_call (ok_law_riffled T) (hr.mono (by decide)) (by rfl) T.g_law_riffled T.F_law_riffled.kp T.b_law_riffled .nil pass0 (pa_cons (pe_ix (show IxR _ (rIxL K) from ix_list) (pv 4) (pe_un un_neg pe_int) (fun _ _ => rfl)) (pa_cons (pv 7) (pa_cons (pv 8) pa_nil)))) pa_nil))))
          (pss_one (ps_expr (pe_bmK (K := K) (pe_bm PySem.F.plainAttrs_list PySem.F.slot_list_append PySem.F.type_list_append mt_append (pv 5) (pa_cons (pe_tup (pa_cons (pv 7) (pa_cons (pv 8) pa_nil))) pa_nil))))))))))
          (pss_one (ps_if (pt_not (pt_valS (pe_call (ok_law_told T) (hr.mono (by decide)) (by rfl) T.g_law_told T.F_law_told.kp T.b_law_told .nil pass0 (pa_cons (pv 3) (pa_cons (pv 4) (pa_cons (pv 5) pa_nil)))))) (pss_one (ps_ret pe_bl)) pss_nil))))
          (pss_one (ps_ret (pe_call (ok_law_rim T) (hr.mono (by decide)) (by rfl) T.g_law_rim T.F_law_rim.kp T.b_law_rim .nil pass0 (pa_cons (pe_op op_add pe_int (pe_op op_mod (pe_op op_fdiv (pv 1) pe_int) pe_int)) (pa_cons (pv 1) pa_nil)))))))))))), ?_⟩
    refine ⟨_, rfl, a_script, script, 0, rfl, (fr.same.seq h_script), ?_, fun H_1 cell_at_2 hp_4 sm_3 => ?_⟩
    · omega
    have fr : Fr H _ [] := fr.call sm_3
    subst hp_4
    refine ⟨_, rfl, _, _, rfl, rfl, ⟨by decide, by decide⟩, (Evl.sz_of (show 2 ≤ 100000 by decide)), fun l_5 nl_6 => ?_⟩
    have fr : Fr H _ [(l_5, (.lst (List.map V.int ([60, 10])) : HO))] := fr.new nl_6
    refine ⟨_, rfl, _, _, rfl, rfl, (show (0 : Int) < _ by decide), _, _, rfl, _, _, _, _, rfl, rfl, (SqL.of fr.at0), (atD 0 ?_ ?_), _, _, rfl, rfl, ?_, _, _, rfl, rfl, ?_⟩
    · first | omega | (simp only [List.length_cons, List.length_nil]; omega)
    · first | omega | (simp only [List.length_cons, List.length_nil]; omega)
    · rcases pickP 60 10 _ with hpk | hpk <;> rw [hpk] <;> decide
    dsimp only
    generalize e_law_n_8 : ((1 + ((((cellI script 0)) / 8) % (List.getD ([60, 10]) (Int.toNat ((min 1 ((((cellI script 0)) % 8))))) 0))) : Int) = n_7
    have hnb : 1 ≤ n_7 ∧ n_7 ≤ 60 := by rw [← e_law_n_8]; rcases pickP 60 10 _ with hpk | hpk <;> rw [hpk] <;> omega
    have fr : Fr H _ [] := Fr.dk fr 0
    refine ⟨_, rfl, fun ob_9 dx_10 nob_11 ndx_12 nex_13 => ?_⟩
    have fr : Fr H _ [(ob_9, (.ins T.C_Pack dx_10 [] : HO)), (dx_10, (.own ob_9 : HO))] := Fr.made fr nob_11 ndx_12 nex_13
    have fr : Fr H _ [(dx_10, (.own ob_9 : HO)), (ob_9, (.ins T.C_Pack dx_10 [] : HO))] := Fr.upk fr 1 rfl
    have fr : Fr H _ [(ob_9, (.ins T.C_Pack dx_10 [] : HO)), (dx_10, (.own ob_9 : HO))] := Fr.upk fr 1 rfl
    have frF_14 := Fr.split (bpre := [(ob_9, (.ins T.C_Pack dx_10 [] : HO)), (dx_10, (.own ob_9 : HO))]) (pre := []) (bts := []) (ts := []) fr
    have fr : Fr H _ [] := Fr.mn frF_14
    refine ⟨ob_9, dx_10, n_7, _, rfl, (Fr.lent frF_14), ?_, fun H_15 k_17 hp_18 hp_19 ff_16 => ?_⟩
    · exact hnb
    have fr : Fr H _ ([] ++ List.flatten [pkOwn T.C_Pack ob_9 k_17]) := Fr.back2 (bpre := [(ob_9, (.ins T.C_Pack dx_10 [] : HO)), (dx_10, (.own ob_9 : HO))]) (pre := []) (bts := []) (ts := []) (bpre' := []) (bts' := [pkOwn T.C_Pack ob_9 k_17]) frF_14 ff_16
    refine ⟨rfl, ?_⟩
    refine ⟨_, rfl, _, rfl, ?_, fun l_20 nl_21 => ?_⟩
    · walk_at "rgok"
    have fr : Fr H _ ([(l_20, (.lst (List.map V.int ((rangeI n_7))) : HO))] ++ List.flatten [pkOwn T.C_Pack ob_9 k_17]) := (fr.new nl_21).cast (lst_rng _)
    refine ⟨(Evl.sz_of (show 1 ≤ 100000 by decide)), fun l_22 nl_23 => ?_⟩
    have fr : Fr H _ ([(l_22, (.lst [V.ref l_20] : HO)), (l_20, (.lst (List.map V.int ((rangeI n_7))) : HO))] ++ List.flatten [pkOwn T.C_Pack ob_9 k_17]) := fr.new nl_23
    have fr : Fr H _ ([(l_20, (.lst (List.map V.int ((rangeI n_7))) : HO)), (l_22, (.lst [V.ref l_20] : HO))] ++ List.flatten [pkOwn T.C_Pack ob_9 k_17]) := Fr.upk fr 1 rfl
    have fr : Fr H _ ([(l_22, (.lst [V.ref l_20] : HO))] ++ List.flatten [rosOwn gI (([(l_20, (rangeI n_7))] : List (RO (List Int)))), pkOwn T.C_Pack ob_9 k_17]) := Fr.rnew (g := gI) (pre := [(l_22, (.lst [V.ref l_20] : HO))]) (ts := [pkOwn T.C_Pack ob_9 k_17]) (x := (rangeI n_7)) fr
    have fr : Fr H _ ([(l_22, (.lst (List.map rref (([(l_20, (rangeI n_7))] : List (RO (List Int))))) : HO))] ++ List.flatten [rosOwn gI (([(l_20, (rangeI n_7))] : List (RO (List Int)))), pkOwn T.C_Pack ob_9 k_17]) := fr
    refine ⟨(Evl.sz_of (show 0 ≤ 100000 by decide)), fun l_24 nl_25 => ?_⟩
    have fr : Fr H _ ([(l_24, (.lst [] : HO)), (l_22, (.lst (List.map rref (([(l_20, (rangeI n_7))] : List (RO (List Int))))) : HO))] ++ List.flatten [rosOwn gI (([(l_20, (rangeI n_7))] : List (RO (List Int)))), pkOwn T.C_Pack ob_9 k_17]) := fr.new nl_25
    have fr : Fr H _ ([(l_24, (.lst (List.map peRef (([] : List PE))) : HO)), (l_22, (.lst (List.map rref (([(l_20, (rangeI n_7))] : List (RO (List Int))))) : HO))] ++ List.flatten [pesOwn (([] : List PE)), rosOwn gI (([(l_20, (rangeI n_7))] : List (RO (List Int)))), pkOwn T.C_Pack ob_9 k_17]) := fr
    refine ⟨_, rfl, _, rfl, _, rfl, ob_9, k_17, l_22, (([(rangeI n_7)] : List (List Int))), l_24, (([] : List PE)), (([] : List PC)), (Int.toNat n_7), rfl, (Fr.pk (pre := [(l_24, (.lst (List.map peRef (([] : List PE))) : HO)), (l_22, (.lst (List.map rref (([(l_20, (rangeI n_7))] : List (RO (List Int))))) : HO))]) (ts := [pesOwn (([] : List PE)), rosOwn gI (([(l_20, (rangeI n_7))] : List (RO (List Int)))), pkOwn T.C_Pack ob_9 k_17]) fr 2 rfl), (tab_lit (rows := (([(l_20, (rangeI n_7))] : List (RO (List Int))))) (fun z hz => Fr.rmem (pre := [(l_24, (.lst (List.map peRef (([] : List PE))) : HO)), (l_22, (.lst (List.map rref (([(l_20, (rangeI n_7))] : List (RO (List Int))))) : HO))]) (ts := [pesOwn (([] : List PE)), rosOwn gI (([(l_20, (rangeI n_7))] : List (RO (List Int)))), pkOwn T.C_Pack ob_9 k_17]) fr 1 rfl hz) fr.at1 rfl), (PstAt.mk fr.at0 (Fr.pes (pre := [(l_24, (.lst (List.map peRef (([] : List PE))) : HO)), (l_22, (.lst (List.map rref (([(l_20, (rangeI n_7))] : List (RO (List Int))))) : HO))]) (ts := [pesOwn (([] : List PE)), rosOwn gI (([(l_20, (rangeI n_7))] : List (RO (List Int)))), pkOwn T.C_Pack ob_9 k_17]) fr 0 rfl) rfl), ?_, fun H_26 told_27 hp_29 sm_28 => ?_⟩
    · first | exact hn3 | exact Pk3.start hnb (by assumption) (by assumption)
    have fr : Fr H _ ([(l_24, (.lst (List.map peRef (([] : List PE))) : HO)), (l_22, (.lst (List.map rref (([(l_20, (rangeI n_7))] : List (RO (List Int))))) : HO))] ++ List.flatten [pesOwn (([] : List PE)), rosOwn gI (([(l_20, (rangeI n_7))] : List (RO (List Int)))), pkOwn T.C_Pack ob_9 k_17]) := fr.call sm_28
    subst hp_29
    refine ⟨_, rfl, fun _ => ?_, (fun h => nomatch h)⟩
    refine iteF ?_
    refine ⟨_, rfl, _, _, _, rfl, (fr.same.seq h_script), (List.length_map _), _, _, rfl, _, _, _, (Int.toNat ((min 31 (script.length : Int) + 1) / 3)), rfl, ?_, ?_⟩
    · exact rgc1_3 (by omega) (by omega)
    refine for_it (walk_rangeC (lo := 1) (c := 3) (n := (Int.toNat ((min 31 (script.length : Int) + 1) / 3)))) (fun (i : Nat) σ H1 => ∃ (k_30 : PK) (r_31 : List (RO (List Int))) (c_32 : List (List Int)) (r_34 : List (PE)) (c_35 : List (PC)) (y_37 : Option V) (y_38 : Option V) (y_39 : Option V), σ = [some (V.ref a_script), some (V.int (((cellI script 0)))), some (V.int n_7), some (V.ref ob_9), some (V.ref l_22), some (V.ref l_24), y_37, y_38, y_39] ∧ Fr H H1 ([(l_24, (.lst (List.map peRef r_34) : HO)), (l_22, (.lst (List.map rref r_31) : HO))] ++ List.flatten [pesOwn r_34, rosOwn gI r_31, pkOwn T.C_Pack ob_9 k_30]) ∧ (r_31.map (·.2) = c_32) ∧ (r_34.map peC = c_35) ∧ (Pk3 (Int.toNat n_7) k_30 c_32 c_35) ∧ (c_35.length ≤ i)) ?_ ?_ ?_ ?_
    · have fr : Fr H _ ([(l_24, (.lst (List.map peRef (([] : List PE))) : HO)), (l_22, (.lst (List.map rref (([(l_20, (rangeI n_7))] : List (RO (List Int))))) : HO))] ++ List.flatten [pkOwn T.C_Pack ob_9 k_17, pesOwn (([] : List PE)), rosOwn gI (([(l_20, (rangeI n_7))] : List (RO (List Int))))]) := Fr.tup (pre := [(l_24, (.lst (List.map peRef (([] : List PE))) : HO)), (l_22, (.lst (List.map rref (([(l_20, (rangeI n_7))] : List (RO (List Int))))) : HO))]) (ts := [pesOwn (([] : List PE)), rosOwn gI (([(l_20, (rangeI n_7))] : List (RO (List Int)))), pkOwn T.C_Pack ob_9 k_17]) fr 2 rfl
      have fr : Fr H _ ([(l_24, (.lst (List.map peRef (([] : List PE))) : HO)), (l_22, (.lst (List.map rref (([(l_20, (rangeI n_7))] : List (RO (List Int))))) : HO))] ++ List.flatten [rosOwn gI (([(l_20, (rangeI n_7))] : List (RO (List Int)))), pkOwn T.C_Pack ob_9 k_17, pesOwn (([] : List PE))]) := Fr.tup (pre := [(l_24, (.lst (List.map peRef (([] : List PE))) : HO)), (l_22, (.lst (List.map rref (([(l_20, (rangeI n_7))] : List (RO (List Int))))) : HO))]) (ts := [pkOwn T.C_Pack ob_9 k_17, pesOwn (([] : List PE)), rosOwn gI (([(l_20, (rangeI n_7))] : List (RO (List Int))))]) fr 2 rfl
      have fr : Fr H _ ([(l_24, (.lst (List.map peRef (([] : List PE))) : HO)), (l_22, (.lst (List.map rref (([(l_20, (rangeI n_7))] : List (RO (List Int))))) : HO))] ++ List.flatten [pesOwn (([] : List PE)), rosOwn gI (([(l_20, (rangeI n_7))] : List (RO (List Int)))), pkOwn T.C_Pack ob_9 k_17]) := Fr.tup (pre := [(l_24, (.lst (List.map peRef (([] : List PE))) : HO)), (l_22, (.lst (List.map rref (([(l_20, (rangeI n_7))] : List (RO (List Int))))) : HO))]) (ts := [rosOwn gI (([(l_20, (rangeI n_7))] : List (RO (List Int)))), pkOwn T.C_Pack ob_9 k_17, pesOwn (([] : List PE))]) fr 2 rfl
      refine ⟨k_17, ([(l_20, (rangeI n_7))] : List (RO (List Int))), ([(rangeI n_7)] : List (List Int)), ([] : List PE), ([] : List PC), _, _, _, rfl, fr, ?_, ?_, ?_, ?_⟩
      · exact rfl
      · exact rfl
      · exact Pk3.start hnb (by assumption) (by assumption)
      · walk_at "inv"
    · rintro i σ H1 hi ⟨k_30, r_31, c_32, r_34, c_35, y_37, y_38, y_39, rfl, fr, hC_33, hC_36, h3, hbl⟩
      exact trivial
    · rintro i_40 x_42 s_45 H_43 H_44 hi_41 ⟨k_30, r_31, c_32, r_34, c_35, y_37, y_38, y_39, rfl, fr, hC_33, hC_36, h3, hbl⟩ ⟨rfl, rfl⟩
      have hlast := h3.last
      have h3l := h3.len
      refine ⟨_, rfl, _, rfl, _, _, _, _, rfl, rfl, (fr.same.seq h_script), (atD 0 ?_ ?_), _, _, rfl, rfl, (show (0 : Int) < _ by decide), _, _, rfl, rfl, ?_, ?_⟩
      · walk_at "side"
      · walk_at "side"
      · intro h46
        refine ⟨_, rfl, ?_⟩
        refine iteT ?_
        refine ⟨_, rfl, _, _, _, rfl, (SqL.of fr.at0), (pc_len2 hC_36), _, _, rfl, rfl, ?_, ?_⟩
        · intro h47
          refine ⟨_, rfl, ?_⟩
          refine iteT ?_
          refine ⟨_, rfl, _, _, _, rfl, (PkAt.p (Fr.pk (pre := [(l_24, (.lst (List.map peRef r_34) : HO)), (l_22, (.lst (List.map rref r_31) : HO))]) (ts := [pesOwn r_34, rosOwn gI r_31, pkOwn T.C_Pack ob_9 k_30]) fr 2 rfl)), (pkF_no _ _ (by decide +kernel) (by decide +kernel)), ?_⟩
          have fr : Fr H _ ([(l_24, (.lst (List.map peRef r_34) : HO)), (l_22, (.lst (List.map rref r_31) : HO))] ++ List.flatten [pkOwn T.C_Pack ob_9 k_30, pesOwn r_34, rosOwn gI r_31]) := Fr.tup (pre := [(l_24, (.lst (List.map peRef r_34) : HO)), (l_22, (.lst (List.map rref r_31) : HO))]) (ts := [pesOwn r_34, rosOwn gI r_31, pkOwn T.C_Pack ob_9 k_30]) fr 2 rfl
          have frF_48 := Fr.split (bpre := []) (pre := [(l_24, (.lst (List.map peRef r_34) : HO)), (l_22, (.lst (List.map rref r_31) : HO))]) (bts := [pkOwn T.C_Pack ob_9 k_30]) (ts := [pesOwn r_34, rosOwn gI r_31]) fr
          have fr : Fr H _ ([(l_24, (.lst (List.map peRef r_34) : HO)), (l_22, (.lst (List.map rref r_31) : HO))] ++ List.flatten [pesOwn r_34, rosOwn gI r_31]) := Fr.mn frF_48
          refine ⟨ob_9, k_30, _, rfl, (Fr.lent frF_48), ?_, ?_, ?_, fun H_49 k_51 p_52 undo_53 hp_54 hp_55 hp_56 ff_50 => ?_⟩
          · omega
          · rw [h3.past]; exact (h3.ok.last (by omega)).2.2.2
          · rw [h3.past]; have hlo := h3.ok.last (by omega); omega
          have fr : Fr H _ ([(p_52, (.lst (List.map V.int undo_53) : HO)), (l_24, (.lst (List.map peRef r_34) : HO)), (l_22, (.lst (List.map rref r_31) : HO))] ++ List.flatten [pkOwn T.C_Pack ob_9 k_51, pesOwn r_34, rosOwn gI r_31]) := Fr.back2 (bpre := []) (pre := [(l_24, (.lst (List.map peRef r_34) : HO)), (l_22, (.lst (List.map rref r_31) : HO))]) (bts := [pkOwn T.C_Pack ob_9 k_30]) (ts := [pesOwn r_34, rosOwn gI r_31]) (bpre' := [(p_52, (.lst (List.map V.int undo_53) : HO))]) (bts' := [pkOwn T.C_Pack ob_9 k_51]) frF_48 ff_50
          subst hp_56
          have hn3 := h3.undo (by omega) hp_54 hp_55
          have fr : Fr H _ ([(l_24, (.lst (List.map peRef r_34) : HO)), (l_22, (.lst (List.map rref r_31) : HO))] ++ List.flatten [pkOwn T.C_Pack ob_9 k_51, pesOwn r_34, rosOwn gI r_31]) := Fr.dk fr 0
          have hne_57 : r_31 ≠ [] := tab_ne hC_33 (by omega)
          refine ⟨_, rfl, (.inl ⟨rfl, _, (SqL.of fr.at1)⟩), _, _, (V.ref (List.getLast r_31 hne_57).1), rfl, rfl, fr.at1, (tab_last hne_57), ?_⟩
          have fr : Fr H _ ([(l_24, (.lst (List.map peRef r_34) : HO)), (l_22, (.lst (List.map rref ((List.dropLast r_31))) : HO))] ++ List.flatten [pkOwn T.C_Pack ob_9 k_51, pesOwn r_34, rosOwn gI r_31]) := Fr.wrk fr 1 rfl lst_rref_pop
          have fr : Fr H _ ([(l_24, (.lst (List.map peRef r_34) : HO)), (l_22, (.lst (List.map rref ((List.dropLast r_31))) : HO))] ++ List.flatten [rosOwn gI r_31, pkOwn T.C_Pack ob_9 k_51, pesOwn r_34]) := Fr.tup (pre := [(l_24, (.lst (List.map peRef r_34) : HO)), (l_22, (.lst (List.map rref ((List.dropLast r_31))) : HO))]) (ts := [pkOwn T.C_Pack ob_9 k_51, pesOwn r_34, rosOwn gI r_31]) fr 2 rfl
          have fr : Fr H _ ([((List.getLast r_31 hne_57).1, (.lst (List.map V.int ((List.getLast r_31 hne_57).2)) : HO)), (l_24, (.lst (List.map peRef r_34) : HO)), (l_22, (.lst (List.map rref ((List.dropLast r_31))) : HO))] ++ List.flatten [rosOwn gI ((List.dropLast r_31)), pkOwn T.C_Pack ob_9 k_51, pesOwn r_34]) := Fr.rpop (g := gI) (pre := [(l_24, (.lst (List.map peRef r_34) : HO)), (l_22, (.lst (List.map rref ((List.dropLast r_31))) : HO))]) (ts := [pkOwn T.C_Pack ob_9 k_51, pesOwn r_34]) fr hne_57
          have fr : Fr H _ ([(l_24, (.lst (List.map peRef r_34) : HO)), (l_22, (.lst (List.map rref ((List.dropLast r_31))) : HO))] ++ List.flatten [rosOwn gI ((List.dropLast r_31)), pkOwn T.C_Pack ob_9 k_51, pesOwn r_34]) := Fr.dk fr 0
          have hne_58 : r_34 ≠ [] := pc_ne hC_36 (by omega)
          refine ⟨_, rfl, (.inl ⟨rfl, _, (SqL.of fr.at0)⟩), _, _, (V.ref (List.getLast r_34 hne_58).t), rfl, rfl, fr.at0, (pe_last hne_58), ?_⟩
          have fr : Fr H _ ([(l_24, (.lst (List.map peRef ((List.dropLast r_34))) : HO)), (l_22, (.lst (List.map rref ((List.dropLast r_31))) : HO))] ++ List.flatten [rosOwn gI ((List.dropLast r_31)), pkOwn T.C_Pack ob_9 k_51, pesOwn r_34]) := Fr.wrk fr 0 rfl lst_pe_pop
          have fr : Fr H _ ([(l_24, (.lst (List.map peRef ((List.dropLast r_34))) : HO)), (l_22, (.lst (List.map rref ((List.dropLast r_31))) : HO))] ++ List.flatten [pesOwn r_34, rosOwn gI ((List.dropLast r_31)), pkOwn T.C_Pack ob_9 k_51]) := Fr.tup (pre := [(l_24, (.lst (List.map peRef ((List.dropLast r_34))) : HO)), (l_22, (.lst (List.map rref ((List.dropLast r_31))) : HO))]) (ts := [rosOwn gI ((List.dropLast r_31)), pkOwn T.C_Pack ob_9 k_51, pesOwn r_34]) fr 2 rfl
          have fr : Fr H _ ([((PE.t (List.getLast r_34 hne_58)), (.tup [V.ref (PE.m (List.getLast r_34 hne_58)), V.ref (PE.w (List.getLast r_34 hne_58))] : HO)), ((PE.m (List.getLast r_34 hne_58)), (.lst (List.map V.bl ((PE.marks (List.getLast r_34 hne_58)))) : HO)), ((PE.w (List.getLast r_34 hne_58)), (.lst (List.map V.int ((PE.word (List.getLast r_34 hne_58)))) : HO)), (l_24, (.lst (List.map peRef ((List.dropLast r_34))) : HO)), (l_22, (.lst (List.map rref ((List.dropLast r_31))) : HO))] ++ List.flatten [pesOwn ((List.dropLast r_34)), rosOwn gI ((List.dropLast r_31)), pkOwn T.C_Pack ob_9 k_51]) := Fr.ppop (pre := [(l_24, (.lst (List.map peRef ((List.dropLast r_34))) : HO)), (l_22, (.lst (List.map rref ((List.dropLast r_31))) : HO))]) (ts := [rosOwn gI ((List.dropLast r_31)), pkOwn T.C_Pack ob_9 k_51]) fr hne_58
          have fr : Fr H _ ([((PE.m (List.getLast r_34 hne_58)), (.lst (List.map V.bl ((PE.marks (List.getLast r_34 hne_58)))) : HO)), ((PE.w (List.getLast r_34 hne_58)), (.lst (List.map V.int ((PE.word (List.getLast r_34 hne_58)))) : HO)), (l_24, (.lst (List.map peRef ((List.dropLast r_34))) : HO)), (l_22, (.lst (List.map rref ((List.dropLast r_31))) : HO))] ++ List.flatten [pesOwn ((List.dropLast r_34)), rosOwn gI ((List.dropLast r_31)), pkOwn T.C_Pack ob_9 k_51]) := Fr.dk fr 0
          have fr : Fr H _ ([((PE.w (List.getLast r_34 hne_58)), (.lst (List.map V.int ((PE.word (List.getLast r_34 hne_58)))) : HO)), (l_24, (.lst (List.map peRef ((List.dropLast r_34))) : HO)), (l_22, (.lst (List.map rref ((List.dropLast r_31))) : HO))] ++ List.flatten [pesOwn ((List.dropLast r_34)), rosOwn gI ((List.dropLast r_31)), pkOwn T.C_Pack ob_9 k_51]) := Fr.dk fr 0
          have fr : Fr H _ ([(l_24, (.lst (List.map peRef ((List.dropLast r_34))) : HO)), (l_22, (.lst (List.map rref ((List.dropLast r_31))) : HO))] ++ List.flatten [pesOwn ((List.dropLast r_34)), rosOwn gI ((List.dropLast r_31)), pkOwn T.C_Pack ob_9 k_51]) := Fr.dk fr 0
          refine ⟨_, rfl, _, rfl, _, rfl, ob_9, k_51, l_22, ((List.dropLast c_32)), l_24, ((List.dropLast r_34)), ((List.dropLast c_35)), (Int.toNat n_7), rfl, (Fr.pk (pre := [(l_24, (.lst (List.map peRef ((List.dropLast r_34))) : HO)), (l_22, (.lst (List.map rref ((List.dropLast r_31))) : HO))]) (ts := [pesOwn ((List.dropLast r_34)), rosOwn gI ((List.dropLast r_31)), pkOwn T.C_Pack ob_9 k_51]) fr 2 rfl), (tab_lit (rows := ((List.dropLast r_31))) (fun z hz => Fr.rmem (pre := [(l_24, (.lst (List.map peRef ((List.dropLast r_34))) : HO)), (l_22, (.lst (List.map rref ((List.dropLast r_31))) : HO))]) (ts := [pesOwn ((List.dropLast r_34)), rosOwn gI ((List.dropLast r_31)), pkOwn T.C_Pack ob_9 k_51]) fr 1 rfl hz) fr.at1 (snd_pop hC_33)), (PstAt.mk fr.at0 (Fr.pes (pre := [(l_24, (.lst (List.map peRef ((List.dropLast r_34))) : HO)), (l_22, (.lst (List.map rref ((List.dropLast r_31))) : HO))]) (ts := [pesOwn ((List.dropLast r_34)), rosOwn gI ((List.dropLast r_31)), pkOwn T.C_Pack ob_9 k_51]) fr 0 rfl) (pc_pop hC_36)), ?_, fun H_59 told_60 hp_62 sm_61 => ?_⟩
          · first | exact hn3 | exact Pk3.start hnb (by assumption) (by assumption)
          have fr : Fr H _ ([(l_24, (.lst (List.map peRef ((List.dropLast r_34))) : HO)), (l_22, (.lst (List.map rref ((List.dropLast r_31))) : HO))] ++ List.flatten [pesOwn ((List.dropLast r_34)), rosOwn gI ((List.dropLast r_31)), pkOwn T.C_Pack ob_9 k_51]) := fr.call sm_61
          subst hp_62
          refine ⟨_, rfl, fun _ => ?_, (fun h => nomatch h)⟩
          refine iteF ?_
          have fr : Fr H _ ([(l_24, (.lst (List.map peRef ((List.dropLast r_34))) : HO)), (l_22, (.lst (List.map rref ((List.dropLast r_31))) : HO))] ++ List.flatten [pkOwn T.C_Pack ob_9 k_51, pesOwn ((List.dropLast r_34)), rosOwn gI ((List.dropLast r_31))]) := Fr.tup (pre := [(l_24, (.lst (List.map peRef ((List.dropLast r_34))) : HO)), (l_22, (.lst (List.map rref ((List.dropLast r_31))) : HO))]) (ts := [pesOwn ((List.dropLast r_34)), rosOwn gI ((List.dropLast r_31)), pkOwn T.C_Pack ob_9 k_51]) fr 2 rfl
          have fr : Fr H _ ([(l_24, (.lst (List.map peRef ((List.dropLast r_34))) : HO)), (l_22, (.lst (List.map rref ((List.dropLast r_31))) : HO))] ++ List.flatten [rosOwn gI ((List.dropLast r_31)), pkOwn T.C_Pack ob_9 k_51, pesOwn ((List.dropLast r_34))]) := Fr.tup (pre := [(l_24, (.lst (List.map peRef ((List.dropLast r_34))) : HO)), (l_22, (.lst (List.map rref ((List.dropLast r_31))) : HO))]) (ts := [pkOwn T.C_Pack ob_9 k_51, pesOwn ((List.dropLast r_34)), rosOwn gI ((List.dropLast r_31))]) fr 2 rfl
          have fr : Fr H _ ([(l_24, (.lst (List.map peRef ((List.dropLast r_34))) : HO)), (l_22, (.lst (List.map rref ((List.dropLast r_31))) : HO))] ++ List.flatten [pesOwn ((List.dropLast r_34)), rosOwn gI ((List.dropLast r_31)), pkOwn T.C_Pack ob_9 k_51]) := Fr.tup (pre := [(l_24, (.lst (List.map peRef ((List.dropLast r_34))) : HO)), (l_22, (.lst (List.map rref ((List.dropLast r_31))) : HO))]) (ts := [rosOwn gI ((List.dropLast r_31)), pkOwn T.C_Pack ob_9 k_51, pesOwn ((List.dropLast r_34))]) fr 2 rfl
          refine ⟨k_51, (List.dropLast r_31), (List.dropLast c_32), (List.dropLast r_34), (List.dropLast c_35), _, _, _, rfl, fr, ?_, ?_, ?_, ?_⟩
          · exact (snd_pop hC_33)
          · exact (pc_pop hC_36)
          · exact hn3
          · first | (rw [List.length_append]; exact Nat.succ_le_succ hbl) | (rw [List.length_dropLast]; omega)
        · intro h47
          refine ⟨_, rfl, ?_⟩
          refine iteF ?_
          refine ⟨_, rfl, _, rfl, _, _, rfl, rfl, a_script, script, (((1 + (i_40 : Int) * 3) + 1)), rfl, (fr.same.seq h_script), ?_, fun H_63 cell_at_64 hp_66 sm_65 => ?_⟩
          · omega
          have fr : Fr H _ ([(l_24, (.lst (List.map peRef r_34) : HO)), (l_22, (.lst (List.map rref r_31) : HO))] ++ List.flatten [pesOwn r_34, rosOwn gI r_31, pkOwn T.C_Pack ob_9 k_30]) := fr.call sm_65
          subst hp_66
          refine ⟨(Evl.sz_of (show 2 ≤ 100000 by decide)), fun l_67 nl_68 => ?_⟩
          have fr : Fr H _ ([(l_67, (.lst (List.map V.int ([20, 4])) : HO)), (l_24, (.lst (List.map peRef r_34) : HO)), (l_22, (.lst (List.map rref r_31) : HO))] ++ List.flatten [pesOwn r_34, rosOwn gI r_31, pkOwn T.C_Pack ob_9 k_30]) := fr.new nl_68
          refine ⟨_, rfl, _, rfl, _, _, _, _, rfl, rfl, (fr.same.seq h_script), (atD 0 ?_ ?_), _, _, rfl, rfl, ⟨by decide, by decide⟩, _, _, rfl, rfl, (show (0 : Int) < _ by decide), _, _, rfl, _, _, _, _, rfl, rfl, (SqL.of fr.at0), (atD 0 ?_ ?_), (((cellI script (((1 + (i_40 : Int) * 3) + 1))))), ((List.getD ([20, 4]) (Int.toNat ((min 1 ((((List.getD script (Int.toNat ((1 + (i_40 : Int) * 3))) 0) / 4) % 8))))) 0)), rfl, ?_, fun H_69 p_73 marks_70 hp_72 sm_71 np_74 ep_75 => ?_⟩
          · walk_at "side"
          · walk_at "side"
          · first | omega | (simp only [List.length_cons, List.length_nil]; omega)
          · first | omega | (simp only [List.length_cons, List.length_nil]; omega)
          · rcases pickP 20 4 _ with hpk | hpk <;> rw [hpk] <;> omega
          have fr : Fr H _ ([(p_73, (.lst (List.map V.bl marks_70) : HO)), (l_67, (.lst (List.map V.int ([20, 4])) : HO)), (l_24, (.lst (List.map peRef r_34) : HO)), (l_22, (.lst (List.map rref r_31) : HO))] ++ List.flatten [pesOwn r_34, rosOwn gI r_31, pkOwn T.C_Pack ob_9 k_30]) := fr.cnew sm_71 np_74 ep_75
          have hml : 1 ≤ marks_70.length ∧ marks_70.length ≤ 400 := by rcases pickP 20 4 _ with hpk | hpk <;> rw [hpk] at hp_72 <;> omega
          have fr : Fr H _ ([(p_73, (.lst (List.map V.bl marks_70) : HO)), (l_24, (.lst (List.map peRef r_34) : HO)), (l_22, (.lst (List.map rref r_31) : HO))] ++ List.flatten [pesOwn r_34, rosOwn gI r_31, pkOwn T.C_Pack ob_9 k_30]) := Fr.dk fr 1
          refine ⟨_, rfl, _, rfl, _, _, rfl, rfl, a_script, script, (((1 + (i_40 : Int) * 3) + 2)), rfl, (fr.same.seq h_script), ?_, fun H_76 cell_at_77 hp_79 sm_78 => ?_⟩
          · omega
          have fr : Fr H _ ([(p_73, (.lst (List.map V.bl marks_70) : HO)), (l_24, (.lst (List.map peRef r_34) : HO)), (l_22, (.lst (List.map rref r_31) : HO))] ++ List.flatten [pesOwn r_34, rosOwn gI r_31, pkOwn T.C_Pack ob_9 k_30]) := fr.call sm_78
          subst hp_79
          refine ⟨_, rfl, _, _, _, rfl, (SqL.of fr.at0), (List.length_map _), _, rfl, (((cellI script (((1 + (i_40 : Int) * 3) + 2))))), ((marks_70.length : Int)), n_7, rfl, ?_, ?_, fun H_80 p_85 word_81 hp_83 hp_84 sm_82 np_86 ep_87 => ?_⟩
          · omega
          · omega
          have fr : Fr H _ ([(p_85, (.lst (List.map V.int word_81) : HO)), (p_73, (.lst (List.map V.bl marks_70) : HO)), (l_24, (.lst (List.map peRef r_34) : HO)), (l_22, (.lst (List.map rref r_31) : HO))] ++ List.flatten [pesOwn r_34, rosOwn gI r_31, pkOwn T.C_Pack ob_9 k_30]) := fr.cnew sm_82 np_86 ep_87
          have hwl := hp_83
          have hww := hp_84; rw [Int.toNat_natCast] at hww
          refine ⟨_, rfl, _, _, _, rfl, (PkAt.p (Fr.pk (pre := [(p_85, (.lst (List.map V.int word_81) : HO)), (p_73, (.lst (List.map V.bl marks_70) : HO)), (l_24, (.lst (List.map peRef r_34) : HO)), (l_22, (.lst (List.map rref r_31) : HO))]) (ts := [pesOwn r_34, rosOwn gI r_31, pkOwn T.C_Pack ob_9 k_30]) fr 2 rfl)), (pkF_no _ _ (by decide +kernel) (by decide +kernel)), _, rfl, _, _, rfl, (.inl (SqL.of fr.at1)), fun l_88 nl_89 => ?_⟩
          have fr : Fr H _ ([(l_88, (.lst (List.map V.bl marks_70) : HO)), (p_85, (.lst (List.map V.int word_81) : HO)), (p_73, (.lst (List.map V.bl marks_70) : HO)), (l_24, (.lst (List.map peRef r_34) : HO)), (l_22, (.lst (List.map rref r_31) : HO))] ++ List.flatten [pesOwn r_34, rosOwn gI r_31, pkOwn T.C_Pack ob_9 k_30]) := fr.new nl_89
          refine ⟨_, rfl, _, _, rfl, (.inl (SqL.of fr.at1)), fun l_90 nl_91 => ?_⟩
          have fr : Fr H _ ([(l_90, (.lst (List.map V.int word_81) : HO)), (l_88, (.lst (List.map V.bl marks_70) : HO)), (p_85, (.lst (List.map V.int word_81) : HO)), (p_73, (.lst (List.map V.bl marks_70) : HO)), (l_24, (.lst (List.map peRef r_34) : HO)), (l_22, (.lst (List.map rref r_31) : HO))] ++ List.flatten [pesOwn r_34, rosOwn gI r_31, pkOwn T.C_Pack ob_9 k_30]) := fr.new nl_91
          have fr : Fr H _ ([(l_90, (.lst (List.map V.int word_81) : HO)), (l_88, (.lst (List.map V.bl marks_70) : HO)), (p_85, (.lst (List.map V.int word_81) : HO)), (p_73, (.lst (List.map V.bl marks_70) : HO)), (l_24, (.lst (List.map peRef r_34) : HO)), (l_22, (.lst (List.map rref r_31) : HO))] ++ List.flatten [pkOwn T.C_Pack ob_9 k_30, pesOwn r_34, rosOwn gI r_31]) := Fr.tup (pre := [(l_90, (.lst (List.map V.int word_81) : HO)), (l_88, (.lst (List.map V.bl marks_70) : HO)), (p_85, (.lst (List.map V.int word_81) : HO)), (p_73, (.lst (List.map V.bl marks_70) : HO)), (l_24, (.lst (List.map peRef r_34) : HO)), (l_22, (.lst (List.map rref r_31) : HO))]) (ts := [pesOwn r_34, rosOwn gI r_31, pkOwn T.C_Pack ob_9 k_30]) fr 2 rfl
          have frF_92 := Fr.split (bpre := []) (pre := [(l_90, (.lst (List.map V.int word_81) : HO)), (l_88, (.lst (List.map V.bl marks_70) : HO)), (p_85, (.lst (List.map V.int word_81) : HO)), (p_73, (.lst (List.map V.bl marks_70) : HO)), (l_24, (.lst (List.map peRef r_34) : HO)), (l_22, (.lst (List.map rref r_31) : HO))]) (bts := [pkOwn T.C_Pack ob_9 k_30]) (ts := [pesOwn r_34, rosOwn gI r_31]) fr
          have fr : Fr H _ ([(l_90, (.lst (List.map V.int word_81) : HO)), (l_88, (.lst (List.map V.bl marks_70) : HO)), (p_85, (.lst (List.map V.int word_81) : HO)), (p_73, (.lst (List.map V.bl marks_70) : HO)), (l_24, (.lst (List.map peRef r_34) : HO)), (l_22, (.lst (List.map rref r_31) : HO))] ++ List.flatten [pesOwn r_34, rosOwn gI r_31]) := Fr.mn frF_92
          refine ⟨ob_9, k_30, l_88, marks_70, l_90, word_81, _, rfl, (Fr.lent frF_92), fr.at1, fr.at0, ?_, ?_, ?_, fun H_93 k_95 p_96 riffle_97 hp_98 hp_99 hp_100 ff_94 => ?_⟩
          · exact hww
          · omega
          · omega
          have fr : Fr H _ ([(p_96, (.lst (List.map V.int riffle_97) : HO)), (l_90, (.lst (List.map V.int word_81) : HO)), (l_88, (.lst (List.map V.bl marks_70) : HO)), (p_85, (.lst (List.map V.int word_81) : HO)), (p_73, (.lst (List.map V.bl marks_70) : HO)), (l_24, (.lst (List.map peRef r_34) : HO)), (l_22, (.lst (List.map rref r_31) : HO))] ++ List.flatten [pkOwn T.C_Pack ob_9 k_95, pesOwn r_34, rosOwn gI r_31]) := Fr.back2 (bpre := []) (pre := [(l_90, (.lst (List.map V.int word_81) : HO)), (l_88, (.lst (List.map V.bl marks_70) : HO)), (p_85, (.lst (List.map V.int word_81) : HO)), (p_73, (.lst (List.map V.bl marks_70) : HO)), (l_24, (.lst (List.map peRef r_34) : HO)), (l_22, (.lst (List.map rref r_31) : HO))]) (bts := [pkOwn T.C_Pack ob_9 k_30]) (ts := [pesOwn r_34, rosOwn gI r_31]) (bpre' := [(p_96, (.lst (List.map V.int riffle_97) : HO))]) (bts' := [pkOwn T.C_Pack ob_9 k_95]) frF_92 ff_94
          subst hp_100
          have hn3 := h3.riffle hml (by omega) hww hp_98 hp_99
          have fr : Fr H _ ([(l_90, (.lst (List.map V.int word_81) : HO)), (l_88, (.lst (List.map V.bl marks_70) : HO)), (p_85, (.lst (List.map V.int word_81) : HO)), (p_73, (.lst (List.map V.bl marks_70) : HO)), (l_24, (.lst (List.map peRef r_34) : HO)), (l_22, (.lst (List.map rref r_31) : HO))] ++ List.flatten [pkOwn T.C_Pack ob_9 k_95, pesOwn r_34, rosOwn gI r_31]) := Fr.dk fr 0
          have fr : Fr H _ ([(l_88, (.lst (List.map V.bl marks_70) : HO)), (p_85, (.lst (List.map V.int word_81) : HO)), (p_73, (.lst (List.map V.bl marks_70) : HO)), (l_24, (.lst (List.map peRef r_34) : HO)), (l_22, (.lst (List.map rref r_31) : HO))] ++ List.flatten [pkOwn T.C_Pack ob_9 k_95, pesOwn r_34, rosOwn gI r_31]) := Fr.dk fr 0
          have fr : Fr H _ ([(p_85, (.lst (List.map V.int word_81) : HO)), (p_73, (.lst (List.map V.bl marks_70) : HO)), (l_24, (.lst (List.map peRef r_34) : HO)), (l_22, (.lst (List.map rref r_31) : HO))] ++ List.flatten [pkOwn T.C_Pack ob_9 k_95, pesOwn r_34, rosOwn gI r_31]) := Fr.dk fr 0
          have hlt_101 : (List.length c_32 - 1) < List.length c_32 := by omega
          refine ⟨_, rfl, (.inl ⟨rfl, _, (SqL.of fr.at3)⟩), _, rfl, _, rfl, _, _, _, _, rfl, rfl, (SqL.of fr.at3), (atRowLast hC_33 [] ?_), _, rfl, _, rfl, (List.getD r_31 (List.length c_32 - 1) (0, [])).1, ((List.getD c_32 (List.length c_32 - 1) [])), p_73, marks_70, p_85, word_81, rfl, (ros_at (fun z hz => Fr.rmem (pre := [(p_85, (.lst (List.map V.int word_81) : HO)), (p_73, (.lst (List.map V.bl marks_70) : HO)), (l_24, (.lst (List.map peRef r_34) : HO)), (l_22, (.lst (List.map rref r_31) : HO))]) (ts := [pkOwn T.C_Pack ob_9 k_95, pesOwn r_34, rosOwn gI r_31]) fr 2 rfl hz) hC_33 [] (List.length c_32 - 1) hlt_101), fr.at1, fr.at0, ?_, ?_, fun H_102 p_106 riffled_103 hp_105 sm_104 np_107 ep_108 => ?_⟩
          · walk_at "side"
          · exact hww
          · rw [hlast]; omega
          have fr : Fr H _ ([(p_106, (.lst (List.map V.int riffled_103) : HO)), (p_85, (.lst (List.map V.int word_81) : HO)), (p_73, (.lst (List.map V.bl marks_70) : HO)), (l_24, (.lst (List.map peRef r_34) : HO)), (l_22, (.lst (List.map rref r_31) : HO))] ++ List.flatten [pkOwn T.C_Pack ob_9 k_95, pesOwn r_34, rosOwn gI r_31]) := fr.cnew sm_104 np_107 ep_108
          subst hp_105
          refine ⟨_, _, _, rfl, rfl, (Fr.atk fr 4 rfl), ?_, ?_⟩
          · walk_at "tsize"
          have fr : Fr H _ ([(p_106, (.lst (List.map V.int (((riffleI ((List.getD c_32 (List.length c_32 - 1) [])) marks_70 word_81)))) : HO)), (p_85, (.lst (List.map V.int word_81) : HO)), (p_73, (.lst (List.map V.bl marks_70) : HO)), (l_24, (.lst (List.map peRef r_34) : HO)), (l_22, (.lst (List.map rref ((r_31 ++ [(p_106, ((riffleI ((List.getD c_32 (List.length c_32 - 1) [])) marks_70 word_81)))]))) : HO))] ++ List.flatten [pkOwn T.C_Pack ob_9 k_95, pesOwn r_34, rosOwn gI r_31]) := Fr.wrk fr 4 rfl (lst_rref_app (rows := r_31) (x := ((riffleI ((List.getD c_32 (List.length c_32 - 1) [])) marks_70 word_81))))
          have fr : Fr H _ ([(p_106, (.lst (List.map V.int (((riffleI ((List.getD c_32 (List.length c_32 - 1) [])) marks_70 word_81)))) : HO)), (p_85, (.lst (List.map V.int word_81) : HO)), (p_73, (.lst (List.map V.bl marks_70) : HO)), (l_24, (.lst (List.map peRef r_34) : HO)), (l_22, (.lst (List.map rref ((r_31 ++ [(p_106, ((riffleI ((List.getD c_32 (List.length c_32 - 1) [])) marks_70 word_81)))]))) : HO))] ++ List.flatten [rosOwn gI r_31, pkOwn T.C_Pack ob_9 k_95, pesOwn r_34]) := Fr.tup (pre := [(p_106, (.lst (List.map V.int (((riffleI ((List.getD c_32 (List.length c_32 - 1) [])) marks_70 word_81)))) : HO)), (p_85, (.lst (List.map V.int word_81) : HO)), (p_73, (.lst (List.map V.bl marks_70) : HO)), (l_24, (.lst (List.map peRef r_34) : HO)), (l_22, (.lst (List.map rref ((r_31 ++ [(p_106, ((riffleI ((List.getD c_32 (List.length c_32 - 1) [])) marks_70 word_81)))]))) : HO))]) (ts := [pkOwn T.C_Pack ob_9 k_95, pesOwn r_34, rosOwn gI r_31]) fr 2 rfl
          have fr : Fr H _ ([(p_85, (.lst (List.map V.int word_81) : HO)), (p_73, (.lst (List.map V.bl marks_70) : HO)), (l_24, (.lst (List.map peRef r_34) : HO)), (l_22, (.lst (List.map rref ((r_31 ++ [(p_106, ((riffleI ((List.getD c_32 (List.length c_32 - 1) [])) marks_70 word_81)))]))) : HO))] ++ List.flatten [rosOwn gI ((r_31 ++ [(p_106, ((riffleI ((List.getD c_32 (List.length c_32 - 1) [])) marks_70 word_81)))])), pkOwn T.C_Pack ob_9 k_95, pesOwn r_34]) := Fr.radd (g := gI) (pre := [(p_85, (.lst (List.map V.int word_81) : HO)), (p_73, (.lst (List.map V.bl marks_70) : HO)), (l_24, (.lst (List.map peRef r_34) : HO)), (l_22, (.lst (List.map rref ((r_31 ++ [(p_106, ((riffleI ((List.getD c_32 (List.length c_32 - 1) [])) marks_70 word_81)))]))) : HO))]) (ts := [pkOwn T.C_Pack ob_9 k_95, pesOwn r_34]) (rows := r_31) (x := ((riffleI ((List.getD c_32 (List.length c_32 - 1) [])) marks_70 word_81))) fr
          refine ⟨_, rfl, (.inl ⟨rfl, _, (SqL.of fr.at2)⟩), _, rfl, _, rfl, (Evl.sz_of (show 2 ≤ 100000 by decide)), fun t_109 nt_110 => ?_⟩
          have fr : Fr H _ ([(t_109, (.tup [(V.ref p_73), (V.ref p_85)] : HO)), (p_85, (.lst (List.map V.int word_81) : HO)), (p_73, (.lst (List.map V.bl marks_70) : HO)), (l_24, (.lst (List.map peRef r_34) : HO)), (l_22, (.lst (List.map rref ((r_31 ++ [(p_106, ((riffleI ((List.getD c_32 (List.length c_32 - 1) [])) marks_70 word_81)))]))) : HO))] ++ List.flatten [rosOwn gI ((r_31 ++ [(p_106, ((riffleI ((List.getD c_32 (List.length c_32 - 1) [])) marks_70 word_81)))])), pkOwn T.C_Pack ob_9 k_95, pesOwn r_34]) := fr.new nt_110
          refine ⟨_, _, _, rfl, rfl, fr.at3, ?_, ?_⟩
          · rw [pc_len2 hC_36]; refine Evl.sz_lt ?_; omega
          have fr : Fr H _ ([(t_109, (.tup [(V.ref p_73), (V.ref p_85)] : HO)), (p_85, (.lst (List.map V.int word_81) : HO)), (p_73, (.lst (List.map V.bl marks_70) : HO)), (l_24, (.lst (List.map peRef ((r_34 ++ [(⟨t_109, p_73, p_85, marks_70, word_81⟩ : PE)]))) : HO)), (l_22, (.lst (List.map rref ((r_31 ++ [(p_106, ((riffleI ((List.getD c_32 (List.length c_32 - 1) [])) marks_70 word_81)))]))) : HO))] ++ List.flatten [rosOwn gI ((r_31 ++ [(p_106, ((riffleI ((List.getD c_32 (List.length c_32 - 1) [])) marks_70 word_81)))])), pkOwn T.C_Pack ob_9 k_95, pesOwn r_34]) := Fr.wrk fr 3 rfl lst_pe_app
          have fr : Fr H _ ([(t_109, (.tup [(V.ref p_73), (V.ref p_85)] : HO)), (p_85, (.lst (List.map V.int word_81) : HO)), (p_73, (.lst (List.map V.bl marks_70) : HO)), (l_24, (.lst (List.map peRef ((r_34 ++ [(⟨t_109, p_73, p_85, marks_70, word_81⟩ : PE)]))) : HO)), (l_22, (.lst (List.map rref ((r_31 ++ [(p_106, ((riffleI ((List.getD c_32 (List.length c_32 - 1) [])) marks_70 word_81)))]))) : HO))] ++ List.flatten [pesOwn r_34, rosOwn gI ((r_31 ++ [(p_106, ((riffleI ((List.getD c_32 (List.length c_32 - 1) [])) marks_70 word_81)))])), pkOwn T.C_Pack ob_9 k_95]) := Fr.tup (pre := [(t_109, (.tup [(V.ref p_73), (V.ref p_85)] : HO)), (p_85, (.lst (List.map V.int word_81) : HO)), (p_73, (.lst (List.map V.bl marks_70) : HO)), (l_24, (.lst (List.map peRef ((r_34 ++ [(⟨t_109, p_73, p_85, marks_70, word_81⟩ : PE)]))) : HO)), (l_22, (.lst (List.map rref ((r_31 ++ [(p_106, ((riffleI ((List.getD c_32 (List.length c_32 - 1) [])) marks_70 word_81)))]))) : HO))]) (ts := [rosOwn gI ((r_31 ++ [(p_106, ((riffleI ((List.getD c_32 (List.length c_32 - 1) [])) marks_70 word_81)))])), pkOwn T.C_Pack ob_9 k_95, pesOwn r_34]) fr 2 rfl
          have fr : Fr H _ ([(p_85, (.lst (List.map V.int word_81) : HO)), (t_109, (.tup [(V.ref p_73), (V.ref p_85)] : HO)), (p_73, (.lst (List.map V.bl marks_70) : HO)), (l_24, (.lst (List.map peRef ((r_34 ++ [(⟨t_109, p_73, p_85, marks_70, word_81⟩ : PE)]))) : HO)), (l_22, (.lst (List.map rref ((r_31 ++ [(p_106, ((riffleI ((List.getD c_32 (List.length c_32 - 1) [])) marks_70 word_81)))]))) : HO))] ++ List.flatten [pesOwn r_34, rosOwn gI ((r_31 ++ [(p_106, ((riffleI ((List.getD c_32 (List.length c_32 - 1) [])) marks_70 word_81)))])), pkOwn T.C_Pack ob_9 k_95]) := Fr.upk fr 1 rfl
          have fr : Fr H _ ([(p_73, (.lst (List.map V.bl marks_70) : HO)), (p_85, (.lst (List.map V.int word_81) : HO)), (t_109, (.tup [(V.ref p_73), (V.ref p_85)] : HO)), (l_24, (.lst (List.map peRef ((r_34 ++ [(⟨t_109, p_73, p_85, marks_70, word_81⟩ : PE)]))) : HO)), (l_22, (.lst (List.map rref ((r_31 ++ [(p_106, ((riffleI ((List.getD c_32 (List.length c_32 - 1) [])) marks_70 word_81)))]))) : HO))] ++ List.flatten [pesOwn r_34, rosOwn gI ((r_31 ++ [(p_106, ((riffleI ((List.getD c_32 (List.length c_32 - 1) [])) marks_70 word_81)))])), pkOwn T.C_Pack ob_9 k_95]) := Fr.upk fr 2 rfl
          have fr : Fr H _ ([(t_109, (.tup [(V.ref p_73), (V.ref p_85)] : HO)), (p_73, (.lst (List.map V.bl marks_70) : HO)), (p_85, (.lst (List.map V.int word_81) : HO)), (l_24, (.lst (List.map peRef ((r_34 ++ [(⟨t_109, p_73, p_85, marks_70, word_81⟩ : PE)]))) : HO)), (l_22, (.lst (List.map rref ((r_31 ++ [(p_106, ((riffleI ((List.getD c_32 (List.length c_32 - 1) [])) marks_70 word_81)))]))) : HO))] ++ List.flatten [pesOwn r_34, rosOwn gI ((r_31 ++ [(p_106, ((riffleI ((List.getD c_32 (List.length c_32 - 1) [])) marks_70 word_81)))])), pkOwn T.C_Pack ob_9 k_95]) := Fr.upk fr 2 rfl
          have fr : Fr H _ ([(l_24, (.lst (List.map peRef ((r_34 ++ [(⟨t_109, p_73, p_85, marks_70, word_81⟩ : PE)]))) : HO)), (l_22, (.lst (List.map rref ((r_31 ++ [(p_106, ((riffleI ((List.getD c_32 (List.length c_32 - 1) [])) marks_70 word_81)))]))) : HO))] ++ List.flatten [pesOwn ((r_34 ++ [(⟨t_109, p_73, p_85, marks_70, word_81⟩ : PE)])), rosOwn gI ((r_31 ++ [(p_106, ((riffleI ((List.getD c_32 (List.length c_32 - 1) [])) marks_70 word_81)))])), pkOwn T.C_Pack ob_9 k_95]) := Fr.padd (pre := [(l_24, (.lst (List.map peRef ((r_34 ++ [(⟨t_109, p_73, p_85, marks_70, word_81⟩ : PE)]))) : HO)), (l_22, (.lst (List.map rref ((r_31 ++ [(p_106, ((riffleI ((List.getD c_32 (List.length c_32 - 1) [])) marks_70 word_81)))]))) : HO))]) (ts := [rosOwn gI ((r_31 ++ [(p_106, ((riffleI ((List.getD c_32 (List.length c_32 - 1) [])) marks_70 word_81)))])), pkOwn T.C_Pack ob_9 k_95]) (es := r_34) fr
          refine ⟨_, rfl, _, rfl, _, rfl, ob_9, k_95, l_22, ((c_32 ++ [((riffleI ((List.getD c_32 (List.length c_32 - 1) [])) marks_70 word_81))])), l_24, ((r_34 ++ [(⟨t_109, p_73, p_85, marks_70, word_81⟩ : PE)])), ((c_35 ++ [(marks_70, word_81)])), (Int.toNat n_7), rfl, (Fr.pk (pre := [(l_24, (.lst (List.map peRef ((r_34 ++ [(⟨t_109, p_73, p_85, marks_70, word_81⟩ : PE)]))) : HO)), (l_22, (.lst (List.map rref ((r_31 ++ [(p_106, ((riffleI ((List.getD c_32 (List.length c_32 - 1) [])) marks_70 word_81)))]))) : HO))]) (ts := [pesOwn ((r_34 ++ [(⟨t_109, p_73, p_85, marks_70, word_81⟩ : PE)])), rosOwn gI ((r_31 ++ [(p_106, ((riffleI ((List.getD c_32 (List.length c_32 - 1) [])) marks_70 word_81)))])), pkOwn T.C_Pack ob_9 k_95]) fr 2 rfl), (tab_lit (rows := ((r_31 ++ [(p_106, ((riffleI ((List.getD c_32 (List.length c_32 - 1) [])) marks_70 word_81)))]))) (fun z hz => Fr.rmem (pre := [(l_24, (.lst (List.map peRef ((r_34 ++ [(⟨t_109, p_73, p_85, marks_70, word_81⟩ : PE)]))) : HO)), (l_22, (.lst (List.map rref ((r_31 ++ [(p_106, ((riffleI ((List.getD c_32 (List.length c_32 - 1) [])) marks_70 word_81)))]))) : HO))]) (ts := [pesOwn ((r_34 ++ [(⟨t_109, p_73, p_85, marks_70, word_81⟩ : PE)])), rosOwn gI ((r_31 ++ [(p_106, ((riffleI ((List.getD c_32 (List.length c_32 - 1) [])) marks_70 word_81)))])), pkOwn T.C_Pack ob_9 k_95]) fr 1 rfl hz) fr.at1 (snd_app (p := p_106) (x := ((riffleI ((List.getD c_32 (List.length c_32 - 1) [])) marks_70 word_81))) hC_33)), (PstAt.mk fr.at0 (Fr.pes (pre := [(l_24, (.lst (List.map peRef ((r_34 ++ [(⟨t_109, p_73, p_85, marks_70, word_81⟩ : PE)]))) : HO)), (l_22, (.lst (List.map rref ((r_31 ++ [(p_106, ((riffleI ((List.getD c_32 (List.length c_32 - 1) [])) marks_70 word_81)))]))) : HO))]) (ts := [pesOwn ((r_34 ++ [(⟨t_109, p_73, p_85, marks_70, word_81⟩ : PE)])), rosOwn gI ((r_31 ++ [(p_106, ((riffleI ((List.getD c_32 (List.length c_32 - 1) [])) marks_70 word_81)))])), pkOwn T.C_Pack ob_9 k_95]) fr 0 rfl) (pc_app hC_36)), ?_, fun H_111 told_112 hp_114 sm_113 => ?_⟩
          · first | exact hn3 | exact Pk3.start hnb (by assumption) (by assumption)
          have fr : Fr H _ ([(l_24, (.lst (List.map peRef ((r_34 ++ [(⟨t_109, p_73, p_85, marks_70, word_81⟩ : PE)]))) : HO)), (l_22, (.lst (List.map rref ((r_31 ++ [(p_106, ((riffleI ((List.getD c_32 (List.length c_32 - 1) [])) marks_70 word_81)))]))) : HO))] ++ List.flatten [pesOwn ((r_34 ++ [(⟨t_109, p_73, p_85, marks_70, word_81⟩ : PE)])), rosOwn gI ((r_31 ++ [(p_106, ((riffleI ((List.getD c_32 (List.length c_32 - 1) [])) marks_70 word_81)))])), pkOwn T.C_Pack ob_9 k_95]) := fr.call sm_113
          subst hp_114
          refine ⟨_, rfl, fun _ => ?_, (fun h => nomatch h)⟩
          refine iteF ?_
          have fr : Fr H _ ([(l_24, (.lst (List.map peRef ((r_34 ++ [(⟨t_109, p_73, p_85, marks_70, word_81⟩ : PE)]))) : HO)), (l_22, (.lst (List.map rref ((r_31 ++ [(p_106, ((riffleI ((List.getD c_32 (List.length c_32 - 1) [])) marks_70 word_81)))]))) : HO))] ++ List.flatten [pkOwn T.C_Pack ob_9 k_95, pesOwn ((r_34 ++ [(⟨t_109, p_73, p_85, marks_70, word_81⟩ : PE)])), rosOwn gI ((r_31 ++ [(p_106, ((riffleI ((List.getD c_32 (List.length c_32 - 1) [])) marks_70 word_81)))]))]) := Fr.tup (pre := [(l_24, (.lst (List.map peRef ((r_34 ++ [(⟨t_109, p_73, p_85, marks_70, word_81⟩ : PE)]))) : HO)), (l_22, (.lst (List.map rref ((r_31 ++ [(p_106, ((riffleI ((List.getD c_32 (List.length c_32 - 1) [])) marks_70 word_81)))]))) : HO))]) (ts := [pesOwn ((r_34 ++ [(⟨t_109, p_73, p_85, marks_70, word_81⟩ : PE)])), rosOwn gI ((r_31 ++ [(p_106, ((riffleI ((List.getD c_32 (List.length c_32 - 1) [])) marks_70 word_81)))])), pkOwn T.C_Pack ob_9 k_95]) fr 2 rfl
          have fr : Fr H _ ([(l_24, (.lst (List.map peRef ((r_34 ++ [(⟨t_109, p_73, p_85, marks_70, word_81⟩ : PE)]))) : HO)), (l_22, (.lst (List.map rref ((r_31 ++ [(p_106, ((riffleI ((List.getD c_32 (List.length c_32 - 1) [])) marks_70 word_81)))]))) : HO))] ++ List.flatten [rosOwn gI ((r_31 ++ [(p_106, ((riffleI ((List.getD c_32 (List.length c_32 - 1) [])) marks_70 word_81)))])), pkOwn T.C_Pack ob_9 k_95, pesOwn ((r_34 ++ [(⟨t_109, p_73, p_85, marks_70, word_81⟩ : PE)]))]) := Fr.tup (pre := [(l_24, (.lst (List.map peRef ((r_34 ++ [(⟨t_109, p_73, p_85, marks_70, word_81⟩ : PE)]))) : HO)), (l_22, (.lst (List.map rref ((r_31 ++ [(p_106, ((riffleI ((List.getD c_32 (List.length c_32 - 1) [])) marks_70 word_81)))]))) : HO))]) (ts := [pkOwn T.C_Pack ob_9 k_95, pesOwn ((r_34 ++ [(⟨t_109, p_73, p_85, marks_70, word_81⟩ : PE)])), rosOwn gI ((r_31 ++ [(p_106, ((riffleI ((List.getD c_32 (List.length c_32 - 1) [])) marks_70 word_81)))]))]) fr 2 rfl
          have fr : Fr H _ ([(l_24, (.lst (List.map peRef ((r_34 ++ [(⟨t_109, p_73, p_85, marks_70, word_81⟩ : PE)]))) : HO)), (l_22, (.lst (List.map rref ((r_31 ++ [(p_106, ((riffleI ((List.getD c_32 (List.length c_32 - 1) [])) marks_70 word_81)))]))) : HO))] ++ List.flatten [pesOwn ((r_34 ++ [(⟨t_109, p_73, p_85, marks_70, word_81⟩ : PE)])), rosOwn gI ((r_31 ++ [(p_106, ((riffleI ((List.getD c_32 (List.length c_32 - 1) [])) marks_70 word_81)))])), pkOwn T.C_Pack ob_9 k_95]) := Fr.tup (pre := [(l_24, (.lst (List.map peRef ((r_34 ++ [(⟨t_109, p_73, p_85, marks_70, word_81⟩ : PE)]))) : HO)), (l_22, (.lst (List.map rref ((r_31 ++ [(p_106, ((riffleI ((List.getD c_32 (List.length c_32 - 1) [])) marks_70 word_81)))]))) : HO))]) (ts := [rosOwn gI ((r_31 ++ [(p_106, ((riffleI ((List.getD c_32 (List.length c_32 - 1) [])) marks_70 word_81)))])), pkOwn T.C_Pack ob_9 k_95, pesOwn ((r_34 ++ [(⟨t_109, p_73, p_85, marks_70, word_81⟩ : PE)]))]) fr 2 rfl
          refine ⟨k_95, (r_31 ++ [(p_106, ((riffleI ((List.getD c_32 (List.length c_32 - 1) [])) marks_70 word_81)))]), (c_32 ++ [((riffleI ((List.getD c_32 (List.length c_32 - 1) [])) marks_70 word_81))]), (r_34 ++ [(⟨t_109, p_73, p_85, marks_70, word_81⟩ : PE)]), (c_35 ++ [(marks_70, word_81)]), _, _, _, rfl, fr, ?_, ?_, ?_, ?_⟩
          · exact (snd_app (p := p_106) (x := ((riffleI ((List.getD c_32 (List.length c_32 - 1) [])) marks_70 word_81))) hC_33)
          · exact (pc_app hC_36)
          · exact hn3
          · first | (rw [List.length_append]; exact Nat.succ_le_succ hbl) | (rw [List.length_dropLast]; omega)
      · intro h46
        refine ⟨_, rfl, ?_⟩
        refine iteF ?_
        refine iteF ?_
        refine ⟨_, rfl, _, rfl, _, _, rfl, rfl, a_script, script, (((1 + (i_40 : Int) * 3) + 1)), rfl, (fr.same.seq h_script), ?_, fun H_115 cell_at_116 hp_118 sm_117 => ?_⟩
        · omega
        have fr : Fr H _ ([(l_24, (.lst (List.map peRef r_34) : HO)), (l_22, (.lst (List.map rref r_31) : HO))] ++ List.flatten [pesOwn r_34, rosOwn gI r_31, pkOwn T.C_Pack ob_9 k_30]) := fr.call sm_117
        subst hp_118
        refine ⟨(Evl.sz_of (show 2 ≤ 100000 by decide)), fun l_119 nl_120 => ?_⟩
        have fr : Fr H _ ([(l_119, (.lst (List.map V.int ([20, 4])) : HO)), (l_24, (.lst (List.map peRef r_34) : HO)), (l_22, (.lst (List.map rref r_31) : HO))] ++ List.flatten [pesOwn r_34, rosOwn gI r_31, pkOwn T.C_Pack ob_9 k_30]) := fr.new nl_120
        refine ⟨_, rfl, _, rfl, _, _, _, _, rfl, rfl, (fr.same.seq h_script), (atD 0 ?_ ?_), _, _, rfl, rfl, ⟨by decide, by decide⟩, _, _, rfl, rfl, (show (0 : Int) < _ by decide), _, _, rfl, _, _, _, _, rfl, rfl, (SqL.of fr.at0), (atD 0 ?_ ?_), (((cellI script (((1 + (i_40 : Int) * 3) + 1))))), ((List.getD ([20, 4]) (Int.toNat ((min 1 ((((List.getD script (Int.toNat ((1 + (i_40 : Int) * 3))) 0) / 4) % 8))))) 0)), rfl, ?_, fun H_121 p_125 marks_122 hp_124 sm_123 np_126 ep_127 => ?_⟩
        · walk_at "side"
        · walk_at "side"
        · first | omega | (simp only [List.length_cons, List.length_nil]; omega)
        · first | omega | (simp only [List.length_cons, List.length_nil]; omega)
        · rcases pickP 20 4 _ with hpk | hpk <;> rw [hpk] <;> omega
        have fr : Fr H _ ([(p_125, (.lst (List.map V.bl marks_122) : HO)), (l_119, (.lst (List.map V.int ([20, 4])) : HO)), (l_24, (.lst (List.map peRef r_34) : HO)), (l_22, (.lst (List.map rref r_31) : HO))] ++ List.flatten [pesOwn r_34, rosOwn gI r_31, pkOwn T.C_Pack ob_9 k_30]) := fr.cnew sm_123 np_126 ep_127
        have hml : 1 ≤ marks_122.length ∧ marks_122.length ≤ 400 := by rcases pickP 20 4 _ with hpk | hpk <;> rw [hpk] at hp_124 <;> omega
        have fr : Fr H _ ([(p_125, (.lst (List.map V.bl marks_122) : HO)), (l_24, (.lst (List.map peRef r_34) : HO)), (l_22, (.lst (List.map rref r_31) : HO))] ++ List.flatten [pesOwn r_34, rosOwn gI r_31, pkOwn T.C_Pack ob_9 k_30]) := Fr.dk fr 1
        refine ⟨_, rfl, _, rfl, _, _, rfl, rfl, a_script, script, (((1 + (i_40 : Int) * 3) + 2)), rfl, (fr.same.seq h_script), ?_, fun H_128 cell_at_129 hp_131 sm_130 => ?_⟩
        · omega
        have fr : Fr H _ ([(p_125, (.lst (List.map V.bl marks_122) : HO)), (l_24, (.lst (List.map peRef r_34) : HO)), (l_22, (.lst (List.map rref r_31) : HO))] ++ List.flatten [pesOwn r_34, rosOwn gI r_31, pkOwn T.C_Pack ob_9 k_30]) := fr.call sm_130
        subst hp_131
        refine ⟨_, rfl, _, _, _, rfl, (SqL.of fr.at0), (List.length_map _), _, rfl, (((cellI script (((1 + (i_40 : Int) * 3) + 2))))), ((marks_122.length : Int)), n_7, rfl, ?_, ?_, fun H_132 p_137 word_133 hp_135 hp_136 sm_134 np_138 ep_139 => ?_⟩
        · omega
        · omega
        have fr : Fr H _ ([(p_137, (.lst (List.map V.int word_133) : HO)), (p_125, (.lst (List.map V.bl marks_122) : HO)), (l_24, (.lst (List.map peRef r_34) : HO)), (l_22, (.lst (List.map rref r_31) : HO))] ++ List.flatten [pesOwn r_34, rosOwn gI r_31, pkOwn T.C_Pack ob_9 k_30]) := fr.cnew sm_134 np_138 ep_139
        have hwl := hp_135
        have hww := hp_136; rw [Int.toNat_natCast] at hww
        refine ⟨_, rfl, _, _, _, rfl, (PkAt.p (Fr.pk (pre := [(p_137, (.lst (List.map V.int word_133) : HO)), (p_125, (.lst (List.map V.bl marks_122) : HO)), (l_24, (.lst (List.map peRef r_34) : HO)), (l_22, (.lst (List.map rref r_31) : HO))]) (ts := [pesOwn r_34, rosOwn gI r_31, pkOwn T.C_Pack ob_9 k_30]) fr 2 rfl)), (pkF_no _ _ (by decide +kernel) (by decide +kernel)), _, rfl, _, _, rfl, (.inl (SqL.of fr.at1)), fun l_140 nl_141 => ?_⟩
        have fr : Fr H _ ([(l_140, (.lst (List.map V.bl marks_122) : HO)), (p_137, (.lst (List.map V.int word_133) : HO)), (p_125, (.lst (List.map V.bl marks_122) : HO)), (l_24, (.lst (List.map peRef r_34) : HO)), (l_22, (.lst (List.map rref r_31) : HO))] ++ List.flatten [pesOwn r_34, rosOwn gI r_31, pkOwn T.C_Pack ob_9 k_30]) := fr.new nl_141
        refine ⟨_, rfl, _, _, rfl, (.inl (SqL.of fr.at1)), fun l_142 nl_143 => ?_⟩
        have fr : Fr H _ ([(l_142, (.lst (List.map V.int word_133) : HO)), (l_140, (.lst (List.map V.bl marks_122) : HO)), (p_137, (.lst (List.map V.int word_133) : HO)), (p_125, (.lst (List.map V.bl marks_122) : HO)), (l_24, (.lst (List.map peRef r_34) : HO)), (l_22, (.lst (List.map rref r_31) : HO))] ++ List.flatten [pesOwn r_34, rosOwn gI r_31, pkOwn T.C_Pack ob_9 k_30]) := fr.new nl_143
        have fr : Fr H _ ([(l_142, (.lst (List.map V.int word_133) : HO)), (l_140, (.lst (List.map V.bl marks_122) : HO)), (p_137, (.lst (List.map V.int word_133) : HO)), (p_125, (.lst (List.map V.bl marks_122) : HO)), (l_24, (.lst (List.map peRef r_34) : HO)), (l_22, (.lst (List.map rref r_31) : HO))] ++ List.flatten [pkOwn T.C_Pack ob_9 k_30, pesOwn r_34, rosOwn gI r_31]) := Fr.tup (pre := [(l_142, (.lst (List.map V.int word_133) : HO)), (l_140, (.lst (List.map V.bl marks_122) : HO)), (p_137, (.lst (List.map V.int word_133) : HO)), (p_125, (.lst (List.map V.bl marks_122) : HO)), (l_24, (.lst (List.map peRef r_34) : HO)), (l_22, (.lst (List.map rref r_31) : HO))]) (ts := [pesOwn r_34, rosOwn gI r_31, pkOwn T.C_Pack ob_9 k_30]) fr 2 rfl
        have frF_144 := Fr.split (bpre := []) (pre := [(l_142, (.lst (List.map V.int word_133) : HO)), (l_140, (.lst (List.map V.bl marks_122) : HO)), (p_137, (.lst (List.map V.int word_133) : HO)), (p_125, (.lst (List.map V.bl marks_122) : HO)), (l_24, (.lst (List.map peRef r_34) : HO)), (l_22, (.lst (List.map rref r_31) : HO))]) (bts := [pkOwn T.C_Pack ob_9 k_30]) (ts := [pesOwn r_34, rosOwn gI r_31]) fr
        have fr : Fr H _ ([(l_142, (.lst (List.map V.int word_133) : HO)), (l_140, (.lst (List.map V.bl marks_122) : HO)), (p_137, (.lst (List.map V.int word_133) : HO)), (p_125, (.lst (List.map V.bl marks_122) : HO)), (l_24, (.lst (List.map peRef r_34) : HO)), (l_22, (.lst (List.map rref r_31) : HO))] ++ List.flatten [pesOwn r_34, rosOwn gI r_31]) := Fr.mn frF_144
        refine ⟨ob_9, k_30, l_140, marks_122, l_142, word_133, _, rfl, (Fr.lent frF_144), fr.at1, fr.at0, ?_, ?_, ?_, fun H_145 k_147 p_148 riffle_149 hp_150 hp_151 hp_152 ff_146 => ?_⟩
        · exact hww
        · omega
        · omega
        have fr : Fr H _ ([(p_148, (.lst (List.map V.int riffle_149) : HO)), (l_142, (.lst (List.map V.int word_133) : HO)), (l_140, (.lst (List.map V.bl marks_122) : HO)), (p_137, (.lst (List.map V.int word_133) : HO)), (p_125, (.lst (List.map V.bl marks_122) : HO)), (l_24, (.lst (List.map peRef r_34) : HO)), (l_22, (.lst (List.map rref r_31) : HO))] ++ List.flatten [pkOwn T.C_Pack ob_9 k_147, pesOwn r_34, rosOwn gI r_31]) := Fr.back2 (bpre := []) (pre := [(l_142, (.lst (List.map V.int word_133) : HO)), (l_140, (.lst (List.map V.bl marks_122) : HO)), (p_137, (.lst (List.map V.int word_133) : HO)), (p_125, (.lst (List.map V.bl marks_122) : HO)), (l_24, (.lst (List.map peRef r_34) : HO)), (l_22, (.lst (List.map rref r_31) : HO))]) (bts := [pkOwn T.C_Pack ob_9 k_30]) (ts := [pesOwn r_34, rosOwn gI r_31]) (bpre' := [(p_148, (.lst (List.map V.int riffle_149) : HO))]) (bts' := [pkOwn T.C_Pack ob_9 k_147]) frF_144 ff_146
        subst hp_152
        have hn3 := h3.riffle hml (by omega) hww hp_150 hp_151
        have fr : Fr H _ ([(l_142, (.lst (List.map V.int word_133) : HO)), (l_140, (.lst (List.map V.bl marks_122) : HO)), (p_137, (.lst (List.map V.int word_133) : HO)), (p_125, (.lst (List.map V.bl marks_122) : HO)), (l_24, (.lst (List.map peRef r_34) : HO)), (l_22, (.lst (List.map rref r_31) : HO))] ++ List.flatten [pkOwn T.C_Pack ob_9 k_147, pesOwn r_34, rosOwn gI r_31]) := Fr.dk fr 0
        have fr : Fr H _ ([(l_140, (.lst (List.map V.bl marks_122) : HO)), (p_137, (.lst (List.map V.int word_133) : HO)), (p_125, (.lst (List.map V.bl marks_122) : HO)), (l_24, (.lst (List.map peRef r_34) : HO)), (l_22, (.lst (List.map rref r_31) : HO))] ++ List.flatten [pkOwn T.C_Pack ob_9 k_147, pesOwn r_34, rosOwn gI r_31]) := Fr.dk fr 0
        have fr : Fr H _ ([(p_137, (.lst (List.map V.int word_133) : HO)), (p_125, (.lst (List.map V.bl marks_122) : HO)), (l_24, (.lst (List.map peRef r_34) : HO)), (l_22, (.lst (List.map rref r_31) : HO))] ++ List.flatten [pkOwn T.C_Pack ob_9 k_147, pesOwn r_34, rosOwn gI r_31]) := Fr.dk fr 0
        have hlt_153 : (List.length c_32 - 1) < List.length c_32 := by omega
        refine ⟨_, rfl, (.inl ⟨rfl, _, (SqL.of fr.at3)⟩), _, rfl, _, rfl, _, _, _, _, rfl, rfl, (SqL.of fr.at3), (atRowLast hC_33 [] ?_), _, rfl, _, rfl, (List.getD r_31 (List.length c_32 - 1) (0, [])).1, ((List.getD c_32 (List.length c_32 - 1) [])), p_125, marks_122, p_137, word_133, rfl, (ros_at (fun z hz => Fr.rmem (pre := [(p_137, (.lst (List.map V.int word_133) : HO)), (p_125, (.lst (List.map V.bl marks_122) : HO)), (l_24, (.lst (List.map peRef r_34) : HO)), (l_22, (.lst (List.map rref r_31) : HO))]) (ts := [pkOwn T.C_Pack ob_9 k_147, pesOwn r_34, rosOwn gI r_31]) fr 2 rfl hz) hC_33 [] (List.length c_32 - 1) hlt_153), fr.at1, fr.at0, ?_, ?_, fun H_154 p_158 riffled_155 hp_157 sm_156 np_159 ep_160 => ?_⟩
        · walk_at "side"
        · exact hww
        · rw [hlast]; omega
        have fr : Fr H _ ([(p_158, (.lst (List.map V.int riffled_155) : HO)), (p_137, (.lst (List.map V.int word_133) : HO)), (p_125, (.lst (List.map V.bl marks_122) : HO)), (l_24, (.lst (List.map peRef r_34) : HO)), (l_22, (.lst (List.map rref r_31) : HO))] ++ List.flatten [pkOwn T.C_Pack ob_9 k_147, pesOwn r_34, rosOwn gI r_31]) := fr.cnew sm_156 np_159 ep_160
        subst hp_157
        refine ⟨_, _, _, rfl, rfl, (Fr.atk fr 4 rfl), ?_, ?_⟩
        · walk_at "tsize"
        have fr : Fr H _ ([(p_158, (.lst (List.map V.int (((riffleI ((List.getD c_32 (List.length c_32 - 1) [])) marks_122 word_133)))) : HO)), (p_137, (.lst (List.map V.int word_133) : HO)), (p_125, (.lst (List.map V.bl marks_122) : HO)), (l_24, (.lst (List.map peRef r_34) : HO)), (l_22, (.lst (List.map rref ((r_31 ++ [(p_158, ((riffleI ((List.getD c_32 (List.length c_32 - 1) [])) marks_122 word_133)))]))) : HO))] ++ List.flatten [pkOwn T.C_Pack ob_9 k_147, pesOwn r_34, rosOwn gI r_31]) := Fr.wrk fr 4 rfl (lst_rref_app (rows := r_31) (x := ((riffleI ((List.getD c_32 (List.length c_32 - 1) [])) marks_122 word_133))))
        have fr : Fr H _ ([(p_158, (.lst (List.map V.int (((riffleI ((List.getD c_32 (List.length c_32 - 1) [])) marks_122 word_133)))) : HO)), (p_137, (.lst (List.map V.int word_133) : HO)), (p_125, (.lst (List.map V.bl marks_122) : HO)), (l_24, (.lst (List.map peRef r_34) : HO)), (l_22, (.lst (List.map rref ((r_31 ++ [(p_158, ((riffleI ((List.getD c_32 (List.length c_32 - 1) [])) marks_122 word_133)))]))) : HO))] ++ List.flatten [rosOwn gI r_31, pkOwn T.C_Pack ob_9 k_147, pesOwn r_34]) := Fr.tup (pre := [(p_158, (.lst (List.map V.int (((riffleI ((List.getD c_32 (List.length c_32 - 1) [])) marks_122 word_133)))) : HO)), (p_137, (.lst (List.map V.int word_133) : HO)), (p_125, (.lst (List.map V.bl marks_122) : HO)), (l_24, (.lst (List.map peRef r_34) : HO)), (l_22, (.lst (List.map rref ((r_31 ++ [(p_158, ((riffleI ((List.getD c_32 (List.length c_32 - 1) [])) marks_122 word_133)))]))) : HO))]) (ts := [pkOwn T.C_Pack ob_9 k_147, pesOwn r_34, rosOwn gI r_31]) fr 2 rfl
        have fr : Fr H _ ([(p_137, (.lst (List.map V.int word_133) : HO)), (p_125, (.lst (List.map V.bl marks_122) : HO)), (l_24, (.lst (List.map peRef r_34) : HO)), (l_22, (.lst (List.map rref ((r_31 ++ [(p_158, ((riffleI ((List.getD c_32 (List.length c_32 - 1) [])) marks_122 word_133)))]))) : HO))] ++ List.flatten [rosOwn gI ((r_31 ++ [(p_158, ((riffleI ((List.getD c_32 (List.length c_32 - 1) [])) marks_122 word_133)))])), pkOwn T.C_Pack ob_9 k_147, pesOwn r_34]) := Fr.radd (g := gI) (pre := [(p_137, (.lst (List.map V.int word_133) : HO)), (p_125, (.lst (List.map V.bl marks_122) : HO)), (l_24, (.lst (List.map peRef r_34) : HO)), (l_22, (.lst (List.map rref ((r_31 ++ [(p_158, ((riffleI ((List.getD c_32 (List.length c_32 - 1) [])) marks_122 word_133)))]))) : HO))]) (ts := [pkOwn T.C_Pack ob_9 k_147, pesOwn r_34]) (rows := r_31) (x := ((riffleI ((List.getD c_32 (List.length c_32 - 1) [])) marks_122 word_133))) fr
        refine ⟨_, rfl, (.inl ⟨rfl, _, (SqL.of fr.at2)⟩), _, rfl, _, rfl, (Evl.sz_of (show 2 ≤ 100000 by decide)), fun t_161 nt_162 => ?_⟩
        have fr : Fr H _ ([(t_161, (.tup [(V.ref p_125), (V.ref p_137)] : HO)), (p_137, (.lst (List.map V.int word_133) : HO)), (p_125, (.lst (List.map V.bl marks_122) : HO)), (l_24, (.lst (List.map peRef r_34) : HO)), (l_22, (.lst (List.map rref ((r_31 ++ [(p_158, ((riffleI ((List.getD c_32 (List.length c_32 - 1) [])) marks_122 word_133)))]))) : HO))] ++ List.flatten [rosOwn gI ((r_31 ++ [(p_158, ((riffleI ((List.getD c_32 (List.length c_32 - 1) [])) marks_122 word_133)))])), pkOwn T.C_Pack ob_9 k_147, pesOwn r_34]) := fr.new nt_162
        refine ⟨_, _, _, rfl, rfl, fr.at3, ?_, ?_⟩
        · rw [pc_len2 hC_36]; refine Evl.sz_lt ?_; omega
        have fr : Fr H _ ([(t_161, (.tup [(V.ref p_125), (V.ref p_137)] : HO)), (p_137, (.lst (List.map V.int word_133) : HO)), (p_125, (.lst (List.map V.bl marks_122) : HO)), (l_24, (.lst (List.map peRef ((r_34 ++ [(⟨t_161, p_125, p_137, marks_122, word_133⟩ : PE)]))) : HO)), (l_22, (.lst (List.map rref ((r_31 ++ [(p_158, ((riffleI ((List.getD c_32 (List.length c_32 - 1) [])) marks_122 word_133)))]))) : HO))] ++ List.flatten [rosOwn gI ((r_31 ++ [(p_158, ((riffleI ((List.getD c_32 (List.length c_32 - 1) [])) marks_122 word_133)))])), pkOwn T.C_Pack ob_9 k_147, pesOwn r_34]) := Fr.wrk fr 3 rfl lst_pe_app
        have fr : Fr H _ ([(t_161, (.tup [(V.ref p_125), (V.ref p_137)] : HO)), (p_137, (.lst (List.map V.int word_133) : HO)), (p_125, (.lst (List.map V.bl marks_122) : HO)), (l_24, (.lst (List.map peRef ((r_34 ++ [(⟨t_161, p_125, p_137, marks_122, word_133⟩ : PE)]))) : HO)), (l_22, (.lst (List.map rref ((r_31 ++ [(p_158, ((riffleI ((List.getD c_32 (List.length c_32 - 1) [])) marks_122 word_133)))]))) : HO))] ++ List.flatten [pesOwn r_34, rosOwn gI ((r_31 ++ [(p_158, ((riffleI ((List.getD c_32 (List.length c_32 - 1) [])) marks_122 word_133)))])), pkOwn T.C_Pack ob_9 k_147]) := Fr.tup (pre := [(t_161, (.tup [(V.ref p_125), (V.ref p_137)] : HO)), (p_137, (.lst (List.map V.int word_133) : HO)), (p_125, (.lst (List.map V.bl marks_122) : HO)), (l_24, (.lst (List.map peRef ((r_34 ++ [(⟨t_161, p_125, p_137, marks_122, word_133⟩ : PE)]))) : HO)), (l_22, (.lst (List.map rref ((r_31 ++ [(p_158, ((riffleI ((List.getD c_32 (List.length c_32 - 1) [])) marks_122 word_133)))]))) : HO))]) (ts := [rosOwn gI ((r_31 ++ [(p_158, ((riffleI ((List.getD c_32 (List.length c_32 - 1) [])) marks_122 word_133)))])), pkOwn T.C_Pack ob_9 k_147, pesOwn r_34]) fr 2 rfl
        have fr : Fr H _ ([(p_137, (.lst (List.map V.int word_133) : HO)), (t_161, (.tup [(V.ref p_125), (V.ref p_137)] : HO)), (p_125, (.lst (List.map V.bl marks_122) : HO)), (l_24, (.lst (List.map peRef ((r_34 ++ [(⟨t_161, p_125, p_137, marks_122, word_133⟩ : PE)]))) : HO)), (l_22, (.lst (List.map rref ((r_31 ++ [(p_158, ((riffleI ((List.getD c_32 (List.length c_32 - 1) [])) marks_122 word_133)))]))) : HO))] ++ List.flatten [pesOwn r_34, rosOwn gI ((r_31 ++ [(p_158, ((riffleI ((List.getD c_32 (List.length c_32 - 1) [])) marks_122 word_133)))])), pkOwn T.C_Pack ob_9 k_147]) := Fr.upk fr 1 rfl
        have fr : Fr H _ ([(p_125, (.lst (List.map V.bl marks_122) : HO)), (p_137, (.lst (List.map V.int word_133) : HO)), (t_161, (.tup [(V.ref p_125), (V.ref p_137)] : HO)), (l_24, (.lst (List.map peRef ((r_34 ++ [(⟨t_161, p_125, p_137, marks_122, word_133⟩ : PE)]))) : HO)), (l_22, (.lst (List.map rref ((r_31 ++ [(p_158, ((riffleI ((List.getD c_32 (List.length c_32 - 1) [])) marks_122 word_133)))]))) : HO))] ++ List.flatten [pesOwn r_34, rosOwn gI ((r_31 ++ [(p_158, ((riffleI ((List.getD c_32 (List.length c_32 - 1) [])) marks_122 word_133)))])), pkOwn T.C_Pack ob_9 k_147]) := Fr.upk fr 2 rfl
        have fr : Fr H _ ([(t_161, (.tup [(V.ref p_125), (V.ref p_137)] : HO)), (p_125, (.lst (List.map V.bl marks_122) : HO)), (p_137, (.lst (List.map V.int word_133) : HO)), (l_24, (.lst (List.map peRef ((r_34 ++ [(⟨t_161, p_125, p_137, marks_122, word_133⟩ : PE)]))) : HO)), (l_22, (.lst (List.map rref ((r_31 ++ [(p_158, ((riffleI ((List.getD c_32 (List.length c_32 - 1) [])) marks_122 word_133)))]))) : HO))] ++ List.flatten [pesOwn r_34, rosOwn gI ((r_31 ++ [(p_158, ((riffleI ((List.getD c_32 (List.length c_32 - 1) [])) marks_122 word_133)))])), pkOwn T.C_Pack ob_9 k_147]) := Fr.upk fr 2 rfl
        have fr : Fr H _ ([(l_24, (.lst (List.map peRef ((r_34 ++ [(⟨t_161, p_125, p_137, marks_122, word_133⟩ : PE)]))) : HO)), (l_22, (.lst (List.map rref ((r_31 ++ [(p_158, ((riffleI ((List.getD c_32 (List.length c_32 - 1) [])) marks_122 word_133)))]))) : HO))] ++ List.flatten [pesOwn ((r_34 ++ [(⟨t_161, p_125, p_137, marks_122, word_133⟩ : PE)])), rosOwn gI ((r_31 ++ [(p_158, ((riffleI ((List.getD c_32 (List.length c_32 - 1) [])) marks_122 word_133)))])), pkOwn T.C_Pack ob_9 k_147]) := Fr.padd (pre := [(l_24, (.lst (List.map peRef ((r_34 ++ [(⟨t_161, p_125, p_137, marks_122, word_133⟩ : PE)]))) : HO)), (l_22, (.lst (List.map rref ((r_31 ++ [(p_158, ((riffleI ((List.getD c_32 (List.length c_32 - 1) [])) marks_122 word_133)))]))) : HO))]) (ts := [rosOwn gI ((r_31 ++ [(p_158, ((riffleI ((List.getD c_32 (List.length c_32 - 1) [])) marks_122 word_133)))])), pkOwn T.C_Pack ob_9 k_147]) (es := r_34) fr
        refine ⟨_, rfl, _, rfl, _, rfl, ob_9, k_147, l_22, ((c_32 ++ [((riffleI ((List.getD c_32 (List.length c_32 - 1) [])) marks_122 word_133))])), l_24, ((r_34 ++ [(⟨t_161, p_125, p_137, marks_122, word_133⟩ : PE)])), ((c_35 ++ [(marks_122, word_133)])), (Int.toNat n_7), rfl, (Fr.pk (pre := [(l_24, (.lst (List.map peRef ((r_34 ++ [(⟨t_161, p_125, p_137, marks_122, word_133⟩ : PE)]))) : HO)), (l_22, (.lst (List.map rref ((r_31 ++ [(p_158, ((riffleI ((List.getD c_32 (List.length c_32 - 1) [])) marks_122 word_133)))]))) : HO))]) (ts := [pesOwn ((r_34 ++ [(⟨t_161, p_125, p_137, marks_122, word_133⟩ : PE)])), rosOwn gI ((r_31 ++ [(p_158, ((riffleI ((List.getD c_32 (List.length c_32 - 1) [])) marks_122 word_133)))])), pkOwn T.C_Pack ob_9 k_147]) fr 2 rfl), (tab_lit (rows := ((r_31 ++ [(p_158, ((riffleI ((List.getD c_32 (List.length c_32 - 1) [])) marks_122 word_133)))]))) (fun z hz => Fr.rmem (pre := [(l_24, (.lst (List.map peRef ((r_34 ++ [(⟨t_161, p_125, p_137, marks_122, word_133⟩ : PE)]))) : HO)), (l_22, (.lst (List.map rref ((r_31 ++ [(p_158, ((riffleI ((List.getD c_32 (List.length c_32 - 1) [])) marks_122 word_133)))]))) : HO))]) (ts := [pesOwn ((r_34 ++ [(⟨t_161, p_125, p_137, marks_122, word_133⟩ : PE)])), rosOwn gI ((r_31 ++ [(p_158, ((riffleI ((List.getD c_32 (List.length c_32 - 1) [])) marks_122 word_133)))])), pkOwn T.C_Pack ob_9 k_147]) fr 1 rfl hz) fr.at1 (snd_app (p := p_158) (x := ((riffleI ((List.getD c_32 (List.length c_32 - 1) [])) marks_122 word_133))) hC_33)), (PstAt.mk fr.at0 (Fr.pes (pre := [(l_24, (.lst (List.map peRef ((r_34 ++ [(⟨t_161, p_125, p_137, marks_122, word_133⟩ : PE)]))) : HO)), (l_22, (.lst (List.map rref ((r_31 ++ [(p_158, ((riffleI ((List.getD c_32 (List.length c_32 - 1) [])) marks_122 word_133)))]))) : HO))]) (ts := [pesOwn ((r_34 ++ [(⟨t_161, p_125, p_137, marks_122, word_133⟩ : PE)])), rosOwn gI ((r_31 ++ [(p_158, ((riffleI ((List.getD c_32 (List.length c_32 - 1) [])) marks_122 word_133)))])), pkOwn T.C_Pack ob_9 k_147]) fr 0 rfl) (pc_app hC_36)), ?_, fun H_163 told_164 hp_166 sm_165 => ?_⟩
        · first | exact hn3 | exact Pk3.start hnb (by assumption) (by assumption)
        have fr : Fr H _ ([(l_24, (.lst (List.map peRef ((r_34 ++ [(⟨t_161, p_125, p_137, marks_122, word_133⟩ : PE)]))) : HO)), (l_22, (.lst (List.map rref ((r_31 ++ [(p_158, ((riffleI ((List.getD c_32 (List.length c_32 - 1) [])) marks_122 word_133)))]))) : HO))] ++ List.flatten [pesOwn ((r_34 ++ [(⟨t_161, p_125, p_137, marks_122, word_133⟩ : PE)])), rosOwn gI ((r_31 ++ [(p_158, ((riffleI ((List.getD c_32 (List.length c_32 - 1) [])) marks_122 word_133)))])), pkOwn T.C_Pack ob_9 k_147]) := fr.call sm_165
        subst hp_166
        refine ⟨_, rfl, fun _ => ?_, (fun h => nomatch h)⟩
        refine iteF ?_
        have fr : Fr H _ ([(l_24, (.lst (List.map peRef ((r_34 ++ [(⟨t_161, p_125, p_137, marks_122, word_133⟩ : PE)]))) : HO)), (l_22, (.lst (List.map rref ((r_31 ++ [(p_158, ((riffleI ((List.getD c_32 (List.length c_32 - 1) [])) marks_122 word_133)))]))) : HO))] ++ List.flatten [pkOwn T.C_Pack ob_9 k_147, pesOwn ((r_34 ++ [(⟨t_161, p_125, p_137, marks_122, word_133⟩ : PE)])), rosOwn gI ((r_31 ++ [(p_158, ((riffleI ((List.getD c_32 (List.length c_32 - 1) [])) marks_122 word_133)))]))]) := Fr.tup (pre := [(l_24, (.lst (List.map peRef ((r_34 ++ [(⟨t_161, p_125, p_137, marks_122, word_133⟩ : PE)]))) : HO)), (l_22, (.lst (List.map rref ((r_31 ++ [(p_158, ((riffleI ((List.getD c_32 (List.length c_32 - 1) [])) marks_122 word_133)))]))) : HO))]) (ts := [pesOwn ((r_34 ++ [(⟨t_161, p_125, p_137, marks_122, word_133⟩ : PE)])), rosOwn gI ((r_31 ++ [(p_158, ((riffleI ((List.getD c_32 (List.length c_32 - 1) [])) marks_122 word_133)))])), pkOwn T.C_Pack ob_9 k_147]) fr 2 rfl
        have fr : Fr H _ ([(l_24, (.lst (List.map peRef ((r_34 ++ [(⟨t_161, p_125, p_137, marks_122, word_133⟩ : PE)]))) : HO)), (l_22, (.lst (List.map rref ((r_31 ++ [(p_158, ((riffleI ((List.getD c_32 (List.length c_32 - 1) [])) marks_122 word_133)))]))) : HO))] ++ List.flatten [rosOwn gI ((r_31 ++ [(p_158, ((riffleI ((List.getD c_32 (List.length c_32 - 1) [])) marks_122 word_133)))])), pkOwn T.C_Pack ob_9 k_147, pesOwn ((r_34 ++ [(⟨t_161, p_125, p_137, marks_122, word_133⟩ : PE)]))]) := Fr.tup (pre := [(l_24, (.lst (List.map peRef ((r_34 ++ [(⟨t_161, p_125, p_137, marks_122, word_133⟩ : PE)]))) : HO)), (l_22, (.lst (List.map rref ((r_31 ++ [(p_158, ((riffleI ((List.getD c_32 (List.length c_32 - 1) [])) marks_122 word_133)))]))) : HO))]) (ts := [pkOwn T.C_Pack ob_9 k_147, pesOwn ((r_34 ++ [(⟨t_161, p_125, p_137, marks_122, word_133⟩ : PE)])), rosOwn gI ((r_31 ++ [(p_158, ((riffleI ((List.getD c_32 (List.length c_32 - 1) [])) marks_122 word_133)))]))]) fr 2 rfl
        have fr : Fr H _ ([(l_24, (.lst (List.map peRef ((r_34 ++ [(⟨t_161, p_125, p_137, marks_122, word_133⟩ : PE)]))) : HO)), (l_22, (.lst (List.map rref ((r_31 ++ [(p_158, ((riffleI ((List.getD c_32 (List.length c_32 - 1) [])) marks_122 word_133)))]))) : HO))] ++ List.flatten [pesOwn ((r_34 ++ [(⟨t_161, p_125, p_137, marks_122, word_133⟩ : PE)])), rosOwn gI ((r_31 ++ [(p_158, ((riffleI ((List.getD c_32 (List.length c_32 - 1) [])) marks_122 word_133)))])), pkOwn T.C_Pack ob_9 k_147]) := Fr.tup (pre := [(l_24, (.lst (List.map peRef ((r_34 ++ [(⟨t_161, p_125, p_137, marks_122, word_133⟩ : PE)]))) : HO)), (l_22, (.lst (List.map rref ((r_31 ++ [(p_158, ((riffleI ((List.getD c_32 (List.length c_32 - 1) [])) marks_122 word_133)))]))) : HO))]) (ts := [rosOwn gI ((r_31 ++ [(p_158, ((riffleI ((List.getD c_32 (List.length c_32 - 1) [])) marks_122 word_133)))])), pkOwn T.C_Pack ob_9 k_147, pesOwn ((r_34 ++ [(⟨t_161, p_125, p_137, marks_122, word_133⟩ : PE)]))]) fr 2 rfl
        refine ⟨k_147, (r_31 ++ [(p_158, ((riffleI ((List.getD c_32 (List.length c_32 - 1) [])) marks_122 word_133)))]), (c_32 ++ [((riffleI ((List.getD c_32 (List.length c_32 - 1) [])) marks_122 word_133))]), (r_34 ++ [(⟨t_161, p_125, p_137, marks_122, word_133⟩ : PE)]), (c_35 ++ [(marks_122, word_133)]), _, _, _, rfl, fr, ?_, ?_, ?_, ?_⟩
        · exact (snd_app (p := p_158) (x := ((riffleI ((List.getD c_32 (List.length c_32 - 1) [])) marks_122 word_133))) hC_33)
        · exact (pc_app hC_36)
        · exact hn3
        · first | (rw [List.length_append]; exact Nat.succ_le_succ hbl) | (rw [List.length_dropLast]; omega)
    rintro s_168 H_167 ⟨k_30, r_31, c_32, r_34, c_35, y_37, y_38, y_39, rfl, fr, hC_33, hC_36, h3, hbl⟩
    refine ⟨_, rfl, _, _, rfl, rfl, ⟨by decide, by decide⟩, _, _, rfl, rfl, (show (0 : Int) < _ by decide), _, _, rfl, rfl, _, rfl, ((1 + ((((cellI script 0)) / 480) % 10))), (((cellI script 0))), rfl, ?_, fun H_169 rim_170 hp_172 sm_171 => ?_⟩
    · omega
    have fr : Fr H _ ([(l_24, (.lst (List.map peRef r_34) : HO)), (l_22, (.lst (List.map rref r_31) : HO))] ++ List.flatten [pesOwn r_34, rosOwn gI r_31, pkOwn T.C_Pack ob_9 k_30]) := fr.call sm_171
    subst hp_172
    exact q _ true (by rfl) fr.same
end
theorem all_mk {l : PySem.W.OpenLaw} {w : World} {K : PySem.W.Frag} {h : Heap} {mg : Str → Option Value} {fa : Addr} {CPack : Addr} {flaw_cell_at : Addr} {odlaw_cell_at anlaw_cell_at : Option Addr} {sllaw_cell_at : Array (Option Value)} {oclaw_cell_at kVlaw_cell_at dclaw_cell_at pmlaw_cell_at cdlaw_cell_at ctlaw_cell_at : Value} {ffirst : Addr} {odfirst anfirst : Option Addr} {slfirst : Array (Option Value)} {ocfirst kVfirst dcfirst pmfirst cdfirst ctfirst : Value} {fis_whole : Addr} {odis_whole anis_whole : Option Addr} {slis_whole : Array (Option Value)} {ocis_whole kVis_whole dcis_whole pmis_whole cdis_whole ctis_whole : Value} {fPack___init : Addr} {odPack___init anPack___init : Option Addr} {slPack___init : Array (Option Value)} {ocPack___init kVPack___init dcPack___init pmPack___init cdPack___init ctPack___init : Value} {fis_word : Addr} {odis_word anis_word : Option Addr} {slis_word : Array (Option Value)} {ocis_word kVis_word dcis_word pmis_word cdis_word ctis_word : Value} {fmust_be_word : Addr} {odmust_be_word anmust_be_word : Option Addr} {slmust_be_word : Array (Option Value)} {ocmust_be_word kVmust_be_word dcmust_be_word pmmust_be_word cdmust_be_word ctmust_be_word : Value} {fsizes : Addr} {odsizes ansizes : Option Addr} {slsizes : Array (Option Value)} {ocsizes kVsizes dcsizes pmsizes cdsizes ctsizes : Value} {fnumbers_in : Addr} {odnumbers_in annumbers_in : Option Addr} {slnumbers_in : Array (Option Value)} {ocnumbers_in kVnumbers_in dcnumbers_in pmnumbers_in cdnumbers_in ctnumbers_in : Value} {friffled : Addr} {odriffled anriffled : Option Addr} {slriffled : Array (Option Value)} {ocriffled kVriffled dcriffled pmriffled cdriffled ctriffled : Value} {fare_marks : Addr} {odare_marks anare_marks : Option Addr} {slare_marks : Array (Option Value)} {ocare_marks kVare_marks dcare_marks pmare_marks cdare_marks ctare_marks : Value} {fPack_riffle : Addr} {odPack_riffle anPack_riffle : Option Addr} {slPack_riffle : Array (Option Value)} {ocPack_riffle kVPack_riffle dcPack_riffle pmPack_riffle cdPack_riffle ctPack_riffle : Value} {flaw_riffled : Addr} {odlaw_riffled anlaw_riffled : Option Addr} {sllaw_riffled : Array (Option Value)} {oclaw_riffled kVlaw_riffled dclaw_riffled pmlaw_riffled cdlaw_riffled ctlaw_riffled : Value} {fcheck : Addr} {odcheck ancheck : Option Addr} {slcheck : Array (Option Value)} {occheck kVcheck dccheck pmcheck cdcheck ctcheck : Value} {fturned_about : Addr} {odturned_about anturned_about : Option Addr} {slturned_about : Array (Option Value)} {octurned_about kVturned_about dcturned_about pmturned_about cdturned_about ctturned_about : Value} {fjoined : Addr} {odjoined anjoined : Option Addr} {sljoined : Array (Option Value)} {ocjoined kVjoined dcjoined pmjoined cdjoined ctjoined : Value} {fjoined_marks : Addr} {odjoined_marks anjoined_marks : Option Addr} {sljoined_marks : Array (Option Value)} {ocjoined_marks kVjoined_marks dcjoined_marks pmjoined_marks cdjoined_marks ctjoined_marks : Value} {fPack_whole : Addr} {odPack_whole anPack_whole : Option Addr} {slPack_whole : Array (Option Value)} {ocPack_whole kVPack_whole dcPack_whole pmPack_whole cdPack_whole ctPack_whole : Value} {flaw_is : Addr} {odlaw_is anlaw_is : Option Addr} {sllaw_is : Array (Option Value)} {oclaw_is kVlaw_is dclaw_is pmlaw_is cdlaw_is ctlaw_is : Value} {flaw_leads : Addr} {odlaw_leads anlaw_leads : Option Addr} {sllaw_leads : Array (Option Value)} {oclaw_leads kVlaw_leads dclaw_leads pmlaw_leads cdlaw_leads ctlaw_leads : Value} {flaw_joined : Addr} {odlaw_joined anlaw_joined : Option Addr} {sllaw_joined : Array (Option Value)} {oclaw_joined kVlaw_joined dclaw_joined pmlaw_joined cdlaw_joined ctlaw_joined : Value} {flaw_refused : Addr} {odlaw_refused anlaw_refused : Option Addr} {sllaw_refused : Array (Option Value)} {oclaw_refused kVlaw_refused dclaw_refused pmlaw_refused cdlaw_refused ctlaw_refused : Value} {fPack_order : Addr} {odPack_order anPack_order : Option Addr} {slPack_order : Array (Option Value)} {ocPack_order kVPack_order dcPack_order pmPack_order cdPack_order ctPack_order : Value} {flaw_told : Addr} {odlaw_told anlaw_told : Option Addr} {sllaw_told : Array (Option Value)} {oclaw_told kVlaw_told dclaw_told pmlaw_told cdlaw_told ctlaw_told : Value} {flaw_rim : Addr} {odlaw_rim anlaw_rim : Option Addr} {sllaw_rim : Array (Option Value)} {oclaw_rim kVlaw_rim dclaw_rim pmlaw_rim cdlaw_rim ctlaw_rim : Value} {fundone : Addr} {odundone anundone : Option Addr} {slundone : Array (Option Value)} {ocundone kVundone dcundone pmundone cdundone ctundone : Value} {fPack_undo : Addr} {odPack_undo anPack_undo : Option Addr} {slPack_undo : Array (Option Value)} {ocPack_undo kVPack_undo dcPack_undo pmPack_undo cdPack_undo ctPack_undo : Value} {flaw_mixed : Addr} {odlaw_mixed anlaw_mixed : Option Addr} {sllaw_mixed : Array (Option Value)} {oclaw_mixed kVlaw_mixed dclaw_mixed pmlaw_mixed cdlaw_mixed ctlaw_mixed : Value} {flaw_marks : Addr} {odlaw_marks anlaw_marks : Option Addr} {sllaw_marks : Array (Option Value)} {oclaw_marks kVlaw_marks dclaw_marks pmlaw_marks cdlaw_marks ctlaw_marks : Value} {flaw_word : Addr} {odlaw_word anlaw_word : Option Addr} {sllaw_word : Array (Option Value)} {oclaw_word kVlaw_word dclaw_word pmlaw_word cdlaw_word ctlaw_word : Value} {flaw : Addr} {odlaw anlaw : Option Addr} {sllaw : Array (Option Value)} {oclaw kVlaw dclaw pmlaw cdlaw ctlaw : Value} {t_HEAPS : Tok} {t_MOST : Tok} {CRiftError : Addr} {CNoPack : Addr} {CNoMarks : Addr} {CNoRiffle : Addr} {CNoWay : Addr} {CTooMany : Addr} {CNoFigures : Addr} {CNoText : Addr} (X : K.In h) (G : h.Ns mainGlobals mg) (hfa : mg "law" = some (.ref fa))
    (waPack : PySem.W.nsIn K mainGlobals "Pack" = some (some (.ref CPack)))
    (wpgPack : PySem.W.plainGet K CPack Str.empty = true)
    (whdPack : PySem.W.hasDictIn K CPack = true)
    (wpoPack : PySem.W.plainOver K CPack = true)
    (wsaPack : PySem.W.findIn K (.ref CPack) "__setattr__" = some (some (.builtin "object.__setattr__")))
    (wmkPack : PySem.W.makesIn K CPack = true)
    (wkpPack : PySem.W.keepIn K (.ref CPack) = true)
    (wn_cardsPack : PySem.W.findIn K (.ref CPack) "cards" = some none)
    (wn_pastPack : PySem.W.findIn K (.ref CPack) "past" = some none)
    (alaw_cell_at : PySem.W.nsIn K mainGlobals "_law_cell_at" = some (some (.ref flaw_cell_at))) (llaw_cell_at : K.lookup flaw_cell_at = some ⟨oclaw_cell_at, odlaw_cell_at, .func (PySem.W.fnOf "_law_cell_at" "_law_cell_at" (defArgs s_law_cell_at) (defBody s_law_cell_at) (defScope s_law_cell_at) .none kVlaw_cell_at dclaw_cell_at pmlaw_cell_at anlaw_cell_at cdlaw_cell_at ctlaw_cell_at), sllaw_cell_at⟩) (claw_cell_at : PySem.W.codeIn K cdlaw_cell_at "_law_cell_at" = true) (klaw_cell_at : PySem.W.keepIn K (.ref flaw_cell_at) = true)
    (afirst : PySem.W.nsIn K mainGlobals "first" = some (some (.ref ffirst))) (lfirst : K.lookup ffirst = some ⟨ocfirst, odfirst, .func (PySem.W.fnOf "first" "first" (defArgs s_first) (defBody s_first) (defScope s_first) .none kVfirst dcfirst pmfirst anfirst cdfirst ctfirst), slfirst⟩) (cfirst : PySem.W.codeIn K cdfirst "first" = true) (kfirst : PySem.W.keepIn K (.ref ffirst) = true)
    (ais_whole : PySem.W.nsIn K mainGlobals "is_whole" = some (some (.ref fis_whole))) (lis_whole : K.lookup fis_whole = some ⟨ocis_whole, odis_whole, .func (PySem.W.fnOf "is_whole" "is_whole" (defArgs s_is_whole) (defBody s_is_whole) (defScope s_is_whole) .none kVis_whole dcis_whole pmis_whole anis_whole cdis_whole ctis_whole), slis_whole⟩) (cis_whole : PySem.W.codeIn K cdis_whole "is_whole" = true) (kis_whole : PySem.W.keepIn K (.ref fis_whole) = true)
    (aPack___init : PySem.W.findIn K (.ref CPack) "__init__" = some (some (.ref fPack___init))) (iPack___init : PySem.W.isFn K (.ref fPack___init) = true) (lPack___init : K.lookup fPack___init = some ⟨ocPack___init, odPack___init, .func (PySem.W.fnOf "__init__" "Pack.__init__" (defArgs s_Pack___init) (defBody s_Pack___init) (defScope s_Pack___init) .none kVPack___init dcPack___init pmPack___init anPack___init cdPack___init ctPack___init), slPack___init⟩) (cPack___init : PySem.W.codeIn K cdPack___init "Pack.__init__" = true) (kPack___init : PySem.W.keepIn K (.ref fPack___init) = true)
    (ais_word : PySem.W.nsIn K mainGlobals "is_word" = some (some (.ref fis_word))) (lis_word : K.lookup fis_word = some ⟨ocis_word, odis_word, .func (PySem.W.fnOf "is_word" "is_word" (defArgs s_is_word) (defBody s_is_word) (defScope s_is_word) .none kVis_word dcis_word pmis_word anis_word cdis_word ctis_word), slis_word⟩) (cis_word : PySem.W.codeIn K cdis_word "is_word" = true) (kis_word : PySem.W.keepIn K (.ref fis_word) = true)
    (amust_be_word : PySem.W.nsIn K mainGlobals "must_be_word" = some (some (.ref fmust_be_word))) (lmust_be_word : K.lookup fmust_be_word = some ⟨ocmust_be_word, odmust_be_word, .func (PySem.W.fnOf "must_be_word" "must_be_word" (defArgs s_must_be_word) (defBody s_must_be_word) (defScope s_must_be_word) .none kVmust_be_word dcmust_be_word pmmust_be_word anmust_be_word cdmust_be_word ctmust_be_word), slmust_be_word⟩) (cmust_be_word : PySem.W.codeIn K cdmust_be_word "must_be_word" = true) (kmust_be_word : PySem.W.keepIn K (.ref fmust_be_word) = true)
    (asizes : PySem.W.nsIn K mainGlobals "sizes" = some (some (.ref fsizes))) (lsizes : K.lookup fsizes = some ⟨ocsizes, odsizes, .func (PySem.W.fnOf "sizes" "sizes" (defArgs s_sizes) (defBody s_sizes) (defScope s_sizes) .none kVsizes dcsizes pmsizes ansizes cdsizes ctsizes), slsizes⟩) (csizes : PySem.W.codeIn K cdsizes "sizes" = true) (ksizes : PySem.W.keepIn K (.ref fsizes) = true)
    (anumbers_in : PySem.W.nsIn K mainGlobals "numbers_in" = some (some (.ref fnumbers_in))) (lnumbers_in : K.lookup fnumbers_in = some ⟨ocnumbers_in, odnumbers_in, .func (PySem.W.fnOf "numbers_in" "numbers_in" (defArgs s_numbers_in) (defBody s_numbers_in) (defScope s_numbers_in) .none kVnumbers_in dcnumbers_in pmnumbers_in annumbers_in cdnumbers_in ctnumbers_in), slnumbers_in⟩) (cnumbers_in : PySem.W.codeIn K cdnumbers_in "numbers_in" = true) (knumbers_in : PySem.W.keepIn K (.ref fnumbers_in) = true)
    (ariffled : PySem.W.nsIn K mainGlobals "riffled" = some (some (.ref friffled))) (lriffled : K.lookup friffled = some ⟨ocriffled, odriffled, .func (PySem.W.fnOf "riffled" "riffled" (defArgs s_riffled) (defBody s_riffled) (defScope s_riffled) .none kVriffled dcriffled pmriffled anriffled cdriffled ctriffled), slriffled⟩) (criffled : PySem.W.codeIn K cdriffled "riffled" = true) (kriffled : PySem.W.keepIn K (.ref friffled) = true)
    (aare_marks : PySem.W.nsIn K mainGlobals "are_marks" = some (some (.ref fare_marks))) (lare_marks : K.lookup fare_marks = some ⟨ocare_marks, odare_marks, .func (PySem.W.fnOf "are_marks" "are_marks" (defArgs s_are_marks) (defBody s_are_marks) (defScope s_are_marks) .none kVare_marks dcare_marks pmare_marks anare_marks cdare_marks ctare_marks), slare_marks⟩) (care_marks : PySem.W.codeIn K cdare_marks "are_marks" = true) (kare_marks : PySem.W.keepIn K (.ref fare_marks) = true)
    (aPack_riffle : PySem.W.findIn K (.ref CPack) "riffle" = some (some (.ref fPack_riffle))) (iPack_riffle : PySem.W.isFn K (.ref fPack_riffle) = true) (lPack_riffle : K.lookup fPack_riffle = some ⟨ocPack_riffle, odPack_riffle, .func (PySem.W.fnOf "riffle" "Pack.riffle" (defArgs s_Pack_riffle) (defBody s_Pack_riffle) (defScope s_Pack_riffle) .none kVPack_riffle dcPack_riffle pmPack_riffle anPack_riffle cdPack_riffle ctPack_riffle), slPack_riffle⟩) (cPack_riffle : PySem.W.codeIn K cdPack_riffle "Pack.riffle" = true) (kPack_riffle : PySem.W.keepIn K (.ref fPack_riffle) = true)
    (alaw_riffled : PySem.W.nsIn K mainGlobals "_law_riffled" = some (some (.ref flaw_riffled))) (llaw_riffled : K.lookup flaw_riffled = some ⟨oclaw_riffled, odlaw_riffled, .func (PySem.W.fnOf "_law_riffled" "_law_riffled" (defArgs s_law_riffled) (defBody s_law_riffled) (defScope s_law_riffled) .none kVlaw_riffled dclaw_riffled pmlaw_riffled anlaw_riffled cdlaw_riffled ctlaw_riffled), sllaw_riffled⟩) (claw_riffled : PySem.W.codeIn K cdlaw_riffled "_law_riffled" = true) (klaw_riffled : PySem.W.keepIn K (.ref flaw_riffled) = true)
    (acheck : PySem.W.nsIn K mainGlobals "check" = some (some (.ref fcheck))) (lcheck : K.lookup fcheck = some ⟨occheck, odcheck, .func (PySem.W.fnOf "check" "check" (defArgs s_check) (defBody s_check) (defScope s_check) .none kVcheck dccheck pmcheck ancheck cdcheck ctcheck), slcheck⟩) (ccheck : PySem.W.codeIn K cdcheck "check" = true) (kcheck : PySem.W.keepIn K (.ref fcheck) = true)
    (aturned_about : PySem.W.nsIn K mainGlobals "turned_about" = some (some (.ref fturned_about))) (lturned_about : K.lookup fturned_about = some ⟨octurned_about, odturned_about, .func (PySem.W.fnOf "turned_about" "turned_about" (defArgs s_turned_about) (defBody s_turned_about) (defScope s_turned_about) .none kVturned_about dcturned_about pmturned_about anturned_about cdturned_about ctturned_about), slturned_about⟩) (cturned_about : PySem.W.codeIn K cdturned_about "turned_about" = true) (kturned_about : PySem.W.keepIn K (.ref fturned_about) = true)
    (ajoined : PySem.W.nsIn K mainGlobals "joined" = some (some (.ref fjoined))) (ljoined : K.lookup fjoined = some ⟨ocjoined, odjoined, .func (PySem.W.fnOf "joined" "joined" (defArgs s_joined) (defBody s_joined) (defScope s_joined) .none kVjoined dcjoined pmjoined anjoined cdjoined ctjoined), sljoined⟩) (cjoined : PySem.W.codeIn K cdjoined "joined" = true) (kjoined : PySem.W.keepIn K (.ref fjoined) = true)
    (ajoined_marks : PySem.W.nsIn K mainGlobals "joined_marks" = some (some (.ref fjoined_marks))) (ljoined_marks : K.lookup fjoined_marks = some ⟨ocjoined_marks, odjoined_marks, .func (PySem.W.fnOf "joined_marks" "joined_marks" (defArgs s_joined_marks) (defBody s_joined_marks) (defScope s_joined_marks) .none kVjoined_marks dcjoined_marks pmjoined_marks anjoined_marks cdjoined_marks ctjoined_marks), sljoined_marks⟩) (cjoined_marks : PySem.W.codeIn K cdjoined_marks "joined_marks" = true) (kjoined_marks : PySem.W.keepIn K (.ref fjoined_marks) = true)
    (aPack_whole : PySem.W.findIn K (.ref CPack) "whole" = some (some (.ref fPack_whole))) (iPack_whole : PySem.W.isFn K (.ref fPack_whole) = true) (lPack_whole : K.lookup fPack_whole = some ⟨ocPack_whole, odPack_whole, .func (PySem.W.fnOf "whole" "Pack.whole" (defArgs s_Pack_whole) (defBody s_Pack_whole) (defScope s_Pack_whole) .none kVPack_whole dcPack_whole pmPack_whole anPack_whole cdPack_whole ctPack_whole), slPack_whole⟩) (cPack_whole : PySem.W.codeIn K cdPack_whole "Pack.whole" = true) (kPack_whole : PySem.W.keepIn K (.ref fPack_whole) = true)
    (alaw_is : PySem.W.nsIn K mainGlobals "_law_is" = some (some (.ref flaw_is))) (llaw_is : K.lookup flaw_is = some ⟨oclaw_is, odlaw_is, .func (PySem.W.fnOf "_law_is" "_law_is" (defArgs s_law_is) (defBody s_law_is) (defScope s_law_is) .none kVlaw_is dclaw_is pmlaw_is anlaw_is cdlaw_is ctlaw_is), sllaw_is⟩) (claw_is : PySem.W.codeIn K cdlaw_is "_law_is" = true) (klaw_is : PySem.W.keepIn K (.ref flaw_is) = true)
    (alaw_leads : PySem.W.nsIn K mainGlobals "_law_leads" = some (some (.ref flaw_leads))) (llaw_leads : K.lookup flaw_leads = some ⟨oclaw_leads, odlaw_leads, .func (PySem.W.fnOf "_law_leads" "_law_leads" (defArgs s_law_leads) (defBody s_law_leads) (defScope s_law_leads) .none kVlaw_leads dclaw_leads pmlaw_leads anlaw_leads cdlaw_leads ctlaw_leads), sllaw_leads⟩) (claw_leads : PySem.W.codeIn K cdlaw_leads "_law_leads" = true) (klaw_leads : PySem.W.keepIn K (.ref flaw_leads) = true)
    (alaw_joined : PySem.W.nsIn K mainGlobals "_law_joined" = some (some (.ref flaw_joined))) (llaw_joined : K.lookup flaw_joined = some ⟨oclaw_joined, odlaw_joined, .func (PySem.W.fnOf "_law_joined" "_law_joined" (defArgs s_law_joined) (defBody s_law_joined) (defScope s_law_joined) .none kVlaw_joined dclaw_joined pmlaw_joined anlaw_joined cdlaw_joined ctlaw_joined), sllaw_joined⟩) (claw_joined : PySem.W.codeIn K cdlaw_joined "_law_joined" = true) (klaw_joined : PySem.W.keepIn K (.ref flaw_joined) = true)
    (alaw_refused : PySem.W.nsIn K mainGlobals "_law_refused" = some (some (.ref flaw_refused))) (llaw_refused : K.lookup flaw_refused = some ⟨oclaw_refused, odlaw_refused, .func (PySem.W.fnOf "_law_refused" "_law_refused" (defArgs s_law_refused) (defBody s_law_refused) (defScope s_law_refused) .none kVlaw_refused dclaw_refused pmlaw_refused anlaw_refused cdlaw_refused ctlaw_refused), sllaw_refused⟩) (claw_refused : PySem.W.codeIn K cdlaw_refused "_law_refused" = true) (klaw_refused : PySem.W.keepIn K (.ref flaw_refused) = true)
    (aPack_order : PySem.W.findIn K (.ref CPack) "order" = some (some (.ref fPack_order))) (iPack_order : PySem.W.isFn K (.ref fPack_order) = true) (lPack_order : K.lookup fPack_order = some ⟨ocPack_order, odPack_order, .func (PySem.W.fnOf "order" "Pack.order" (defArgs s_Pack_order) (defBody s_Pack_order) (defScope s_Pack_order) .none kVPack_order dcPack_order pmPack_order anPack_order cdPack_order ctPack_order), slPack_order⟩) (cPack_order : PySem.W.codeIn K cdPack_order "Pack.order" = true) (kPack_order : PySem.W.keepIn K (.ref fPack_order) = true)
    (alaw_told : PySem.W.nsIn K mainGlobals "_law_told" = some (some (.ref flaw_told))) (llaw_told : K.lookup flaw_told = some ⟨oclaw_told, odlaw_told, .func (PySem.W.fnOf "_law_told" "_law_told" (defArgs s_law_told) (defBody s_law_told) (defScope s_law_told) .none kVlaw_told dclaw_told pmlaw_told anlaw_told cdlaw_told ctlaw_told), sllaw_told⟩) (claw_told : PySem.W.codeIn K cdlaw_told "_law_told" = true) (klaw_told : PySem.W.keepIn K (.ref flaw_told) = true)
    (alaw_rim : PySem.W.nsIn K mainGlobals "_law_rim" = some (some (.ref flaw_rim))) (llaw_rim : K.lookup flaw_rim = some ⟨oclaw_rim, odlaw_rim, .func (PySem.W.fnOf "_law_rim" "_law_rim" (defArgs s_law_rim) (defBody s_law_rim) (defScope s_law_rim) .none kVlaw_rim dclaw_rim pmlaw_rim anlaw_rim cdlaw_rim ctlaw_rim), sllaw_rim⟩) (claw_rim : PySem.W.codeIn K cdlaw_rim "_law_rim" = true) (klaw_rim : PySem.W.keepIn K (.ref flaw_rim) = true)
    (aundone : PySem.W.nsIn K mainGlobals "undone" = some (some (.ref fundone))) (lundone : K.lookup fundone = some ⟨ocundone, odundone, .func (PySem.W.fnOf "undone" "undone" (defArgs s_undone) (defBody s_undone) (defScope s_undone) .none kVundone dcundone pmundone anundone cdundone ctundone), slundone⟩) (cundone : PySem.W.codeIn K cdundone "undone" = true) (kundone : PySem.W.keepIn K (.ref fundone) = true)
    (aPack_undo : PySem.W.findIn K (.ref CPack) "undo" = some (some (.ref fPack_undo))) (iPack_undo : PySem.W.isFn K (.ref fPack_undo) = true) (lPack_undo : K.lookup fPack_undo = some ⟨ocPack_undo, odPack_undo, .func (PySem.W.fnOf "undo" "Pack.undo" (defArgs s_Pack_undo) (defBody s_Pack_undo) (defScope s_Pack_undo) .none kVPack_undo dcPack_undo pmPack_undo anPack_undo cdPack_undo ctPack_undo), slPack_undo⟩) (cPack_undo : PySem.W.codeIn K cdPack_undo "Pack.undo" = true) (kPack_undo : PySem.W.keepIn K (.ref fPack_undo) = true)
    (alaw_mixed : PySem.W.nsIn K mainGlobals "_law_mixed" = some (some (.ref flaw_mixed))) (llaw_mixed : K.lookup flaw_mixed = some ⟨oclaw_mixed, odlaw_mixed, .func (PySem.W.fnOf "_law_mixed" "_law_mixed" (defArgs s_law_mixed) (defBody s_law_mixed) (defScope s_law_mixed) .none kVlaw_mixed dclaw_mixed pmlaw_mixed anlaw_mixed cdlaw_mixed ctlaw_mixed), sllaw_mixed⟩) (claw_mixed : PySem.W.codeIn K cdlaw_mixed "_law_mixed" = true) (klaw_mixed : PySem.W.keepIn K (.ref flaw_mixed) = true)
    (alaw_marks : PySem.W.nsIn K mainGlobals "_law_marks" = some (some (.ref flaw_marks))) (llaw_marks : K.lookup flaw_marks = some ⟨oclaw_marks, odlaw_marks, .func (PySem.W.fnOf "_law_marks" "_law_marks" (defArgs s_law_marks) (defBody s_law_marks) (defScope s_law_marks) .none kVlaw_marks dclaw_marks pmlaw_marks anlaw_marks cdlaw_marks ctlaw_marks), sllaw_marks⟩) (claw_marks : PySem.W.codeIn K cdlaw_marks "_law_marks" = true) (klaw_marks : PySem.W.keepIn K (.ref flaw_marks) = true)
    (alaw_word : PySem.W.nsIn K mainGlobals "_law_word" = some (some (.ref flaw_word))) (llaw_word : K.lookup flaw_word = some ⟨oclaw_word, odlaw_word, .func (PySem.W.fnOf "_law_word" "_law_word" (defArgs s_law_word) (defBody s_law_word) (defScope s_law_word) .none kVlaw_word dclaw_word pmlaw_word anlaw_word cdlaw_word ctlaw_word), sllaw_word⟩) (claw_word : PySem.W.codeIn K cdlaw_word "_law_word" = true) (klaw_word : PySem.W.keepIn K (.ref flaw_word) = true)
    (alaw : PySem.W.nsIn K mainGlobals "law" = some (some (.ref flaw))) (llaw : K.lookup flaw = some ⟨oclaw, odlaw, .func (PySem.W.fnOf "law" "law" (defArgs s_law) (defBody s_law) (defScope s_law) .none kVlaw dclaw pmlaw anlaw cdlaw ctlaw), sllaw⟩) (claw : PySem.W.codeIn K cdlaw "law" = true) (klaw : PySem.W.keepIn K (.ref flaw) = true)
    (z_HEAPS : PySem.W.nsIn K mainGlobals "HEAPS" = some (some (.int 400 t_HEAPS)))
    (z_MOST : PySem.W.nsIn K mainGlobals "MOST" = some (some (.int 60 t_MOST)))
    (z_abs : PySem.W.nsIn K mainGlobals "abs" = some none)
    (z_all : PySem.W.nsIn K mainGlobals "all" = some none)
    (z_bool : PySem.W.nsIn K mainGlobals "bool" = some none)
    (z_enumerate : PySem.W.nsIn K mainGlobals "enumerate" = some none)
    (z_int : PySem.W.nsIn K mainGlobals "int" = some none)
    (z_isinstance : PySem.W.nsIn K mainGlobals "isinstance" = some none)
    (z_len : PySem.W.nsIn K mainGlobals "len" = some none)
    (z_list : PySem.W.nsIn K mainGlobals "list" = some none)
    (z_min : PySem.W.nsIn K mainGlobals "min" = some none)
    (z_range : PySem.W.nsIn K mainGlobals "range" = some none)
    (z_reversed : PySem.W.nsIn K mainGlobals "reversed" = some none)
    (z_tuple : PySem.W.nsIn K mainGlobals "tuple" = some none)
    (z_zip : PySem.W.nsIn K mainGlobals "zip" = some none)
    (xaRiftError : PySem.W.nsIn K mainGlobals "RiftError" = some (some (.ref CRiftError)))
    (xkRiftError : PySem.W.keepIn K (.ref CRiftError) = true)
    (xeRiftError : PySem.W.excIn K CRiftError [.type "ValueError", .type "Exception", .type "BaseException", .type "object"] "ValueError.__new__" = true)
    (xhgRiftError : PySem.W.findIn K (.ref CRiftError) "__getattribute__" = some (some (.builtin "BaseException.__getattribute__")))
    (xhkRiftError : PySem.W.findIn K (.ref CRiftError) "__getattr__" = some none)
    (xhsRiftError : PySem.W.subIn K (.ref CRiftError) (.type "BaseException") = some true)
    (xhdRiftError : PySem.W.hasDictIn K CRiftError = true)
    (xhaRiftError : PySem.W.findIn K (.ref CRiftError) "__class__" = some (some (.builtin "object.__class__")))
    (xhnRiftError : PySem.W.specialIn K (.builtin "object.__class__") "__get__" = some (some (.builtin "getset_descriptor.__get__")))
    (xhtRiftError : PySem.W.takesIn K (.builtin "object.__class__") = some true)
    (xhmRiftError : PySem.W.mroIn K CRiftError (.type "object") = some true)
    (xtyRiftError : PySem.W.typeIn K (.ref CRiftError) = some (.type "type"))
    (xveRiftError : PySem.W.subIn K (.ref CRiftError) (.type "ValueError") = some true)
    (xaNoPack : PySem.W.nsIn K mainGlobals "NoPack" = some (some (.ref CNoPack)))
    (xkNoPack : PySem.W.keepIn K (.ref CNoPack) = true)
    (xeNoPack : PySem.W.excIn K CNoPack [.type "ValueError", .type "Exception", .type "BaseException", .type "object"] "ValueError.__new__" = true)
    (xhgNoPack : PySem.W.findIn K (.ref CNoPack) "__getattribute__" = some (some (.builtin "BaseException.__getattribute__")))
    (xhkNoPack : PySem.W.findIn K (.ref CNoPack) "__getattr__" = some none)
    (xhsNoPack : PySem.W.subIn K (.ref CNoPack) (.type "BaseException") = some true)
    (xhdNoPack : PySem.W.hasDictIn K CNoPack = true)
    (xhaNoPack : PySem.W.findIn K (.ref CNoPack) "__class__" = some (some (.builtin "object.__class__")))
    (xhnNoPack : PySem.W.specialIn K (.builtin "object.__class__") "__get__" = some (some (.builtin "getset_descriptor.__get__")))
    (xhtNoPack : PySem.W.takesIn K (.builtin "object.__class__") = some true)
    (xhmNoPack : PySem.W.mroIn K CNoPack (.type "object") = some true)
    (xtyNoPack : PySem.W.typeIn K (.ref CNoPack) = some (.type "type"))
    (xveNoPack : PySem.W.subIn K (.ref CNoPack) (.type "ValueError") = some true)
    (xaNoMarks : PySem.W.nsIn K mainGlobals "NoMarks" = some (some (.ref CNoMarks)))
    (xkNoMarks : PySem.W.keepIn K (.ref CNoMarks) = true)
    (xeNoMarks : PySem.W.excIn K CNoMarks [.type "ValueError", .type "Exception", .type "BaseException", .type "object"] "ValueError.__new__" = true)
    (xhgNoMarks : PySem.W.findIn K (.ref CNoMarks) "__getattribute__" = some (some (.builtin "BaseException.__getattribute__")))
    (xhkNoMarks : PySem.W.findIn K (.ref CNoMarks) "__getattr__" = some none)
    (xhsNoMarks : PySem.W.subIn K (.ref CNoMarks) (.type "BaseException") = some true)
    (xhdNoMarks : PySem.W.hasDictIn K CNoMarks = true)
    (xhaNoMarks : PySem.W.findIn K (.ref CNoMarks) "__class__" = some (some (.builtin "object.__class__")))
    (xhnNoMarks : PySem.W.specialIn K (.builtin "object.__class__") "__get__" = some (some (.builtin "getset_descriptor.__get__")))
    (xhtNoMarks : PySem.W.takesIn K (.builtin "object.__class__") = some true)
    (xhmNoMarks : PySem.W.mroIn K CNoMarks (.type "object") = some true)
    (xtyNoMarks : PySem.W.typeIn K (.ref CNoMarks) = some (.type "type"))
    (xveNoMarks : PySem.W.subIn K (.ref CNoMarks) (.type "ValueError") = some true)
    (xaNoRiffle : PySem.W.nsIn K mainGlobals "NoRiffle" = some (some (.ref CNoRiffle)))
    (xkNoRiffle : PySem.W.keepIn K (.ref CNoRiffle) = true)
    (xeNoRiffle : PySem.W.excIn K CNoRiffle [.type "ValueError", .type "Exception", .type "BaseException", .type "object"] "ValueError.__new__" = true)
    (xhgNoRiffle : PySem.W.findIn K (.ref CNoRiffle) "__getattribute__" = some (some (.builtin "BaseException.__getattribute__")))
    (xhkNoRiffle : PySem.W.findIn K (.ref CNoRiffle) "__getattr__" = some none)
    (xhsNoRiffle : PySem.W.subIn K (.ref CNoRiffle) (.type "BaseException") = some true)
    (xhdNoRiffle : PySem.W.hasDictIn K CNoRiffle = true)
    (xhaNoRiffle : PySem.W.findIn K (.ref CNoRiffle) "__class__" = some (some (.builtin "object.__class__")))
    (xhnNoRiffle : PySem.W.specialIn K (.builtin "object.__class__") "__get__" = some (some (.builtin "getset_descriptor.__get__")))
    (xhtNoRiffle : PySem.W.takesIn K (.builtin "object.__class__") = some true)
    (xhmNoRiffle : PySem.W.mroIn K CNoRiffle (.type "object") = some true)
    (xtyNoRiffle : PySem.W.typeIn K (.ref CNoRiffle) = some (.type "type"))
    (xveNoRiffle : PySem.W.subIn K (.ref CNoRiffle) (.type "ValueError") = some true)
    (xaNoWay : PySem.W.nsIn K mainGlobals "NoWay" = some (some (.ref CNoWay)))
    (xkNoWay : PySem.W.keepIn K (.ref CNoWay) = true)
    (xeNoWay : PySem.W.excIn K CNoWay [.type "ValueError", .type "Exception", .type "BaseException", .type "object"] "ValueError.__new__" = true)
    (xhgNoWay : PySem.W.findIn K (.ref CNoWay) "__getattribute__" = some (some (.builtin "BaseException.__getattribute__")))
    (xhkNoWay : PySem.W.findIn K (.ref CNoWay) "__getattr__" = some none)
    (xhsNoWay : PySem.W.subIn K (.ref CNoWay) (.type "BaseException") = some true)
    (xhdNoWay : PySem.W.hasDictIn K CNoWay = true)
    (xhaNoWay : PySem.W.findIn K (.ref CNoWay) "__class__" = some (some (.builtin "object.__class__")))
    (xhnNoWay : PySem.W.specialIn K (.builtin "object.__class__") "__get__" = some (some (.builtin "getset_descriptor.__get__")))
    (xhtNoWay : PySem.W.takesIn K (.builtin "object.__class__") = some true)
    (xhmNoWay : PySem.W.mroIn K CNoWay (.type "object") = some true)
    (xtyNoWay : PySem.W.typeIn K (.ref CNoWay) = some (.type "type"))
    (xveNoWay : PySem.W.subIn K (.ref CNoWay) (.type "ValueError") = some true)
    (xaTooMany : PySem.W.nsIn K mainGlobals "TooMany" = some (some (.ref CTooMany)))
    (xkTooMany : PySem.W.keepIn K (.ref CTooMany) = true)
    (xeTooMany : PySem.W.excIn K CTooMany [.type "ValueError", .type "Exception", .type "BaseException", .type "object"] "ValueError.__new__" = true)
    (xhgTooMany : PySem.W.findIn K (.ref CTooMany) "__getattribute__" = some (some (.builtin "BaseException.__getattribute__")))
    (xhkTooMany : PySem.W.findIn K (.ref CTooMany) "__getattr__" = some none)
    (xhsTooMany : PySem.W.subIn K (.ref CTooMany) (.type "BaseException") = some true)
    (xhdTooMany : PySem.W.hasDictIn K CTooMany = true)
    (xhaTooMany : PySem.W.findIn K (.ref CTooMany) "__class__" = some (some (.builtin "object.__class__")))
    (xhnTooMany : PySem.W.specialIn K (.builtin "object.__class__") "__get__" = some (some (.builtin "getset_descriptor.__get__")))
    (xhtTooMany : PySem.W.takesIn K (.builtin "object.__class__") = some true)
    (xhmTooMany : PySem.W.mroIn K CTooMany (.type "object") = some true)
    (xtyTooMany : PySem.W.typeIn K (.ref CTooMany) = some (.type "type"))
    (xveTooMany : PySem.W.subIn K (.ref CTooMany) (.type "ValueError") = some true)
    (xaNoFigures : PySem.W.nsIn K mainGlobals "NoFigures" = some (some (.ref CNoFigures)))
    (xkNoFigures : PySem.W.keepIn K (.ref CNoFigures) = true)
    (xeNoFigures : PySem.W.excIn K CNoFigures [.type "ValueError", .type "Exception", .type "BaseException", .type "object"] "ValueError.__new__" = true)
    (xhgNoFigures : PySem.W.findIn K (.ref CNoFigures) "__getattribute__" = some (some (.builtin "BaseException.__getattribute__")))
    (xhkNoFigures : PySem.W.findIn K (.ref CNoFigures) "__getattr__" = some none)
    (xhsNoFigures : PySem.W.subIn K (.ref CNoFigures) (.type "BaseException") = some true)
    (xhdNoFigures : PySem.W.hasDictIn K CNoFigures = true)
    (xhaNoFigures : PySem.W.findIn K (.ref CNoFigures) "__class__" = some (some (.builtin "object.__class__")))
    (xhnNoFigures : PySem.W.specialIn K (.builtin "object.__class__") "__get__" = some (some (.builtin "getset_descriptor.__get__")))
    (xhtNoFigures : PySem.W.takesIn K (.builtin "object.__class__") = some true)
    (xhmNoFigures : PySem.W.mroIn K CNoFigures (.type "object") = some true)
    (xtyNoFigures : PySem.W.typeIn K (.ref CNoFigures) = some (.type "type"))
    (xveNoFigures : PySem.W.subIn K (.ref CNoFigures) (.type "ValueError") = some true)
    (xaNoText : PySem.W.nsIn K mainGlobals "NoText" = some (some (.ref CNoText)))
    (xkNoText : PySem.W.keepIn K (.ref CNoText) = true)
    (xeNoText : PySem.W.excIn K CNoText [.type "ValueError", .type "Exception", .type "BaseException", .type "object"] "ValueError.__new__" = true)
    (xhgNoText : PySem.W.findIn K (.ref CNoText) "__getattribute__" = some (some (.builtin "BaseException.__getattribute__")))
    (xhkNoText : PySem.W.findIn K (.ref CNoText) "__getattr__" = some none)
    (xhsNoText : PySem.W.subIn K (.ref CNoText) (.type "BaseException") = some true)
    (xhdNoText : PySem.W.hasDictIn K CNoText = true)
    (xhaNoText : PySem.W.findIn K (.ref CNoText) "__class__" = some (some (.builtin "object.__class__")))
    (xhnNoText : PySem.W.specialIn K (.builtin "object.__class__") "__get__" = some (some (.builtin "getset_descriptor.__get__")))
    (xhtNoText : PySem.W.takesIn K (.builtin "object.__class__") = some true)
    (xhmNoText : PySem.W.mroIn K CNoText (.type "object") = some true)
    (xtyNoText : PySem.W.typeIn K (.ref CNoText) = some (.type "type"))
    (xveNoText : PySem.W.subIn K (.ref CNoText) (.type "ValueError") = some true)
    (yTooManyNoFigures : PySem.W.subIn K (.ref CTooMany) (.ref CNoFigures) = some false)
    (zTooManyNoFigures : CTooMany ≠ CNoFigures)
    (yTooManyNoMarks : PySem.W.subIn K (.ref CTooMany) (.ref CNoMarks) = some false)
    (zTooManyNoMarks : CTooMany ≠ CNoMarks)
    (yTooManyNoPack : PySem.W.subIn K (.ref CTooMany) (.ref CNoPack) = some false)
    (zTooManyNoPack : CTooMany ≠ CNoPack)
    (yTooManyNoRiffle : PySem.W.subIn K (.ref CTooMany) (.ref CNoRiffle) = some false)
    (zTooManyNoRiffle : CTooMany ≠ CNoRiffle)
    (yTooManyNoText : PySem.W.subIn K (.ref CTooMany) (.ref CNoText) = some false)
    (zTooManyNoText : CTooMany ≠ CNoText)
    (yTooManyNoWay : PySem.W.subIn K (.ref CTooMany) (.ref CNoWay) = some false)
    (zTooManyNoWay : CTooMany ≠ CNoWay)
    (yTooManyRiftError : PySem.W.subIn K (.ref CTooMany) (.ref CRiftError) = some true)
    (yTooManyTooMany : PySem.W.subIn K (.ref CTooMany) (.ref CTooMany) = some true) :
    ∃ fd : FuncData, (∀ (s : Shared) (v : Value), BindsTo s fd ⟨[v], []⟩ [("_law_script", v)]) ∧ ∀ base : Heap, K.In base → base.Ns mainGlobals mg → FnOk l.prog w K mg base CX0 10 fa fd ["_law_script"] (sp_law K) := by
  have e := hfa.symm.trans (PySem.W.mg_of X G alaw)
  cases e
  exact ⟨PySem.W.fnOf "law" "law" (defArgs s_law) (defBody s_law) (defScope s_law) .none kVlaw dclaw pmlaw anlaw cdlaw ctlaw, fun s v => .of_eq rfl, fun base _ _ => ok_law (P := l.prog) (w := w) (base := base) (K := K) (mg := mg) { C_Pack := CPack, cl_Pack := ⟨wpgPack, whdPack, wpoPack, wsaPack⟩, mg_Pack := PySem.W.mg_of X G waPack, na_Pack_cards := wn_cardsPack, na_Pack_past := wn_pastPack, f_law_cell_at := flaw_cell_at, fd_law_cell_at := _, F_law_cell_at := fun_mk (st := s_law_cell_at) llaw_cell_at claw_cell_at klaw_cell_at, g_law_cell_at := PySem.W.mg_of X G alaw_cell_at, b_law_cell_at := ((fun_mk (st := s_law_cell_at) llaw_cell_at claw_cell_at klaw_cell_at).binds (ps := ["_law_script", "_law_k"]) (fun _ _ _ _ _ _ us hl => match us, hl with | [_, _], _ => rfl)), f_first := ffirst, fd_first := _, F_first := fun_mk (st := s_first) lfirst cfirst kfirst, g_first := PySem.W.mg_of X G afirst, b_first := ((fun_mk (st := s_first) lfirst cfirst kfirst).binds (ps := ["n"]) (fun _ _ _ _ _ _ us hl => match us, hl with | [_], _ => rfl)), f_is_whole := fis_whole, fd_is_whole := _, F_is_whole := fun_mk (st := s_is_whole) lis_whole cis_whole kis_whole, g_is_whole := PySem.W.mg_of X G ais_whole, b_is_whole := ((fun_mk (st := s_is_whole) lis_whole cis_whole kis_whole).binds (ps := ["thing"]) (fun _ _ _ _ _ _ us hl => match us, hl with | [_], _ => rfl)), f_Pack___init := fPack___init, fd_Pack___init := _, F_Pack___init := fun_mk (st := s_Pack___init) lPack___init cPack___init kPack___init, m_Pack___init := ⟨aPack___init, iPack___init, kPack___init⟩, b_Pack___init := ((fun_mk (st := s_Pack___init) lPack___init cPack___init kPack___init).binds (ps := ["self", "n"]) (fun _ _ _ _ _ _ us hl => match us, hl with | [_, _], _ => rfl)), mk_Pack := ⟨wmkPack, aPack___init, iPack___init, wkpPack⟩, f_is_word := fis_word, fd_is_word := _, F_is_word := fun_mk (st := s_is_word) lis_word cis_word kis_word, g_is_word := PySem.W.mg_of X G ais_word, b_is_word := ((fun_mk (st := s_is_word) lis_word cis_word kis_word).binds (ps := ["marks", "word", "n"]) (fun _ _ _ _ _ _ us hl => match us, hl with | [_, _, _], _ => rfl)), f_must_be_word := fmust_be_word, fd_must_be_word := _, F_must_be_word := fun_mk (st := s_must_be_word) lmust_be_word cmust_be_word kmust_be_word, g_must_be_word := PySem.W.mg_of X G amust_be_word, b_must_be_word := ((fun_mk (st := s_must_be_word) lmust_be_word cmust_be_word kmust_be_word).binds (ps := ["marks", "word", "n"]) (fun _ _ _ _ _ _ us hl => match us, hl with | [_, _, _], _ => rfl)), f_sizes := fsizes, fd_sizes := _, F_sizes := fun_mk (st := s_sizes) lsizes csizes ksizes, g_sizes := PySem.W.mg_of X G asizes, b_sizes := ((fun_mk (st := s_sizes) lsizes csizes ksizes).binds (ps := ["marks", "word"]) (fun _ _ _ _ _ _ us hl => match us, hl with | [_, _], _ => rfl)), f_numbers_in := fnumbers_in, fd_numbers_in := _, F_numbers_in := fun_mk (st := s_numbers_in) lnumbers_in cnumbers_in knumbers_in, g_numbers_in := PySem.W.mg_of X G anumbers_in, b_numbers_in := ((fun_mk (st := s_numbers_in) lnumbers_in cnumbers_in knumbers_in).binds (ps := ["marks", "word"]) (fun _ _ _ _ _ _ us hl => match us, hl with | [_, _], _ => rfl)), f_riffled := friffled, fd_riffled := _, F_riffled := fun_mk (st := s_riffled) lriffled criffled kriffled, g_riffled := PySem.W.mg_of X G ariffled, b_riffled := ((fun_mk (st := s_riffled) lriffled criffled kriffled).binds (ps := ["order", "marks", "word"]) (fun _ _ _ _ _ _ us hl => match us, hl with | [_, _, _], _ => rfl)), f_are_marks := fare_marks, fd_are_marks := _, F_are_marks := fun_mk (st := s_are_marks) lare_marks care_marks kare_marks, g_are_marks := PySem.W.mg_of X G aare_marks, b_are_marks := ((fun_mk (st := s_are_marks) lare_marks care_marks kare_marks).binds (ps := ["marks"]) (fun _ _ _ _ _ _ us hl => match us, hl with | [_], _ => rfl)), f_Pack_riffle := fPack_riffle, fd_Pack_riffle := _, F_Pack_riffle := fun_mk (st := s_Pack_riffle) lPack_riffle cPack_riffle kPack_riffle, m_Pack_riffle := ⟨aPack_riffle, iPack_riffle, kPack_riffle⟩, b_Pack_riffle := ((fun_mk (st := s_Pack_riffle) lPack_riffle cPack_riffle kPack_riffle).binds (ps := ["self", "marks", "word"]) (fun _ _ _ _ _ _ us hl => match us, hl with | [_, _, _], _ => rfl)), f_law_riffled := flaw_riffled, fd_law_riffled := _, F_law_riffled := fun_mk (st := s_law_riffled) llaw_riffled claw_riffled klaw_riffled, g_law_riffled := PySem.W.mg_of X G alaw_riffled, b_law_riffled := ((fun_mk (st := s_law_riffled) llaw_riffled claw_riffled klaw_riffled).binds (ps := ["_law_order_here", "_law_marks_here", "_law_word_here"]) (fun _ _ _ _ _ _ us hl => match us, hl with | [_, _, _], _ => rfl)), f_check := fcheck, fd_check := _, F_check := fun_mk (st := s_check) lcheck ccheck kcheck, g_check := PySem.W.mg_of X G acheck, b_check := ((fun_mk (st := s_check) lcheck ccheck kcheck).binds (ps := ["marks", "word", "n"]) (fun _ _ _ _ _ _ us hl => match us, hl with | [_, _, _], _ => rfl)), f_turned_about := fturned_about, fd_turned_about := _, F_turned_about := fun_mk (st := s_turned_about) lturned_about cturned_about kturned_about, g_turned_about := PySem.W.mg_of X G aturned_about, b_turned_about := ((fun_mk (st := s_turned_about) lturned_about cturned_about kturned_about).binds (ps := ["marks", "others", "heap", "other"]) (fun _ _ _ _ _ _ us hl => match us, hl with | [_, _, _, _], _ => rfl)), f_joined := fjoined, fd_joined := _, F_joined := fun_mk (st := s_joined) ljoined cjoined kjoined, g_joined := PySem.W.mg_of X G ajoined, b_joined := ((fun_mk (st := s_joined) ljoined cjoined kjoined).binds (ps := ["marks", "word", "others", "more"]) (fun _ _ _ _ _ _ us hl => match us, hl with | [_, _, _, _], _ => rfl)), f_joined_marks := fjoined_marks, fd_joined_marks := _, F_joined_marks := fun_mk (st := s_joined_marks) ljoined_marks cjoined_marks kjoined_marks, g_joined_marks := PySem.W.mg_of X G ajoined_marks, b_joined_marks := ((fun_mk (st := s_joined_marks) ljoined_marks cjoined_marks kjoined_marks).binds (ps := ["marks", "others"]) (fun _ _ _ _ _ _ us hl => match us, hl with | [_, _], _ => rfl)), f_Pack_whole := fPack_whole, fd_Pack_whole := _, F_Pack_whole := fun_mk (st := s_Pack_whole) lPack_whole cPack_whole kPack_whole, m_Pack_whole := ⟨aPack_whole, iPack_whole, kPack_whole⟩, b_Pack_whole := ((fun_mk (st := s_Pack_whole) lPack_whole cPack_whole kPack_whole).binds (ps := ["self"]) (fun _ _ _ _ _ _ us hl => match us, hl with | [_], _ => rfl)), f_law_is := flaw_is, fd_law_is := _, F_law_is := fun_mk (st := s_law_is) llaw_is claw_is klaw_is, g_law_is := PySem.W.mg_of X G alaw_is, b_law_is := ((fun_mk (st := s_law_is) llaw_is claw_is klaw_is).binds (ps := ["_law_marks_here", "_law_word_here", "_law_many", "_law_n"]) (fun _ _ _ _ _ _ us hl => match us, hl with | [_, _, _, _], _ => rfl)), f_law_leads := flaw_leads, fd_law_leads := _, F_law_leads := fun_mk (st := s_law_leads) llaw_leads claw_leads klaw_leads, g_law_leads := PySem.W.mg_of X G alaw_leads, b_law_leads := ((fun_mk (st := s_law_leads) llaw_leads claw_leads klaw_leads).binds (ps := ["_law_pack", "_law_order_here", "_law_many"]) (fun _ _ _ _ _ _ us hl => match us, hl with | [_, _, _], _ => rfl)), f_law_joined := flaw_joined, fd_law_joined := _, F_law_joined := fun_mk (st := s_law_joined) llaw_joined claw_joined klaw_joined, g_law_joined := PySem.W.mg_of X G alaw_joined, b_law_joined := ((fun_mk (st := s_law_joined) llaw_joined claw_joined klaw_joined).binds (ps := ["_law_past", "_law_n"]) (fun _ _ _ _ _ _ us hl => match us, hl with | [_, _], _ => rfl)), f_law_refused := flaw_refused, fd_law_refused := _, F_law_refused := fun_mk (st := s_law_refused) llaw_refused claw_refused klaw_refused, g_law_refused := PySem.W.mg_of X G alaw_refused, b_law_refused := ((fun_mk (st := s_law_refused) llaw_refused claw_refused klaw_refused).binds (ps := ["_law_pack"]) (fun _ _ _ _ _ _ us hl => match us, hl with | [_], _ => rfl)), f_Pack_order := fPack_order, fd_Pack_order := _, F_Pack_order := fun_mk (st := s_Pack_order) lPack_order cPack_order kPack_order, m_Pack_order := ⟨aPack_order, iPack_order, kPack_order⟩, b_Pack_order := ((fun_mk (st := s_Pack_order) lPack_order cPack_order kPack_order).binds (ps := ["self"]) (fun _ _ _ _ _ _ us hl => match us, hl with | [_], _ => rfl)), f_law_told := flaw_told, fd_law_told := _, F_law_told := fun_mk (st := s_law_told) llaw_told claw_told klaw_told, g_law_told := PySem.W.mg_of X G alaw_told, b_law_told := ((fun_mk (st := s_law_told) llaw_told claw_told klaw_told).binds (ps := ["_law_pack", "_law_orders", "_law_past"]) (fun _ _ _ _ _ _ us hl => match us, hl with | [_, _, _], _ => rfl)), f_law_rim := flaw_rim, fd_law_rim := _, F_law_rim := fun_mk (st := s_law_rim) llaw_rim claw_rim klaw_rim, g_law_rim := PySem.W.mg_of X G alaw_rim, b_law_rim := ((fun_mk (st := s_law_rim) llaw_rim claw_rim klaw_rim).binds (ps := ["_law_n", "_law_head"]) (fun _ _ _ _ _ _ us hl => match us, hl with | [_, _], _ => rfl)), f_undone := fundone, fd_undone := _, F_undone := fun_mk (st := s_undone) lundone cundone kundone, g_undone := PySem.W.mg_of X G aundone, b_undone := ((fun_mk (st := s_undone) lundone cundone kundone).binds (ps := ["order", "marks", "word"]) (fun _ _ _ _ _ _ us hl => match us, hl with | [_, _, _], _ => rfl)), f_Pack_undo := fPack_undo, fd_Pack_undo := _, F_Pack_undo := fun_mk (st := s_Pack_undo) lPack_undo cPack_undo kPack_undo, m_Pack_undo := ⟨aPack_undo, iPack_undo, kPack_undo⟩, b_Pack_undo := ((fun_mk (st := s_Pack_undo) lPack_undo cPack_undo kPack_undo).binds (ps := ["self"]) (fun _ _ _ _ _ _ us hl => match us, hl with | [_], _ => rfl)), f_law_mixed := flaw_mixed, fd_law_mixed := _, F_law_mixed := fun_mk (st := s_law_mixed) llaw_mixed claw_mixed klaw_mixed, g_law_mixed := PySem.W.mg_of X G alaw_mixed, b_law_mixed := ((fun_mk (st := s_law_mixed) llaw_mixed claw_mixed klaw_mixed).binds (ps := ["_law_cell", "_law_k"]) (fun _ _ _ _ _ _ us hl => match us, hl with | [_, _], _ => rfl)), f_law_marks := flaw_marks, fd_law_marks := _, F_law_marks := fun_mk (st := s_law_marks) llaw_marks claw_marks klaw_marks, g_law_marks := PySem.W.mg_of X G alaw_marks, b_law_marks := ((fun_mk (st := s_law_marks) llaw_marks claw_marks klaw_marks).binds (ps := ["_law_cell", "_law_most"]) (fun _ _ _ _ _ _ us hl => match us, hl with | [_, _], _ => rfl)), f_law_word := flaw_word, fd_law_word := _, F_law_word := fun_mk (st := s_law_word) llaw_word claw_word klaw_word, g_law_word := PySem.W.mg_of X G alaw_word, b_law_word := ((fun_mk (st := s_law_word) llaw_word claw_word klaw_word).binds (ps := ["_law_cell", "_law_heaps", "_law_n"]) (fun _ _ _ _ _ _ us hl => match us, hl with | [_, _, _], _ => rfl)), f_law := fa, fd_law := _, F_law := fun_mk (st := s_law) llaw claw klaw, g_law := PySem.W.mg_of X G alaw, b_law := ((fun_mk (st := s_law) llaw claw klaw).binds (ps := ["_law_script"]) (fun _ _ _ _ _ _ us hl => match us, hl with | [_], _ => rfl)), u_HEAPS := _, c_HEAPS := PySem.W.mg_of X G z_HEAPS, r_HEAPS := ⟨_, rfl⟩, u_MOST := _, c_MOST := PySem.W.mg_of X G z_MOST, r_MOST := ⟨_, rfl⟩, m_abs := PySem.W.mg_none_of X G z_abs, m_all := PySem.W.mg_none_of X G z_all, m_bool := PySem.W.mg_none_of X G z_bool, m_enumerate := PySem.W.mg_none_of X G z_enumerate, m_int := PySem.W.mg_none_of X G z_int, m_isinstance := PySem.W.mg_none_of X G z_isinstance, m_len := PySem.W.mg_none_of X G z_len, m_list := PySem.W.mg_none_of X G z_list, m_min := PySem.W.mg_none_of X G z_min, m_range := PySem.W.mg_none_of X G z_range, m_reversed := PySem.W.mg_none_of X G z_reversed, m_tuple := PySem.W.mg_none_of X G z_tuple, m_zip := PySem.W.mg_none_of X G z_zip, C_RiftError := CRiftError, X_RiftError := ⟨PySem.W.mg_of X G xaRiftError, xkRiftError, xeRiftError, ⟨xhgRiftError, xhkRiftError, xhsRiftError, xhdRiftError, xhaRiftError, xhnRiftError, xhtRiftError, xhmRiftError⟩, xtyRiftError, xveRiftError⟩, C_NoPack := CNoPack, X_NoPack := ⟨PySem.W.mg_of X G xaNoPack, xkNoPack, xeNoPack, ⟨xhgNoPack, xhkNoPack, xhsNoPack, xhdNoPack, xhaNoPack, xhnNoPack, xhtNoPack, xhmNoPack⟩, xtyNoPack, xveNoPack⟩, C_NoMarks := CNoMarks, X_NoMarks := ⟨PySem.W.mg_of X G xaNoMarks, xkNoMarks, xeNoMarks, ⟨xhgNoMarks, xhkNoMarks, xhsNoMarks, xhdNoMarks, xhaNoMarks, xhnNoMarks, xhtNoMarks, xhmNoMarks⟩, xtyNoMarks, xveNoMarks⟩, C_NoRiffle := CNoRiffle, X_NoRiffle := ⟨PySem.W.mg_of X G xaNoRiffle, xkNoRiffle, xeNoRiffle, ⟨xhgNoRiffle, xhkNoRiffle, xhsNoRiffle, xhdNoRiffle, xhaNoRiffle, xhnNoRiffle, xhtNoRiffle, xhmNoRiffle⟩, xtyNoRiffle, xveNoRiffle⟩, C_NoWay := CNoWay, X_NoWay := ⟨PySem.W.mg_of X G xaNoWay, xkNoWay, xeNoWay, ⟨xhgNoWay, xhkNoWay, xhsNoWay, xhdNoWay, xhaNoWay, xhnNoWay, xhtNoWay, xhmNoWay⟩, xtyNoWay, xveNoWay⟩, C_TooMany := CTooMany, X_TooMany := ⟨PySem.W.mg_of X G xaTooMany, xkTooMany, xeTooMany, ⟨xhgTooMany, xhkTooMany, xhsTooMany, xhdTooMany, xhaTooMany, xhnTooMany, xhtTooMany, xhmTooMany⟩, xtyTooMany, xveTooMany⟩, C_NoFigures := CNoFigures, X_NoFigures := ⟨PySem.W.mg_of X G xaNoFigures, xkNoFigures, xeNoFigures, ⟨xhgNoFigures, xhkNoFigures, xhsNoFigures, xhdNoFigures, xhaNoFigures, xhnNoFigures, xhtNoFigures, xhmNoFigures⟩, xtyNoFigures, xveNoFigures⟩, C_NoText := CNoText, X_NoText := ⟨PySem.W.mg_of X G xaNoText, xkNoText, xeNoText, ⟨xhgNoText, xhkNoText, xhsNoText, xhdNoText, xhaNoText, xhnNoText, xhtNoText, xhmNoText⟩, xtyNoText, xveNoText⟩, S_TooMany_NoFigures := yTooManyNoFigures, N_TooMany_NoFigures := zTooManyNoFigures, S_TooMany_NoMarks := yTooManyNoMarks, N_TooMany_NoMarks := zTooManyNoMarks, S_TooMany_NoPack := yTooManyNoPack, N_TooMany_NoPack := zTooManyNoPack, S_TooMany_NoRiffle := yTooManyNoRiffle, N_TooMany_NoRiffle := zTooManyNoRiffle, S_TooMany_NoText := yTooManyNoText, N_TooMany_NoText := zTooManyNoText, S_TooMany_NoWay := yTooManyNoWay, N_TooMany_NoWay := zTooManyNoWay, S_TooMany_RiftError := yTooManyRiftError, S_TooMany_TooMany := yTooManyTooMany }⟩
end Rc
open PySem PySem.W PyProof.Rows
set_option maxHeartbeats 0 in
theorem PySem.Challenge.cw_riftcarry_k42_whole_the_one_riffle_holds : PySem.Challenge.rw_riftcarry_k42_whole_the_one_riffle.Holds := by
  w_on; o_law; k_head; (case hw => w_witness2)
  k_fill
  refine L2.walk_of (l := PySem.Challenge.rw_riftcarry_k42_whole_the_one_riffle) (n := 63) (k := 10) (x := "_law_script") (CX := fun _ => L2.CX0) (sp := fun w => Rc.sp_law _) rfl (by decide) rfl ⟨rfl, by decide, by decide⟩ (fun w h Y => PySem.W.kIn_of Y) ?F (fun _ _ a ns hl _ hS => ⟨a, ns, rfl, hS, hl, fun _ _ e _ => by rw [e]⟩) (fun _ _ _ _ _ h => h)
  case F =>
    intro w mg fa h KX G hmg
    refine' Rc.all_mk KX G hmg ?waPack ?wpgPack ?whdPack ?wpoPack ?wsaPack ?wmkPack ?wkpPack ?wn_cardsPack ?wn_pastPack ?alaw_cell_at ?llaw_cell_at ?claw_cell_at ?klaw_cell_at ?afirst ?lfirst ?cfirst ?kfirst ?ais_whole ?lis_whole ?cis_whole ?kis_whole ?aPack___init ?iPack___init ?lPack___init ?cPack___init ?kPack___init ?ais_word ?lis_word ?cis_word ?kis_word ?amust_be_word ?lmust_be_word ?cmust_be_word ?kmust_be_word ?asizes ?lsizes ?csizes ?ksizes ?anumbers_in ?lnumbers_in ?cnumbers_in ?knumbers_in ?ariffled ?lriffled ?criffled ?kriffled ?aare_marks ?lare_marks ?care_marks ?kare_marks ?aPack_riffle ?iPack_riffle ?lPack_riffle ?cPack_riffle ?kPack_riffle ?alaw_riffled ?llaw_riffled ?claw_riffled ?klaw_riffled ?acheck ?lcheck ?ccheck ?kcheck ?aturned_about ?lturned_about ?cturned_about ?kturned_about ?ajoined ?ljoined ?cjoined ?kjoined ?ajoined_marks ?ljoined_marks ?cjoined_marks ?kjoined_marks ?aPack_whole ?iPack_whole ?lPack_whole ?cPack_whole ?kPack_whole ?alaw_is ?llaw_is ?claw_is ?klaw_is ?alaw_leads ?llaw_leads ?claw_leads ?klaw_leads ?alaw_joined ?llaw_joined ?claw_joined ?klaw_joined ?alaw_refused ?llaw_refused ?claw_refused ?klaw_refused ?aPack_order ?iPack_order ?lPack_order ?cPack_order ?kPack_order ?alaw_told ?llaw_told ?claw_told ?klaw_told ?alaw_rim ?llaw_rim ?claw_rim ?klaw_rim ?aundone ?lundone ?cundone ?kundone ?aPack_undo ?iPack_undo ?lPack_undo ?cPack_undo ?kPack_undo ?alaw_mixed ?llaw_mixed ?claw_mixed ?klaw_mixed ?alaw_marks ?llaw_marks ?claw_marks ?klaw_marks ?alaw_word ?llaw_word ?claw_word ?klaw_word ?alaw ?llaw ?claw ?klaw ?z_HEAPS ?z_MOST ?z_abs ?z_all ?z_bool ?z_enumerate ?z_int ?z_isinstance ?z_len ?z_list ?z_min ?z_range ?z_reversed ?z_tuple ?z_zip ?xaRiftError ?xkRiftError ?xeRiftError ?xhgRiftError ?xhkRiftError ?xhsRiftError ?xhdRiftError ?xhaRiftError ?xhnRiftError ?xhtRiftError ?xhmRiftError ?xtyRiftError ?xveRiftError ?xaNoPack ?xkNoPack ?xeNoPack ?xhgNoPack ?xhkNoPack ?xhsNoPack ?xhdNoPack ?xhaNoPack ?xhnNoPack ?xhtNoPack ?xhmNoPack ?xtyNoPack ?xveNoPack ?xaNoMarks ?xkNoMarks ?xeNoMarks ?xhgNoMarks ?xhkNoMarks ?xhsNoMarks ?xhdNoMarks ?xhaNoMarks ?xhnNoMarks ?xhtNoMarks ?xhmNoMarks ?xtyNoMarks ?xveNoMarks ?xaNoRiffle ?xkNoRiffle ?xeNoRiffle ?xhgNoRiffle ?xhkNoRiffle ?xhsNoRiffle ?xhdNoRiffle ?xhaNoRiffle ?xhnNoRiffle ?xhtNoRiffle ?xhmNoRiffle ?xtyNoRiffle ?xveNoRiffle ?xaNoWay ?xkNoWay ?xeNoWay ?xhgNoWay ?xhkNoWay ?xhsNoWay ?xhdNoWay ?xhaNoWay ?xhnNoWay ?xhtNoWay ?xhmNoWay ?xtyNoWay ?xveNoWay ?xaTooMany ?xkTooMany ?xeTooMany ?xhgTooMany ?xhkTooMany ?xhsTooMany ?xhdTooMany ?xhaTooMany ?xhnTooMany ?xhtTooMany ?xhmTooMany ?xtyTooMany ?xveTooMany ?xaNoFigures ?xkNoFigures ?xeNoFigures ?xhgNoFigures ?xhkNoFigures ?xhsNoFigures ?xhdNoFigures ?xhaNoFigures ?xhnNoFigures ?xhtNoFigures ?xhmNoFigures ?xtyNoFigures ?xveNoFigures ?xaNoText ?xkNoText ?xeNoText ?xhgNoText ?xhkNoText ?xhsNoText ?xhdNoText ?xhaNoText ?xhnNoText ?xhtNoText ?xhmNoText ?xtyNoText ?xveNoText ?yTooManyNoFigures ?zTooManyNoFigures ?yTooManyNoMarks ?zTooManyNoMarks ?yTooManyNoPack ?zTooManyNoPack ?yTooManyNoRiffle ?zTooManyNoRiffle ?yTooManyNoText ?zTooManyNoText ?yTooManyNoWay ?zTooManyNoWay ?yTooManyRiftError ?yTooManyTooMany
    (case waPack => k_is); (case wpgPack => k_is); (case whdPack => k_is); (case wpoPack => k_is); (case wsaPack => k_is); (case wmkPack => k_is); (case wkpPack => k_is); (case wn_cardsPack => k_is); (case wn_pastPack => k_is); (case alaw_cell_at => k_is); (case llaw_cell_at => k_is); (case claw_cell_at => k_is); (case klaw_cell_at => k_is); (case afirst => k_is); (case lfirst => k_is); (case cfirst => k_is); (case kfirst => k_is); (case ais_whole => k_is); (case lis_whole => k_is); (case cis_whole => k_is); (case kis_whole => k_is); (case aPack___init => k_is); (case iPack___init => k_is); (case lPack___init => k_is); (case cPack___init => k_is); (case kPack___init => k_is); (case ais_word => k_is); (case lis_word => k_is); (case cis_word => k_is); (case kis_word => k_is); (case amust_be_word => k_is); (case lmust_be_word => k_is); (case cmust_be_word => k_is); (case kmust_be_word => k_is); (case asizes => k_is); (case lsizes => k_is); (case csizes => k_is); (case ksizes => k_is); (case anumbers_in => k_is); (case lnumbers_in => k_is); (case cnumbers_in => k_is); (case knumbers_in => k_is); (case ariffled => k_is); (case lriffled => k_is); (case criffled => k_is); (case kriffled => k_is); (case aare_marks => k_is); (case lare_marks => k_is); (case care_marks => k_is); (case kare_marks => k_is); (case aPack_riffle => k_is); (case iPack_riffle => k_is); (case lPack_riffle => k_is); (case cPack_riffle => k_is); (case kPack_riffle => k_is); (case alaw_riffled => k_is); (case llaw_riffled => k_is); (case claw_riffled => k_is); (case klaw_riffled => k_is); (case acheck => k_is); (case lcheck => k_is); (case ccheck => k_is); (case kcheck => k_is); (case aturned_about => k_is); (case lturned_about => k_is); (case cturned_about => k_is); (case kturned_about => k_is); (case ajoined => k_is); (case ljoined => k_is); (case cjoined => k_is); (case kjoined => k_is); (case ajoined_marks => k_is); (case ljoined_marks => k_is); (case cjoined_marks => k_is); (case kjoined_marks => k_is); (case aPack_whole => k_is); (case iPack_whole => k_is); (case lPack_whole => k_is); (case cPack_whole => k_is); (case kPack_whole => k_is); (case alaw_is => k_is); (case llaw_is => k_is); (case claw_is => k_is); (case klaw_is => k_is); (case alaw_leads => k_is); (case llaw_leads => k_is); (case claw_leads => k_is); (case klaw_leads => k_is); (case alaw_joined => k_is); (case llaw_joined => k_is); (case claw_joined => k_is); (case klaw_joined => k_is); (case alaw_refused => k_is); (case llaw_refused => k_is); (case claw_refused => k_is); (case klaw_refused => k_is); (case aPack_order => k_is); (case iPack_order => k_is); (case lPack_order => k_is); (case cPack_order => k_is); (case kPack_order => k_is); (case alaw_told => k_is); (case llaw_told => k_is); (case claw_told => k_is); (case klaw_told => k_is); (case alaw_rim => k_is); (case llaw_rim => k_is); (case claw_rim => k_is); (case klaw_rim => k_is); (case aundone => k_is); (case lundone => k_is); (case cundone => k_is); (case kundone => k_is); (case aPack_undo => k_is); (case iPack_undo => k_is); (case lPack_undo => k_is); (case cPack_undo => k_is); (case kPack_undo => k_is); (case alaw_mixed => k_is); (case llaw_mixed => k_is); (case claw_mixed => k_is); (case klaw_mixed => k_is); (case alaw_marks => k_is); (case llaw_marks => k_is); (case claw_marks => k_is); (case klaw_marks => k_is); (case alaw_word => k_is); (case llaw_word => k_is); (case claw_word => k_is); (case klaw_word => k_is); (case alaw => k_is); (case llaw => k_is); (case claw => k_is); (case klaw => k_is); (case z_HEAPS => k_is); (case z_MOST => k_is); (case z_abs => k_is); (case z_all => k_is); (case z_bool => k_is); (case z_enumerate => k_is); (case z_int => k_is); (case z_isinstance => k_is); (case z_len => k_is); (case z_list => k_is); (case z_min => k_is); (case z_range => k_is); (case z_reversed => k_is); (case z_tuple => k_is); (case z_zip => k_is); (case xaRiftError => k_is); (case xkRiftError => k_is); (case xeRiftError => k_exc); (case xhgRiftError => k_is); (case xhkRiftError => k_is); (case xhsRiftError => k_is); (case xhdRiftError => k_is); (case xhaRiftError => k_is); (case xhnRiftError => k_is); (case xhtRiftError => k_is); (case xhmRiftError => k_is); (case xtyRiftError => k_is); (case xveRiftError => k_is); (case xaNoPack => k_is); (case xkNoPack => k_is); (case xeNoPack => k_exc); (case xhgNoPack => k_is); (case xhkNoPack => k_is); (case xhsNoPack => k_is); (case xhdNoPack => k_is); (case xhaNoPack => k_is); (case xhnNoPack => k_is); (case xhtNoPack => k_is); (case xhmNoPack => k_is); (case xtyNoPack => k_is); (case xveNoPack => k_is); (case xaNoMarks => k_is); (case xkNoMarks => k_is); (case xeNoMarks => k_exc); (case xhgNoMarks => k_is); (case xhkNoMarks => k_is); (case xhsNoMarks => k_is); (case xhdNoMarks => k_is); (case xhaNoMarks => k_is); (case xhnNoMarks => k_is); (case xhtNoMarks => k_is); (case xhmNoMarks => k_is); (case xtyNoMarks => k_is); (case xveNoMarks => k_is); (case xaNoRiffle => k_is); (case xkNoRiffle => k_is); (case xeNoRiffle => k_exc); (case xhgNoRiffle => k_is); (case xhkNoRiffle => k_is); (case xhsNoRiffle => k_is); (case xhdNoRiffle => k_is); (case xhaNoRiffle => k_is); (case xhnNoRiffle => k_is); (case xhtNoRiffle => k_is); (case xhmNoRiffle => k_is); (case xtyNoRiffle => k_is); (case xveNoRiffle => k_is); (case xaNoWay => k_is); (case xkNoWay => k_is); (case xeNoWay => k_exc); (case xhgNoWay => k_is); (case xhkNoWay => k_is); (case xhsNoWay => k_is); (case xhdNoWay => k_is); (case xhaNoWay => k_is); (case xhnNoWay => k_is); (case xhtNoWay => k_is); (case xhmNoWay => k_is); (case xtyNoWay => k_is); (case xveNoWay => k_is); (case xaTooMany => k_is); (case xkTooMany => k_is); (case xeTooMany => k_exc); (case xhgTooMany => k_is); (case xhkTooMany => k_is); (case xhsTooMany => k_is); (case xhdTooMany => k_is); (case xhaTooMany => k_is); (case xhnTooMany => k_is); (case xhtTooMany => k_is); (case xhmTooMany => k_is); (case xtyTooMany => k_is); (case xveTooMany => k_is); (case xaNoFigures => k_is); (case xkNoFigures => k_is); (case xeNoFigures => k_exc); (case xhgNoFigures => k_is); (case xhkNoFigures => k_is); (case xhsNoFigures => k_is); (case xhdNoFigures => k_is); (case xhaNoFigures => k_is); (case xhnNoFigures => k_is); (case xhtNoFigures => k_is); (case xhmNoFigures => k_is); (case xtyNoFigures => k_is); (case xveNoFigures => k_is); (case xaNoText => k_is); (case xkNoText => k_is); (case xeNoText => k_exc); (case xhgNoText => k_is); (case xhkNoText => k_is); (case xhsNoText => k_is); (case xhdNoText => k_is); (case xhaNoText => k_is); (case xhnNoText => k_is); (case xhtNoText => k_is); (case xhmNoText => k_is); (case xtyNoText => k_is); (case xveNoText => k_is); (case yTooManyNoFigures => k_is); (case zTooManyNoFigures => decide); (case yTooManyNoMarks => k_is); (case zTooManyNoMarks => decide); (case yTooManyNoPack => k_is); (case zTooManyNoPack => decide); (case yTooManyNoRiffle => k_is); (case zTooManyNoRiffle => decide); (case yTooManyNoText => k_is); (case zTooManyNoText => decide); (case yTooManyNoWay => k_is); (case zTooManyNoWay => decide); (case yTooManyRiftError => k_is); (case yTooManyTooMany => k_is)
