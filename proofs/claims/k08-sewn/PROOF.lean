import PyProof.Rows.All
import Wide.All
import OpenK.AllK
import Wide.FinOn
import HandS.Base
import HandS.Call
import HandS.List
import HandS.Comp
import HandS.Ends
import HandS.Dict
import HandS.Iter
import HandS.Text
import HandS.Words
import HandS.WordsList
import HandS.Conv
import HandS.NoneIn
import PySem.Challenge.RW_squaresheet_k08_whole_sewn_together
import KE.GoesEnum
import HandS.Walk
import HandS.SortInts
import KE.SortData
import KE.KIndexOf
import PyProof.TupleOfSeq
import HandS.IsInst
import HandS.Exc
import HandS.ExcInit
import HandS.WordsExc
import HandS.Evl
import HandS.ExcField
set_option Elab.async false
set_option linter.all false
set_option maxRecDepth 100000
set_option maxHeartbeats 8000000
/-! The plain mathematics of two rows of squares: what is reached, what an exchange joins. -/
namespace Sq

theorem pigeon : ∀ (l1 l2 : List Nat), l1.Nodup → (∀ x ∈ l1, x ∈ l2) → l1.length ≤ l2.length
  | [], l2, _, _ => Nat.zero_le _
  | x :: t, l2, hn, hs => by
    have hx : x ∈ l2 := hs x List.mem_cons_self
    have nd := List.nodup_cons.mp hn
    have h := pigeon t (l2.erase x) nd.2 (fun y hy => by
      have hne : y ≠ x := fun e => nd.1 (e ▸ hy)
      exact (List.mem_erase_of_ne hne).mpr (hs y (List.mem_cons_of_mem _ hy)))
    rw [List.length_erase_of_mem hx] at h
    have hp : 0 < l2.length := List.length_pos_of_mem hx
    rw [List.length_cons]
    omega
theorem pigeon_eq {l1 l2 : List Nat} (hn : l1.Nodup) (hs : ∀ x ∈ l1, x ∈ l2) (hl : l2.length ≤ l1.length) {y : Nat} (hy : y ∈ l2) : y ∈ l1 := by
  refine Classical.byContradiction fun h => ?_
  have q := pigeon (y :: l1) l2 (List.nodup_cons.mpr ⟨h, hn⟩) (fun x hx => by
    rcases List.mem_cons.mp hx with rfl | more
    · exact hy
    · exact hs x more)
  rw [List.length_cons] at q
  omega

theorem nd_filter {l : List Nat} (p : Nat → Bool) (h : l.Nodup) : (l.filter p).Nodup := by
  rw [List.nodup_iff_pairwise_ne] at h ⊢
  exact h.filter _

/-- the entry at k -/
def g (r : List Nat) (k : Nat) : Nat := r.getD k 0
theorem g_get {r : List Nat} {k x : Nat} (h : r[k]? = some x) : g r k = x := by
  unfold g
  rw [List.getD_eq_getElem?_getD, h]
  rfl
theorem get_g {r : List Nat} {k : Nat} (h : k < r.length) : r[k]? = some (g r k) := by
  unfold g
  rw [List.getD_eq_getElem?_getD, List.getElem?_eq_getElem h]
  rfl
theorem g_mem {r : List Nat} {k : Nat} (h : k < r.length) : g r k ∈ r := List.mem_of_getElem? (get_g h)
theorem mem_g {r : List Nat} {x : Nat} (h : x ∈ r) : ∃ k, k < r.length ∧ g r k = x := by
  obtain ⟨k, hk, e⟩ := List.mem_iff_getElem.mp h
  exact ⟨k, hk, g_get (by rw [List.getElem?_eq_getElem hk, e])⟩
theorem nd_g {r : List Nat} (hn : r.Nodup) {i j : Nat} (hi : i < r.length) (hj : j < r.length) (e : g r i = g r j) : i = j := by
  have a := get_g hi
  have b := get_g hj
  rw [List.getElem?_eq_getElem hi] at a
  rw [List.getElem?_eq_getElem hj] at b
  have a' := Option.some.inj a
  have b' := Option.some.inj b
  exact (List.getElem_inj hn).mp (by rw [a', b', e])
theorem nd_of_g {r : List Nat} (h : ∀ i j, i < r.length → j < r.length → g r i = g r j → i = j) : r.Nodup := by
  rw [List.nodup_iff_pairwise_ne, List.pairwise_iff_getElem]
  intro i j hi hj hij e
  have := h i j hi hj (by rw [g_get (List.getElem?_eq_getElem hi), g_get (List.getElem?_eq_getElem hj), e])
  omega
theorem ext_g {r s : List Nat} (hl : r.length = s.length) (h : ∀ k, k < r.length → g r k = g s k) : r = s := by
  apply List.ext_getElem? 
  intro k
  by_cases hk : k < r.length
  · rw [get_g hk, get_g (hl ▸ hk), h k hk]
  · rw [List.getElem?_eq_none (by omega), List.getElem?_eq_none (by omega)]

/-- each of 0 .. n - 1 once -/
structure Pm (n : Nat) (r : List Nat) : Prop where
  len : r.length = n
  lt : ∀ x ∈ r, x < n
  nd : r.Nodup
theorem Pm.glt {n : Nat} {r : List Nat} (p : Pm n r) {k : Nat} (h : k < n) : g r k < n := p.lt _ (g_mem (by rw [p.len]; exact h))
theorem Pm.inj {n : Nat} {r : List Nat} (p : Pm n r) {i j : Nat} (hi : i < n) (hj : j < n) (e : g r i = g r j) : i = j :=
  nd_g p.nd (by rw [p.len]; exact hi) (by rw [p.len]; exact hj) e
theorem Pm.of {n : Nat} {r : List Nat} (hl : r.length = n) (h1 : ∀ k, k < n → g r k < n) (h2 : ∀ i j, i < n → j < n → g r i = g r j → i = j) : Pm n r where
  len := hl
  lt := fun x hx => by
    obtain ⟨k, hk, e⟩ := mem_g hx
    rw [← e]
    exact h1 k (by omega)
  nd := nd_of_g fun i j hi hj e => h2 i j (by omega) (by omega) e
theorem Pm.mem {n : Nat} {r : List Nat} (p : Pm n r) {x : Nat} (h : x < n) : x ∈ r :=
  pigeon_eq (l2 := List.range n) p.nd (fun y hy => List.mem_range.mpr (p.lt y hy)) (by rw [List.length_range, p.len]; exact Nat.le_refl _) (List.mem_range.mpr h)
theorem Pm.onto {n : Nat} {r : List Nat} (p : Pm n r) {x : Nat} (h : x < n) : ∃ k, k < n ∧ g r k = x := by
  obtain ⟨k, hk, e⟩ := mem_g (p.mem h)
  exact ⟨k, by rw [← p.len]; exact hk, e⟩
theorem Pm.range (n : Nat) : Pm n (List.range n) := ⟨List.length_range, fun x hx => List.mem_range.mp hx, List.nodup_range⟩
theorem g_range {n k : Nat} (h : k < n) : g (List.range n) k = k := g_get (by rw [List.getElem?_range h])
theorem Pm.of_perm {n : Nat} {r : List Nat} (h : r.Perm (List.range n)) : Pm n r :=
  ⟨by rw [h.length_eq, List.length_range], fun x hx => List.mem_range.mp (h.mem_iff.mp hx), h.nodup_iff.mpr List.nodup_range⟩

/-- what is reached from a, going right and up -/
inductive Reach (r u : List Nat) (a : Nat) : Nat → Prop
  | refl : Reach r u a a
  | rt {x : Nat} : Reach r u a x → Reach r u a (g r x)
  | up {x : Nat} : Reach r u a x → Reach r u a (g u x)
theorem Reach.trans {r u : List Nat} {a b c : Nat} (h : Reach r u a b) (k : Reach r u b c) : Reach r u a c := by
  induction k with
  | refl => exact h
  | rt _ ih => exact .rt ih
  | up _ ih => exact .up ih
theorem Reach.swap {r u : List Nat} {a b : Nat} (h : Reach r u a b) : Reach u r a b := by
  induction h with
  | refl => exact .refl
  | rt _ ih => exact .up ih
  | up _ ih => exact .rt ih
theorem Reach.lt {n : Nat} {r u : List Nat} {a b : Nat} (h : Reach r u a b) (pr : Pm n r) (pu : Pm n u) (ha : a < n) : b < n := by
  induction h with
  | refl => exact ha
  | rt _ ih => exact pr.glt ih
  | up _ ih => exact pu.glt ih
theorem Reach.closed {r u : List Nat} {a b : Nat} {S : Nat → Prop} (h : Reach r u a b) (ha : S a) (hr : ∀ x, S x → S (g r x)) (hu : ∀ x, S x → S (g u x)) : S b := by
  induction h with
  | refl => exact ha
  | rt _ ih => exact hr _ ih
  | up _ ih => exact hu _ ih
open Classical in
/-- what a permutation does not lead out of it does not lead into -/
theorem back_of {n : Nat} {r : List Nat} (pr : Pm n r) {S : Nat → Prop} (hc : ∀ x, x < n → S x → S (g r x)) {z : Nat} (hz : z < n) (h : S (g r z)) : S z := by
  let L := (List.range n).filter fun x => decide (S x)
  have memL : ∀ x, x ∈ L ↔ x < n ∧ S x := fun x => by
    show x ∈ (List.range n).filter _ ↔ _
    rw [List.mem_filter, List.mem_range, decide_eq_true_iff]
  have hn : (L.map (g r)).Nodup := by
    have nL : L.Nodup := nd_filter _ List.nodup_range
    rw [List.nodup_iff_pairwise_ne, List.pairwise_map]
    rw [List.nodup_iff_pairwise_ne] at nL
    exact nL.imp_of_mem fun {x y} hx hy hne e => hne (pr.inj ((memL x).mp hx).1 ((memL y).mp hy).1 e)
  have hs : ∀ x ∈ L.map (g r), x ∈ L := fun x hx => by
    obtain ⟨y, yL, rfl⟩ := List.mem_map.mp hx
    have q := (memL y).mp yL
    exact (memL _).mpr ⟨pr.glt q.1, hc y q.1 q.2⟩
  have hm : g r z ∈ L.map (g r) := pigeon_eq hn hs (by rw [List.length_map]; exact Nat.le_refl _) ((memL _).mpr ⟨pr.glt hz, h⟩)
  obtain ⟨y, hy, e⟩ := List.mem_map.mp hm
  have q := (memL y).mp hy
  rw [← pr.inj q.1 hz e]
  exact q.2
theorem Reach.symm {n : Nat} {r u : List Nat} {a b : Nat} (h : Reach r u a b) (pr : Pm n r) (pu : Pm n u) (ha : a < n) : Reach r u b a := by
  have key : ∀ x, Reach r u a x → x < n ∧ (∀ S : Nat → Prop, (∀ y, S y → S (g r y)) → (∀ y, S y → S (g u y)) → S x → S a) := by
    intro x hx
    induction hx with
    | refl => exact ⟨ha, fun S _ _ h => h⟩
    | rt _ ih => exact ⟨pr.glt ih.1, fun S hr hu h => ih.2 S hr hu (back_of pr (fun y _ => hr y) ih.1 h)⟩
    | up _ ih => exact ⟨pu.glt ih.1, fun S hr hu h => ih.2 S hr hu (back_of pu (fun y _ => hu y) ih.1 h)⟩
  exact (key b h).2 (fun x => Reach r u b x) (fun _ => .rt) (fun _ => .up) .refl

/-! ### the exchange -/
def sw (l : List Nat) (a b : Nat) : List Nat := (l.set a (g l b)).set b (g l a)
theorem g_set {l : List Nat} {a v k : Nat} (h : k < l.length) : g (l.set a v) k = if k = a then v else g l k := by
  by_cases e : k = a
  · subst e
    rw [if_pos rfl]
    exact g_get (List.getElem?_set_self h)
  · rw [if_neg e]
    exact g_get (by rw [List.getElem?_set_ne (fun q => e q.symm), get_g h])
theorem sw_len {l : List Nat} {a b : Nat} : (sw l a b).length = l.length := by
  unfold sw
  rw [List.length_set, List.length_set]
theorem g_sw {l : List Nat} {a b k : Nat} (h : k < l.length) : g (sw l a b) k = if k = b then g l a else if k = a then g l b else g l k := by
  unfold sw
  rw [g_set (by rw [List.length_set]; exact h), g_set h]
theorem sw_sw {l : List Nat} {a b : Nat} (ha : a < l.length) (hb : b < l.length) : sw (sw l a b) a b = l := by
  refine ext_g (by rw [sw_len, sw_len]) fun k hk => ?_
  rw [sw_len, sw_len] at hk
  rw [g_sw (by rw [sw_len]; exact hk), g_sw ha, g_sw hb, g_sw hk]
  by_cases h1 : k = b
  · subst h1
    by_cases h2 : a = k
    · subst h2; simp
    · simp [h2]
  · by_cases h2 : k = a
    · subst h2; simp [h1]
    · simp [h1, h2]
theorem Pm.sw {n : Nat} {l : List Nat} (p : Pm n l) {a b : Nat} (ha : a < n) (hb : b < n) : Pm n (sw l a b) := by
  have hl : (Sq.sw l a b).length = n := by rw [sw_len, p.len]
  have ga : ∀ k, k < n → g (Sq.sw l a b) k = g l (if k = b then a else if k = a then b else k) := fun k hk => by
    rw [g_sw (by rw [p.len]; exact hk)]
    split
    · rfl
    · split <;> rfl
  have lt : ∀ k, k < n → (if k = b then a else if k = a then b else k) < n := fun k hk => by
    split
    · exact ha
    · split
      · exact hb
      · exact hk
  refine .of hl (fun k hk => ?_) fun i j hi hj e => ?_
  · rw [ga k hk]
    exact p.glt (lt k hk)
  · rw [ga i hi, ga j hj] at e
    have q := p.inj (lt i hi) (lt j hj) e
    split at q <;> split at q <;> (try split at q) <;> (try split at q) <;> omega

/-- two rows whose squares fall into two groups, A (with 0) and B, each rising -/
structure Two (n : Nat) (r u A B : List Nat) : Prop where
  pr : Pm n r
  pu : Pm n u
  cov : ∀ x, x < n ↔ x ∈ A ∨ x ∈ B
  dis : ∀ x, x ∈ A → x ∈ B → False
  sa : A.Pairwise (· < ·)
  sb : B.Pairwise (· < ·)
  a0 : 0 ∈ A
  bne : B ≠ []
  ra : ∀ x, x ∈ A → ∀ y, y ∈ A ↔ Reach r u x y
  rb : ∀ x, x ∈ B → ∀ y, y ∈ B ↔ Reach r u x y
theorem Two.swap {n : Nat} {r u A B : List Nat} (t : Two n r u A B) : Two n u r A B :=
  ⟨t.pu, t.pr, t.cov, t.dis, t.sa, t.sb, t.a0, t.bne, fun x hx y => ⟨fun h => ((t.ra x hx y).mp h).swap, fun h => (t.ra x hx y).mpr h.swap⟩, fun x hx y => ⟨fun h => ((t.rb x hx y).mp h).swap, fun h => (t.rb x hx y).mpr h.swap⟩⟩
theorem Two.alt {n : Nat} {r u A B : List Nat} (t : Two n r u A B) {x : Nat} (h : x ∈ A) : x < n := (t.cov x).mpr (.inl h)
theorem Two.blt {n : Nat} {r u A B : List Nat} (t : Two n r u A B) {x : Nat} (h : x ∈ B) : x < n := (t.cov x).mpr (.inr h)

open Classical in
/-- an exchange of what is at the right of a square of A and of one of B joins both -/
theorem Two.join {n : Nat} {r u A B : List Nat} (t : Two n r u A B) {a b : Nat} (ha : a ∈ A) (hb : b ∈ B) {x : Nat} (hx : x < n) : Reach (sw r a b) u 0 x := by
  let S : Nat → Prop := fun y => Reach (sw r a b) u 0 y
  have an := t.alt ha
  have bn := t.blt hb
  have nab : a ≠ b := fun e => t.dis a ha (e ▸ hb)
  have p' := t.pr.sw an bn
  have h0 : 0 < n := t.alt t.a0
  have slt : ∀ y, S y → y < n := fun y h => Reach.lt h p' t.pu h0
  have rl : r.length = n := t.pr.len
  have gne : ∀ y, y < n → y ≠ a → y ≠ b → g (sw r a b) y = g r y := fun y hy h1 h2 => by
    rw [g_sw (by rw [rl]; exact hy), if_neg h2, if_neg h1]
  have ga : g (sw r a b) a = g r b := by rw [g_sw (by rw [rl]; exact an), if_neg nab, if_pos rfl]
  have gb : g (sw r a b) b = g r a := by rw [g_sw (by rw [rl]; exact bn), if_pos rfl]
  have sr : ∀ y, S y → S (g (sw r a b) y) := fun y h => .rt h
  have su : ∀ y, S y → S (g u y) := fun y h => .up h
  have rB : ∀ y, y ∈ B → g r y ∈ B := fun y hy => (t.rb y hy _).mpr (.rt .refl)
  have step : S a → S b := by
    intro hSa
    refine Classical.byContradiction fun hSb => ?_
    let L := (List.range n).filter fun y => decide (y ∈ B ∧ S y)
    have memL : ∀ y, y ∈ L ↔ y ∈ B ∧ S y := fun y => by
      show y ∈ (List.range n).filter _ ↔ _
      rw [List.mem_filter, List.mem_range, decide_eq_true_iff]
      exact ⟨fun h => h.2, fun h => ⟨t.blt h.1, h⟩⟩
    have aL : a ∉ L := fun h => t.dis a ha ((memL a).mp h).1
    have nL : (a :: L).Nodup := List.nodup_cons.mpr ⟨aL, nd_filter _ List.nodup_range⟩
    have ltL : ∀ y ∈ a :: L, y < n := fun y hy => by
      rcases List.mem_cons.mp hy with rfl | more
      · exact an
      · exact t.blt ((memL y).mp more).1
    have hn : ((a :: L).map (g (sw r a b))).Nodup := by
      rw [List.nodup_iff_pairwise_ne, List.pairwise_map]
      rw [List.nodup_iff_pairwise_ne] at nL
      exact nL.imp_of_mem fun {x y} hx hy hne e => hne (p'.inj (ltL x hx) (ltL y hy) e)
    have hs : ∀ y ∈ (a :: L).map (g (sw r a b)), y ∈ L := fun y hy => by
      obtain ⟨z, hz, rfl⟩ := List.mem_map.mp hy
      rcases List.mem_cons.mp hz with rfl | more
      · refine (memL _).mpr ⟨?_, sr _ hSa⟩
        rw [ga]
        exact rB b hb
      · have q := (memL z).mp more
        refine (memL _).mpr ⟨?_, sr _ q.2⟩
        have z1 : z ≠ a := fun e => t.dis a ha (e ▸ q.1)
        have z2 : z ≠ b := fun e => hSb (e ▸ q.2)
        rw [gne z (t.blt q.1) z1 z2]
        exact rB z q.1
    have q := pigeon _ _ hn hs
    rw [List.length_map, List.length_cons] at q
    omega
  have hA : ∀ y, y ∈ A → S y := by
    intro y hy
    have hr := (t.ra 0 t.a0 y).mp hy
    have : S y ∧ y ∈ A := Reach.closed (S := fun y => S y ∧ y ∈ A) hr ⟨.refl, t.a0⟩ (fun z hz => by
      have zA : g r z ∈ A := (t.ra z hz.2 _).mpr (.rt .refl)
      refine ⟨?_, zA⟩
      by_cases e : z = a
      · subst e
        rw [← gb]
        exact sr _ (step hz.1)
      · have z2 : z ≠ b := fun e => t.dis z hz.2 (e ▸ hb)
        rw [← gne z (t.alt hz.2) e z2]
        exact sr _ hz.1) (fun z hz => ⟨su _ hz.1, (t.ra z hz.2 _).mpr (.up .refl)⟩)
    exact this.1
  have hSa : S a := hA a ha
  have hSb : S b := step hSa
  have hB : ∀ y, y ∈ B → S y := by
    intro y hy
    have hr := (t.rb b hb y).mp hy
    have : S y ∧ y ∈ B := Reach.closed (S := fun y => S y ∧ y ∈ B) hr ⟨hSb, hb⟩ (fun z hz => by
      refine ⟨?_, rB z hz.2⟩
      by_cases e : z = b
      · subst e
        rw [← ga]
        exact sr _ hSa
      · have z2 : z ≠ a := fun e => t.dis a ha (e ▸ hz.2)
        rw [← gne z (t.blt hz.2) z2 e]
        exact sr _ hz.1) (fun z hz => ⟨su _ hz.1, (t.rb z hz.2 _).mpr (.up .refl)⟩)
    exact this.1
  rcases (t.cov x).mp hx with h | h
  · exact hA x h
  · exact hB x h
theorem Two.joinU {n : Nat} {r u A B : List Nat} (t : Two n r u A B) {a b : Nat} (ha : a ∈ A) (hb : b ∈ B) {x : Nat} (hx : x < n) : Reach r (sw u a b) 0 x := (t.swap.join ha hb hx).swap

/-! ### rising lists -/
theorem rise_ext : ∀ {l m : List Nat}, l.Pairwise (· < ·) → m.Pairwise (· < ·) → (∀ x, x ∈ l ↔ x ∈ m) → l = m
  | [], [], _, _, _ => rfl
  | [], y :: m, _, _, h => absurd ((h y).mpr List.mem_cons_self) (by simp)
  | x :: l, [], _, _, h => absurd ((h x).mp List.mem_cons_self) (by simp)
  | x :: l, y :: m, up1, up2, h => by
    have a := List.pairwise_cons.mp up1
    have b := List.pairwise_cons.mp up2
    have e : x = y := by
      rcases List.mem_cons.mp ((h x).mp List.mem_cons_self) with e | q
      · exact e
      · rcases List.mem_cons.mp ((h y).mpr List.mem_cons_self) with e | q'
        · exact e.symm
        · have := b.1 x q
          have := a.1 y q'
          omega
    subst e
    rw [rise_ext a.2 b.2 fun z => ⟨fun hz => by
      rcases List.mem_cons.mp ((h z).mp (List.mem_cons_of_mem _ hz)) with e | q
      · have := a.1 z hz
        omega
      · exact q, fun hz => by
      rcases List.mem_cons.mp ((h z).mpr (List.mem_cons_of_mem _ hz)) with e | q
      · have := b.1 z hz
        omega
      · exact q⟩]
theorem rise_of {l : List Nat} (hs : l.Pairwise (· ≤ ·)) (hn : l.Nodup) : l.Pairwise (· < ·) := by
  rw [List.nodup_iff_pairwise_ne] at hn
  exact (List.pairwise_and_iff.mpr ⟨hs, hn⟩).imp fun {a b} h => by
    have h1 := h.1
    have h2 := h.2
    omega
theorem range_rise (n : Nat) : (List.range n).Pairwise (· < ·) := List.pairwise_lt_range
/-- the least one stands first -/
theorem rise_first {l : List Nat} (hs : l.Pairwise (· < ·)) {k : Nat} (hk : k < l.length) : g l 0 ≤ g l k := by
  cases l with
  | nil => simp at hk
  | cons x t =>
    cases k with
    | zero => exact Nat.le_refl _
    | succ k =>
      have hk' : k < t.length := by rw [List.length_cons] at hk; omega
      have e : g (x :: t) (k + 1) = g t k := by
        unfold g
        rfl
      rw [e]
      exact Nat.le_of_lt ((List.pairwise_cons.mp hs).1 _ (g_mem hk'))

/-! ### the groups -/
open Classical in
noncomputable def cls (n : Nat) (r u : List Nat) (x : Nat) : List Nat := (List.range n).filter fun y => decide (Reach r u x y)
open Classical in
theorem mem_cls {n : Nat} {r u : List Nat} {x y : Nat} : y ∈ cls n r u x ↔ y < n ∧ Reach r u x y := by
  unfold cls
  rw [List.mem_filter, List.mem_range, decide_eq_true_iff]
theorem cls_rise {n : Nat} {r u : List Nat} {x : Nat} : (cls n r u x).Pairwise (· < ·) := List.Pairwise.filter _ (range_rise n)
theorem cls_of {n : Nat} {r u l : List Nat} {x : Nat} (hs : l.Pairwise (· < ·)) (h : ∀ y, y ∈ l ↔ y < n ∧ Reach r u x y) : l = cls n r u x :=
  rise_ext hs cls_rise fun y => by rw [h y, mem_cls]
noncomputable def grStep (n : Nat) (r u : List Nat) (gs : List (List Nat)) (x : Nat) : List (List Nat) := if x ∈ gs.flatten then gs else gs ++ [cls n r u x]
noncomputable def gr (n : Nat) (r u : List Nat) (i : Nat) : List (List Nat) := (List.range i).foldl (grStep n r u) []
theorem gr_zero {n : Nat} {r u : List Nat} : gr n r u 0 = [] := rfl
theorem gr_succ {n : Nat} {r u : List Nat} {i : Nat} : gr n r u (i + 1) = grStep n r u (gr n r u i) i := by
  unfold gr
  rw [List.range_succ, List.foldl_append]; rfl
theorem gr_whole {n : Nat} {r u : List Nat} (h : ∀ x, x < n → Reach r u 0 x) : ∀ i, 1 ≤ i → i ≤ n → gr n r u i = [List.range n] := by
  have e0 : cls n r u 0 = List.range n := (cls_of (range_rise n) fun y => by
    rw [List.mem_range]
    exact ⟨fun q => ⟨q, h y q⟩, fun q => q.1⟩).symm
  intro i
  induction i with
  | zero => intro h1 _; omega
  | succ i ih =>
    intro _ h2
    rw [gr_succ]
    by_cases hi : i = 0
    · subst hi
      rw [gr_zero]
      unfold grStep
      rw [if_neg (by simp), e0]
      rfl
    · rw [ih (by omega) (by omega)]
      unfold grStep
      rw [if_pos]
      rw [List.flatten_cons, List.flatten_nil, List.append_nil, List.mem_range]
      omega
theorem Two.gr {n : Nat} {r u A B : List Nat} (t : Two n r u A B) : gr n r u n = [A, B] := by
  have eA : cls n r u 0 = A := (cls_of t.sa fun y => ⟨fun q => ⟨t.alt q, (t.ra 0 t.a0 y).mp q⟩, fun q => (t.ra 0 t.a0 y).mpr q.2⟩).symm
  have eB : ∀ x, x ∈ B → cls n r u x = B := fun x hx => (cls_of t.sb fun y => ⟨fun q => ⟨t.blt q, (t.rb x hx y).mp q⟩, fun q => (t.rb x hx y).mpr q.2⟩).symm
  have key : ∀ i, 1 ≤ i → i ≤ n → ((∀ x, x < i → x ∈ A) ∧ Sq.gr n r u i = [A]) ∨ ((∃ x, x < i ∧ x ∈ B) ∧ Sq.gr n r u i = [A, B]) := by
    intro i
    induction i with
    | zero => intro h1 _; omega
    | succ i ih =>
      intro _ h2
      rw [gr_succ]
      by_cases hi : i = 0
      · subst hi
        refine .inl ⟨fun x hx => ?_, ?_⟩
        · have : x = 0 := by omega
          rw [this]
          exact t.a0
        · rw [gr_zero]
          unfold grStep
          rw [if_neg (by simp), eA]
          rfl
      · rcases ih (by omega) (by omega) with ⟨h, e⟩ | ⟨⟨x, hx, hxB⟩, e⟩
        · rw [e]
          unfold grStep
          rcases (t.cov i).mp (by omega) with q | q
          · refine .inl ⟨fun x hx => ?_, ?_⟩
            · by_cases c : x = i
              · rw [c]; exact q
              · exact h x (by omega)
            · rw [if_pos]
              rw [List.flatten_cons, List.flatten_nil, List.append_nil]
              exact q
          · refine .inr ⟨⟨i, by omega, q⟩, ?_⟩
            rw [if_neg, eB i q]
            · rfl
            · rw [List.flatten_cons, List.flatten_nil, List.append_nil]
              exact fun z => t.dis i z q
        · refine .inr ⟨⟨x, by omega, hxB⟩, ?_⟩
          rw [e]
          unfold grStep
          rw [if_pos]
          rw [List.flatten_cons, List.flatten_cons, List.flatten_nil, List.append_nil, List.mem_append]
          exact (t.cov i).mp (by omega)
  have hn : 1 ≤ n := t.alt t.a0
  rcases key n hn (Nat.le_refl _) with ⟨h, _⟩ | ⟨_, e⟩
  · exfalso
    obtain ⟨b, hb⟩ := List.exists_mem_of_ne_nil B t.bne
    exact t.dis b (h b (t.blt hb)) hb
  · exact e
/-- the first square of B is the least that 0 does not reach -/
theorem Two.lacks {n : Nat} {r u A B : List Nat} (t : Two n r u A B) {x : Nat} (hx : x < n) (h1 : ¬ Reach r u 0 x) (h2 : ∀ y, y < x → Reach r u 0 y) : x = g B 0 := by
  have hB : 0 < B.length := List.length_pos_iff.mpr t.bne
  have b0 : g B 0 ∈ B := g_mem hB
  have xB : x ∈ B := by
    rcases (t.cov x).mp hx with q | q
    · exact absurd ((t.ra 0 t.a0 x).mp q) h1
    · exact q
  obtain ⟨k, hk, e⟩ := mem_g xB
  have le := rise_first t.sb hk
  rw [e] at le
  rcases Nat.lt_or_ge (g B 0) x with q | q
  · exact absurd b0 (fun z => t.dis _ ((t.ra 0 t.a0 _).mpr (h2 _ q)) z)
  · omega
theorem Two.apart {n : Nat} {r u A B : List Nat} (t : Two n r u A B) : ∃ x, x < n ∧ ¬ Reach r u 0 x := by
  obtain ⟨b, hb⟩ := List.exists_mem_of_ne_nil B t.bne
  exact ⟨b, t.blt hb, fun h => t.dis b ((t.ra 0 t.a0 b).mpr h) hb⟩

/-! ### walking on: what one meets -/
/-- the list of the met so far, the first i of them looked at -/
structure MetI (r u : List Nat) (x i : Nat) (ms : List Nat) : Prop where
  nd : ms.Nodup
  re : ∀ y ∈ ms, Reach r u x y
  fst : x ∈ ms
  cl : ∀ j, j < i → g r (g ms j) ∈ ms ∧ g u (g ms j) ∈ ms
  le : i ≤ ms.length
theorem MetI.start (r u : List Nat) (x : Nat) : MetI r u x 0 [x] :=
  ⟨by simp, fun y hy => by rw [List.mem_singleton.mp hy]; exact .refl, List.mem_singleton.mpr rfl, fun j h => absurd h (Nat.not_lt_zero j), Nat.zero_le _⟩
theorem g_app {l m : List Nat} {k : Nat} (h : k < l.length) : g (l ++ m) k = g l k := g_get (by rw [List.getElem?_append_left h, get_g h])
theorem MetI.add {r u : List Nat} {x i : Nat} {ms : List Nat} (m : MetI r u x i ms) {z : Nat} (hz : z ∉ ms) (h : Reach r u x z) : MetI r u x i (ms ++ [z]) where
  nd := by
    refine List.nodup_append.mpr ⟨m.nd, by simp, fun a ha b hb e => ?_⟩
    rw [List.mem_singleton.mp hb] at e
    exact hz (e ▸ ha)
  re := fun y hy => by
    rcases List.mem_append.mp hy with q | q
    · exact m.re y q
    · rw [List.mem_singleton.mp q]; exact h
  fst := List.mem_append_left _ m.fst
  cl := fun j hj => by
    have q := m.cl j hj
    have hl := m.le
    rw [g_app (by omega)]
    exact ⟨List.mem_append_left _ q.1, List.mem_append_left _ q.2⟩
  le := by
    have hl := m.le
    rw [List.length_append]
    omega
theorem MetI.next {r u : List Nat} {x i : Nat} {ms : List Nat} (m : MetI r u x i ms) (hi : i < ms.length) (h1 : g r (g ms i) ∈ ms) (h2 : g u (g ms i) ∈ ms) : MetI r u x (i + 1) ms :=
  ⟨m.nd, m.re, m.fst, fun j hj => by
    by_cases e : j = i
    · subst e; exact ⟨h1, h2⟩
    · exact m.cl j (by omega), hi⟩
theorem MetI.all {r u : List Nat} {x i : Nat} {ms : List Nat} (m : MetI r u x i ms) (hi : ms.length ≤ i) (y : Nat) : y ∈ ms ↔ Reach r u x y := by
  refine ⟨m.re y, fun h => Reach.closed (S := fun z => z ∈ ms) h m.fst (fun z hz => ?_) fun z hz => ?_⟩
  · obtain ⟨k, hk, e⟩ := mem_g hz
    rw [← e]
    exact (m.cl k (by omega)).1
  · obtain ⟨k, hk, e⟩ := mem_g hz
    rw [← e]
    exact (m.cl k (by omega)).2
theorem MetI.len {n : Nat} {r u : List Nat} {x i : Nat} {ms : List Nat} (m : MetI r u x i ms) (pr : Pm n r) (pu : Pm n u) (hx : x < n) : ms.length ≤ n := by
  have q := pigeon ms (List.range n) m.nd fun y hy => List.mem_range.mpr ((m.re y hy).lt pr pu hx)
  rw [List.length_range] at q
  exact q
/-- the inner turn: of the two next squares the first j are among the met -/
structure MetJ (r u : List Nat) (x i : Nat) (ms : List Nat) (y j : Nat) (ms' : List Nat) : Prop where
  m : MetI r u x i ms'
  ge : ms.length ≤ ms'.length
  pre : ∀ k, k < ms.length → g ms' k = g ms k
  h1 : 1 ≤ j → g r y ∈ ms'
  h2 : 2 ≤ j → g u y ∈ ms'
theorem MetJ.start {r u : List Nat} {x i : Nat} {ms : List Nat} (m : MetI r u x i ms) (y : Nat) : MetJ r u x i ms y 0 ms :=
  ⟨m, Nat.le_refl _, fun _ _ => rfl, fun h => absurd h (by omega), fun h => absurd h (by omega)⟩
/-- the j-th of the two -/
def two (r u : List Nat) (y j : Nat) : Nat := if j = 0 then g r y else g u y
theorem MetJ.has {r u : List Nat} {x i : Nat} {ms ms' : List Nat} {y j : Nat} (m : MetJ r u x i ms y j ms') (hj : j < 2) (h : two r u y j ∈ ms') : MetJ r u x i ms y (j + 1) ms' := by
  refine ⟨m.m, m.ge, m.pre, fun h1 => ?_, fun h2 => ?_⟩
  · by_cases e : j = 0
    · subst e; exact h
    · exact m.h1 (by omega)
  · have e : j = 1 := by omega
    subst e; exact h
theorem MetJ.add {r u : List Nat} {x i : Nat} {ms ms' : List Nat} {y j : Nat} (m : MetJ r u x i ms y j ms') (hj : j < 2) (hy : Reach r u x y) (h : two r u y j ∉ ms') : MetJ r u x i ms y (j + 1) (ms' ++ [two r u y j]) := by
  have ge := m.ge
  have m' : MetJ r u x i ms y j (ms' ++ [two r u y j]) := by
    refine ⟨m.m.add h ?_, ?_, fun k hk => ?_, fun q => List.mem_append_left _ (m.h1 q), fun q => List.mem_append_left _ (m.h2 q)⟩
    · unfold two
      split
      · exact .rt hy
      · exact .up hy
    · rw [List.length_append]; omega
    · rw [g_app (by omega)]
      exact m.pre k hk
  exact m'.has hj (List.mem_append_right _ (List.mem_singleton.mpr rfl))
theorem MetJ.out {r u : List Nat} {x i : Nat} {ms ms' : List Nat} (m : MetJ r u x i ms (g ms i) 2 ms') (hi : i < ms.length) : MetI r u x (i + 1) ms' := by
  have ge := m.ge
  refine m.m.next (by omega) ?_ ?_
  · rw [m.pre i hi]; exact m.h1 (by omega)
  · rw [m.pre i hi]; exact m.h2 (by omega)
end Sq
namespace Sq
/-! ### the row turned round -/
def inv (n : Nat) (r : List Nat) : List Nat := (List.range n).map fun x => r.idxOf x
theorem inv_len {n : Nat} {r : List Nat} : (inv n r).length = n := by
  unfold inv; rw [List.length_map, List.length_range]
theorem g_inv {n : Nat} {r : List Nat} {x : Nat} (h : x < n) : g (inv n r) x = r.idxOf x := by
  refine g_get ?_
  unfold inv
  rw [List.getElem?_map, List.getElem?_range h]
  rfl
theorem idx_lt {n : Nat} {r : List Nat} (p : Pm n r) {x : Nat} (h : x < n) : r.idxOf x < n := by
  have q := List.idxOf_lt_length_iff.mpr (p.mem h)
  rw [p.len] at q
  exact q
theorem g_idx {n : Nat} {r : List Nat} (p : Pm n r) {x : Nat} (h : x < n) : g r (r.idxOf x) = x := by
  refine g_get ?_
  have q := List.idxOf_lt_length_iff.mpr (p.mem h)
  rw [List.getElem?_eq_getElem q, List.getElem_idxOf q]
theorem idx_g {n : Nat} {r : List Nat} (p : Pm n r) {k : Nat} (h : k < n) : r.idxOf (g r k) = k :=
  p.inj (idx_lt p (p.glt h)) h (g_idx p (p.glt h))
theorem inv_of {n : Nat} {r l : List Nat} (p : Pm n r) (hl : l.length = n) (h : ∀ k, k < n → g l (g r k) = k) : l = inv n r := by
  refine ext_g (by rw [hl, inv_len]) fun x hx => ?_
  have hx' : x < n := by omega
  rw [g_inv hx']
  have q := h _ (idx_lt p hx')
  rw [g_idx p hx'] at q
  exact q
end Sq
namespace Sq
/-! ### the groups, one by one -/
theorem gr_cls {n : Nat} {r u : List Nat} : ∀ i, ∀ l ∈ gr n r u i, ∃ z, z < i ∧ l = cls n r u z := by
  intro i
  induction i with
  | zero => intro l hl; rw [gr_zero] at hl; simp at hl
  | succ i ih =>
    intro l hl
    rw [gr_succ] at hl
    unfold grStep at hl
    split at hl
    · obtain ⟨z, hz, e⟩ := ih l hl
      exact ⟨z, by omega, e⟩
    · rcases List.mem_append.mp hl with q | q
      · obtain ⟨z, hz, e⟩ := ih l q
        exact ⟨z, by omega, e⟩
      · exact ⟨i, by omega, List.mem_singleton.mp q⟩
theorem gr_new {n : Nat} {r u : List Nat} (pr : Pm n r) (pu : Pm n u) {i x y : Nat} (hi : i ≤ n) (hx : x < n) (h : x ∉ (gr n r u i).flatten) (hy : y ∈ cls n r u x) : y ∉ (gr n r u i).flatten := fun q => by
  obtain ⟨l, hl, hyl⟩ := List.mem_flatten.mp q
  obtain ⟨z, hz, rfl⟩ := gr_cls i l hl
  have a := mem_cls.mp hy
  have b := mem_cls.mp hyl
  exact h (List.mem_flatten.mpr ⟨_, hl, mem_cls.mpr ⟨hx, b.2.trans (a.2.symm pr pu hx)⟩⟩)
theorem cls_nd {n : Nat} {r u : List Nat} {x : Nat} : (cls n r u x).Nodup := by
  unfold cls
  exact nd_filter _ List.nodup_range
theorem gr_nd {n : Nat} {r u : List Nat} (pr : Pm n r) (pu : Pm n u) : ∀ i, i ≤ n → (gr n r u i).flatten.Nodup := by
  intro i
  induction i with
  | zero => intro _; rw [gr_zero]; simp
  | succ i ih =>
    intro hi
    rw [gr_succ]
    unfold grStep
    split
    · exact ih (by omega)
    · rename_i h
      rw [List.flatten_append, List.flatten_cons, List.flatten_nil, List.append_nil]
      refine List.nodup_append.mpr ⟨ih (by omega), cls_nd, fun a ha b hb e => ?_⟩
      exact gr_new pr pu (by omega) (by omega) h hb (e ▸ ha)
theorem gr_lt {n : Nat} {r u : List Nat} {i x : Nat} (h : x ∈ (gr n r u i).flatten) : x < n := by
  obtain ⟨l, hl, hx⟩ := List.mem_flatten.mp h
  obtain ⟨z, hz, rfl⟩ := gr_cls i l hl
  exact (mem_cls.mp hx).1
theorem len_of_lt {n : Nat} {l : List Nat} (hn : l.Nodup) (h : ∀ x ∈ l, x < n) : l.length ≤ n := by
  have q := pigeon l (List.range n) hn fun x hx => List.mem_range.mpr (h x hx)
  rw [List.length_range] at q
  exact q
theorem gr_flen {n : Nat} {r u : List Nat} (pr : Pm n r) (pu : Pm n u) {i : Nat} (hi : i ≤ n) : (gr n r u i).flatten.length ≤ n := len_of_lt (gr_nd pr pu i hi) fun _ h => gr_lt h
theorem gr_len {n : Nat} {r u : List Nat} : ∀ i, (gr n r u i).length ≤ i := by
  intro i
  induction i with
  | zero => rw [gr_zero]; exact Nat.le_refl _
  | succ i ih =>
    rw [gr_succ]
    unfold grStep
    split
    · omega
    · rw [List.length_append]; simp only [List.length_singleton]; omega
/-- what sorted gives of squares -/
theorem sorted_nat {ns : List Int} {ms : List Nat} (hp : ns.Perm (ms.map fun n : Nat => (n : Int))) (hs : ns.Pairwise (· ≤ ·)) (hn : ms.Nodup) : ∃ l : List Nat, ns = l.map (fun n : Nat => (n : Int)) ∧ l.Perm ms ∧ l.Pairwise (· < ·) := by
  have hnn : ∀ z ∈ ns, ((z.toNat : Nat) : Int) = z := fun z hz => by
    obtain ⟨m, _, e⟩ := List.mem_map.mp (hp.mem_iff.mp hz)
    omega
  have e : ns = (ns.map Int.toNat).map fun n : Nat => (n : Int) := by
    rw [List.map_map]
    conv => lhs; rw [← List.map_id ns]
    exact List.map_congr_left fun z hz => (hnn z hz).symm
  have hpm : (ns.map Int.toNat).Perm ms := by
    have q := hp.map Int.toNat
    rw [List.map_map] at q
    have e2 : (ms.map (Int.toNat ∘ fun n : Nat => (n : Int))) = ms := by
      conv => rhs; rw [← List.map_id ms]
      exact List.map_congr_left fun z _ => by show ((z : Int)).toNat = z; omega
    rw [e2] at q
    exact q
  refine ⟨ns.map Int.toNat, e, hpm, rise_of ?_ (hpm.nodup_iff.mpr hn)⟩
  rw [List.pairwise_map]
  exact hs.imp_of_mem fun {a b} ha hb h => by
    have h1 := hnn a ha
    have h2 := hnn b hb
    omega
theorem rise_perm {l ms : List Nat} {n : Nat} {r u : List Nat} {x : Nat} (hp : l.Perm ms) (hs : l.Pairwise (· < ·)) (hx : ∀ y, y ∈ ms ↔ Reach r u x y) (pr : Pm n r) (pu : Pm n u) (h : x < n) : l = cls n r u x :=
  cls_of hs fun y => by
    rw [hp.mem_iff, hx]
    exact ⟨fun q => ⟨q.lt pr pu h, q⟩, fun q => q.2⟩
end Sq
namespace Sq
/-! ### paths: letters 0 .. 3 lead right, left, up, down -/
def rowk (n : Nat) (r u : List Nat) (k : Nat) : List Nat := if k = 0 then r else if k = 1 then inv n r else if k = 2 then u else inv n u
def stp (n : Nat) (r u : List Nat) (k x : Nat) : Nat := g (rowk n r u k) x
theorem rowk_len {n : Nat} {r u : List Nat} (pr : Pm n r) (pu : Pm n u) (k : Nat) : (rowk n r u k).length = n := by
  unfold rowk
  split
  · exact pr.len
  · split
    · exact inv_len
    · split
      · exact pu.len
      · exact inv_len
theorem stp_lt {n : Nat} {r u : List Nat} (pr : Pm n r) (pu : Pm n u) {k x : Nat} (h : x < n) : stp n r u k x < n := by
  unfold stp rowk
  split
  · exact pr.glt h
  · split
    · rw [g_inv h]; exact idx_lt pr h
    · split
      · exact pu.glt h
      · rw [g_inv h]; exact idx_lt pu h
def walkW (n : Nat) (r u : List Nat) (x : Nat) (w : List Nat) : Nat := w.foldl (fun y k => stp n r u k y) x
theorem walkW_snoc {n : Nat} {r u : List Nat} {x : Nat} {w : List Nat} {k : Nat} : walkW n r u x (w ++ [k]) = stp n r u k (walkW n r u x w) := by
  unfold walkW
  rw [List.foldl_append]
  rfl
theorem walkW_lt {n : Nat} {r u : List Nat} (pr : Pm n r) (pu : Pm n u) : ∀ (w : List Nat) {x : Nat}, x < n → walkW n r u x w < n
  | [], _, h => h
  | k :: w, _, h => walkW_lt pr pu w (stp_lt pr pu h)
theorem walkW_take {n : Nat} {r u : List Nat} {x : Nat} {w : List Nat} {i : Nat} (h : i < w.length) : walkW n r u x (w.take (i + 1)) = stp n r u (g w i) (walkW n r u x (w.take i)) := by
  rw [List.take_add_one, get_g h]
  exact walkW_snoc
structure PathI (n : Nat) (r u : List Nat) (x i : Nat) (ws : List Nat) (pf : Nat → List Nat) : Prop where
  nd : ws.Nodup
  lt : ∀ y ∈ ws, y < n
  fst : x ∈ ws
  le : i ≤ ws.length
  ok : ∀ j, j < ws.length → (pf (g ws j)).length ≤ j ∧ (∀ k ∈ pf (g ws j), k < 4) ∧ walkW n r u x (pf (g ws j)) = g ws j
  cl : ∀ j, j < i → ∀ k, k < 4 → stp n r u k (g ws j) ∈ ws
theorem PathI.start {n : Nat} {r u : List Nat} {x : Nat} (h : x < n) : PathI n r u x 0 [x] fun _ => [] :=
  ⟨by simp, fun y hy => by rw [List.mem_singleton.mp hy]; exact h, List.mem_singleton.mpr rfl, Nat.zero_le _, fun j hj => by
    have e : j = 0 := by rw [List.length_singleton] at hj; omega
    subst e
    exact ⟨Nat.le_refl _, fun k hk => (by simp at hk), rfl⟩, fun j hj => absurd hj (Nat.not_lt_zero j)⟩
theorem PathI.len {n : Nat} {r u : List Nat} {x i : Nat} {ws : List Nat} {pf : Nat → List Nat} (p : PathI n r u x i ws pf) : ws.length ≤ n := len_of_lt p.nd p.lt
/-- while other isn't among them there is one to look at -/
theorem PathI.more {n : Nat} {r u : List Nat} {x y i : Nat} {ws : List Nat} {pf : Nat → List Nat} (p : PathI n r u x i ws pf) (hy : y ∉ ws) (hr : Reach r u x y) : i < ws.length := by
  rcases Nat.lt_or_ge i ws.length with c | c
  · exact c
  · exfalso
    refine hy (Reach.closed (S := fun z => z ∈ ws) hr p.fst (fun z hz => ?_) fun z hz => ?_)
    · obtain ⟨j, hj, e⟩ := mem_g hz
      have q := p.cl j (by omega) 0 (by omega)
      rw [e] at q
      exact q
    · obtain ⟨j, hj, e⟩ := mem_g hz
      have q := p.cl j (by omega) 2 (by omega)
      rw [e] at q
      exact q
theorem PathI.out {n : Nat} {r u : List Nat} {x y i : Nat} {ws : List Nat} {pf : Nat → List Nat} (p : PathI n r u x i ws pf) (hy : y ∈ ws) : (pf y).length < n ∧ (∀ k ∈ pf y, k < 4) ∧ walkW n r u x (pf y) = y := by
  obtain ⟨j, hj, e⟩ := mem_g hy
  have q := p.ok j hj
  have hl := p.len
  rw [e] at q
  exact ⟨by omega, q.2.1, q.2.2⟩
/-- the inner turn -/
structure PathJ (n : Nat) (r u : List Nat) (x i : Nat) (ws : List Nat) (j : Nat) (ws' : List Nat) (pf : Nat → List Nat) : Prop where
  p : PathI n r u x i ws' pf
  ge : ws.length ≤ ws'.length
  pre : ∀ m, m < ws.length → g ws' m = g ws m
  has : ∀ k, k < j → stp n r u k (g ws i) ∈ ws'
theorem PathJ.start {n : Nat} {r u : List Nat} {x i : Nat} {ws : List Nat} {pf : Nat → List Nat} (p : PathI n r u x i ws pf) : PathJ n r u x i ws 0 ws pf :=
  ⟨p, Nat.le_refl _, fun _ _ => rfl, fun k hk => absurd hk (Nat.not_lt_zero k)⟩
theorem PathJ.old {n : Nat} {r u : List Nat} {x i : Nat} {ws ws' : List Nat} {j : Nat} {pf : Nat → List Nat} (p : PathJ n r u x i ws j ws' pf) (h : stp n r u j (g ws i) ∈ ws') : PathJ n r u x i ws (j + 1) ws' pf :=
  ⟨p.p, p.ge, p.pre, fun k hk => by
    by_cases e : k = j
    · rw [e]; exact h
    · exact p.has k (by omega)⟩
theorem PathJ.new {n : Nat} {r u : List Nat} (pr : Pm n r) (pu : Pm n u) {x i : Nat} {ws ws' : List Nat} {j : Nat} {pf : Nat → List Nat} (p : PathJ n r u x i ws j ws' pf) (hi : i < ws.length) (hj : j < 4) (h : stp n r u j (g ws i) ∉ ws') :
    PathJ n r u x i ws (j + 1) (ws' ++ [stp n r u j (g ws i)]) (fun y => if y = stp n r u j (g ws i) then pf (g ws i) ++ [j] else pf y) := by
  have ge := p.ge
  have epi : g ws' i = g ws i := p.pre i hi
  have hgi : g ws i ∈ ws' := by rw [← epi]; exact g_mem (by omega)
  have hlt : stp n r u j (g ws i) < n := stp_lt pr pu (p.p.lt _ hgi)
  have q : PathI n r u x i (ws' ++ [stp n r u j (g ws i)]) (fun y => if y = stp n r u j (g ws i) then pf (g ws i) ++ [j] else pf y) := by
    refine ⟨List.nodup_append.mpr ⟨p.p.nd, by simp, fun a ha b hb e => h (by rw [← List.mem_singleton.mp hb, ← e]; exact ha)⟩, fun y hy => ?_, List.mem_append_left _ p.p.fst, ?_, fun m hm => ?_, fun m hm k hk => ?_⟩
    · rcases List.mem_append.mp hy with c | c
      · exact p.p.lt y c
      · rw [List.mem_singleton.mp c]; exact hlt
    · have := p.p.le
      rw [List.length_append]; omega
    · rw [List.length_append, List.length_singleton] at hm
      by_cases c : m < ws'.length
      · rw [g_app c]
        have ne : ¬ g ws' m = stp n r u j (g ws i) := fun e => h (e ▸ g_mem c)
        simp only [if_neg ne]
        exact p.p.ok m c
      · have em : m = ws'.length := by omega
        subst em
        have eg : g (ws' ++ [stp n r u j (g ws i)]) ws'.length = stp n r u j (g ws i) := g_get (by rw [List.getElem?_append_right (Nat.le_refl _), Nat.sub_self]; rfl)
        rw [eg]
        simp only [if_pos]
        have o := p.p.ok i (by omega)
        rw [epi] at o
        refine ⟨?_, fun k hk => ?_, ?_⟩
        · rw [List.length_append]; simp only [List.length_singleton]; omega
        · rcases List.mem_append.mp hk with c2 | c2
          · exact o.2.1 k c2
          · rw [List.mem_singleton.mp c2]; exact hj
        · rw [walkW_snoc, o.2.2]
    · have := p.p.le
      rw [g_app (by omega)]
      exact List.mem_append_left _ (p.p.cl m hm k hk)
  refine PathJ.old ⟨q, by rw [List.length_append]; omega, fun m hm => by rw [g_app (by omega)]; exact p.pre m hm, fun k hk => List.mem_append_left _ (p.has k hk)⟩ (List.mem_append_right _ (List.mem_singleton.mpr rfl))
theorem PathJ.out {n : Nat} {r u : List Nat} {x i : Nat} {ws ws' : List Nat} {pf : Nat → List Nat} (p : PathJ n r u x i ws 4 ws' pf) (hi : i < ws.length) : PathI n r u x (i + 1) ws' pf := by
  have ge := p.ge
  refine ⟨p.p.nd, p.p.lt, p.p.fst, by omega, p.p.ok, fun j hj k hk => ?_⟩
  by_cases e : j = i
  · subst e
    rw [p.pre j hi]
    exact p.has k hk
  · exact p.p.cl j (by omega) k hk
end Sq
namespace Sq
/-! ### dealing: a list popped into another -/
theorem erase_perm : ∀ {l : List Nat} {k : Nat}, k < l.length → (g l k :: l.eraseIdx k).Perm l
  | x :: t, 0, _ => List.Perm.refl _
  | x :: t, k + 1, h => by
    have ih := erase_perm (l := t) (k := k) (by rw [List.length_cons] at h; omega)
    have e : g (x :: t) (k + 1) = g t k := rfl
    rw [e]
    show (g t k :: x :: t.eraseIdx k).Perm (x :: t)
    exact (List.Perm.swap x (g t k) _).trans (List.Perm.cons x ih)
  | [], k, h => absurd h (Nat.not_lt_zero k)
theorem pop_perm {ns ls l : List Nat} (h : (ns ++ ls).Perm l) {k : Nat} (hk : k < ls.length) : ((ns ++ [g ls k]) ++ ls.eraseIdx k).Perm l := by
  refine List.Perm.trans ?_ h
  rw [List.append_assoc]
  refine List.Perm.append_left ns ?_
  exact erase_perm hk
/-- a remainder as a place -/
theorem rest_at (z : Int) {n : Nat} (h : 0 < n) : ∃ j : Nat, j < n ∧ z % (n : Int) = (j : Int) := by
  have h1 := Int.emod_nonneg z (show (n : Int) ≠ 0 by omega)
  have h2 := Int.emod_lt_of_pos z (show (0 : Int) < (n : Int) by omega)
  exact ⟨(z % (n : Int)).toNat, by omega, by omega⟩
end Sq

/-! The law's own sheets: the squares that hang together numbered anew; two sheets side by side. -/
namespace Sq
structure ShOk (m : Nat) (r u : List Nat) : Prop where
  pr : Pm m r
  pu : Pm m u
  h1 : 1 ≤ m
  con : ∀ x, x < m → Reach r u 0 x
/-- the row r among the squares ms -/
def am (r ms : List Nat) : List Nat := ms.map fun x => ms.idxOf (g r x)
theorem am_len {r ms : List Nat} : (am r ms).length = ms.length := by unfold am; rw [List.length_map]
theorem g_am {r ms : List Nat} {k : Nat} (h : k < ms.length) : g (am r ms) k = ms.idxOf (g r (g ms k)) := by
  refine g_get ?_
  unfold am
  rw [List.getElem?_map, get_g h]
  rfl
theorem g_idxm {ms : List Nat} {x : Nat} (h : x ∈ ms) : g ms (ms.idxOf x) = x := by
  have q := List.idxOf_lt_length_iff.mpr h
  refine g_get ?_
  rw [List.getElem?_eq_getElem q, List.getElem_idxOf q]
theorem idxm_g {ms : List Nat} (hn : ms.Nodup) {k : Nat} (h : k < ms.length) : ms.idxOf (g ms k) = k :=
  nd_g hn (List.idxOf_lt_length_iff.mpr (g_mem h)) h (g_idxm (g_mem h))
theorem am_pm {n : Nat} {r ms : List Nat} (pr : Pm n r) (hn : ms.Nodup) (hlt : ∀ x ∈ ms, x < n) (hc : ∀ x ∈ ms, g r x ∈ ms) : Pm ms.length (am r ms) := by
  refine .of am_len (fun k hk => ?_) fun i j hi hj e => ?_
  · rw [g_am hk]
    exact List.idxOf_lt_length_iff.mpr (hc _ (g_mem hk))
  · rw [g_am hi, g_am hj] at e
    have q : g r (g ms i) = g r (g ms j) := by rw [← g_idxm (hc _ (g_mem hi)), ← g_idxm (hc _ (g_mem hj)), e]
    exact nd_g hn hi hj (pr.inj (hlt _ (g_mem hi)) (hlt _ (g_mem hj)) q)
theorem among_ok {n : Nat} {r u ms : List Nat} (pr : Pm n r) (pu : Pm n u) (h1 : 1 ≤ n) (e : ms = cls n r u 0) : ShOk ms.length (am r ms) (am u ms) := by
  have hm : ∀ x, x ∈ ms ↔ x < n ∧ Reach r u 0 x := fun x => by rw [e]; exact mem_cls
  have hn : ms.Nodup := by rw [e]; exact cls_nd
  have hs : ms.Pairwise (· < ·) := by rw [e]; exact cls_rise
  have h0 : 0 ∈ ms := (hm 0).mpr ⟨by omega, .refl⟩
  have hp : 0 < ms.length := List.length_pos_of_mem h0
  have g0 : g ms 0 = 0 := by
    obtain ⟨k, hk, ek⟩ := mem_g h0
    have q := rise_first hs hk
    omega
  have hlt : ∀ x ∈ ms, x < n := fun x hx => ((hm x).mp hx).1
  have cr : ∀ x ∈ ms, g r x ∈ ms := fun x hx => (hm _).mpr ⟨pr.glt (hlt x hx), .rt ((hm x).mp hx).2⟩
  have cu : ∀ x ∈ ms, g u x ∈ ms := fun x hx => (hm _).mpr ⟨pu.glt (hlt x hx), .up ((hm x).mp hx).2⟩
  refine ⟨am_pm pr hn hlt cr, am_pm pu hn hlt cu, hp, fun k hk => ?_⟩
  have key : ∀ x, Reach r u 0 x → x ∈ ms ∧ Reach (am r ms) (am u ms) 0 (ms.idxOf x) := by
    intro x hx
    induction hx with
    | refl =>
      refine ⟨h0, ?_⟩
      have q := idxm_g hn hp
      rw [g0] at q
      rw [q]
      exact .refl
    | @rt x _ ih =>
      refine ⟨cr x ih.1, ?_⟩
      have q := Reach.rt ih.2
      rw [g_am (List.idxOf_lt_length_iff.mpr ih.1), g_idxm ih.1] at q
      exact q
    | @up x _ ih =>
      refine ⟨cu x ih.1, ?_⟩
      have q := Reach.up ih.2
      rw [g_am (List.idxOf_lt_length_iff.mpr ih.1), g_idxm ih.1] at q
      exact q
  have q := (key _ ((hm _).mp (g_mem hk)).2).2
  rw [idxm_g hn hk] at q
  exact q

/-! ### two sheets side by side -/
/-- the rows of both, the second one's numbers behind the first one's -/
def rho (m : Nat) (r1 r2 : List Nat) : List Nat := r1 ++ r2.map fun x => m + x
theorem g_rho1 {m : Nat} {r1 r2 : List Nat} {k : Nat} (h : k < r1.length) : g (rho m r1 r2) k = g r1 k := g_app h
theorem g_rho2 {m : Nat} {r1 r2 : List Nat} {k : Nat} (h : k < r2.length) (hm : r1.length = m) : g (rho m r1 r2) (m + k) = m + g r2 k := by
  refine g_get ?_
  unfold rho
  rw [List.getElem?_append_right (by omega), show m + k - r1.length = k by omega, List.getElem?_map, get_g h]
  rfl
theorem rho_pm {m1 m2 : Nat} {r1 r2 : List Nat} (p1 : Pm m1 r1) (p2 : Pm m2 r2) : Pm (m1 + m2) (rho m1 r1 r2) := by
  have l1 := p1.len
  have l2 := p2.len
  refine .of (by unfold rho; rw [List.length_append, List.length_map]; omega) (fun k hk => ?_) fun i j hi hj e => ?_
  · by_cases c : k < m1
    · rw [g_rho1 (by omega)]
      have := p1.glt c
      omega
    · obtain ⟨k', rfl⟩ : ∃ k', k = m1 + k' := ⟨k - m1, by omega⟩
      rw [g_rho2 (by omega) l1]
      have := p2.glt (show k' < m2 by omega)
      omega
  · by_cases c : i < m1
    · rw [g_rho1 (by omega)] at e
      by_cases d : j < m1
      · rw [g_rho1 (by omega)] at e
        exact p1.inj c d e
      · obtain ⟨j', rfl⟩ : ∃ j', j = m1 + j' := ⟨j - m1, by omega⟩
        rw [g_rho2 (by omega) l1] at e
        have := p1.glt c
        omega
    · obtain ⟨i', rfl⟩ : ∃ i', i = m1 + i' := ⟨i - m1, by omega⟩
      rw [g_rho2 (by omega) l1] at e
      by_cases d : j < m1
      · rw [g_rho1 (by omega)] at e
        have := p1.glt d
        omega
      · obtain ⟨j', rfl⟩ : ∃ j', j = m1 + j' := ⟨j - m1, by omega⟩
        rw [g_rho2 (by omega) l1] at e
        have := p2.inj (show i' < m2 by omega) (show j' < m2 by omega) (by omega)
        omega
/-- R does to the names what ro does to their places -/
structure Cj (N : Nat) (ns ro R : List Nat) : Prop where
  len : R.length = N
  at' : ∀ k, k < N → g R (g ns k) = g ns (g ro k)
theorem Cj.pm {N : Nat} {ns ro R : List Nat} (c : Cj N ns ro R) (pn : Pm N ns) (po : Pm N ro) : Pm N R := by
  refine .of c.len (fun x hx => ?_) fun x y hx hy e => ?_
  · obtain ⟨k, hk, rfl⟩ := pn.onto hx
    rw [c.at' k hk]
    exact pn.glt (po.glt hk)
  · obtain ⟨i, hi, rfl⟩ := pn.onto hx
    obtain ⟨j, hj, rfl⟩ := pn.onto hy
    rw [c.at' i hi, c.at' j hj] at e
    rw [po.inj hi hj (pn.inj (po.glt hi) (po.glt hj) e)]
/-- the squares of l hang together, and with no others -/
def Half (R U l : List Nat) : Prop := ∀ x, x ∈ l → ∀ y, y ∈ l ↔ Reach R U x y
theorem half_of {N : Nat} {ns r u R U : List Nat} {o m : Nat} {f : List Nat} {h : List Nat} (pR : Pm N R) (pU : Pm N U) (pn : Pm N ns) (S : ShOk m r u) (ho : o + m ≤ N)
    (hr : ∀ k, k < m → g R (g ns (o + k)) = g ns (o + g r k)) (hu : ∀ k, k < m → g U (g ns (o + k)) = g ns (o + g u k)) {l : List Nat} (hl : ∀ x, x ∈ l ↔ ∃ k, k < m ∧ x = g ns (o + k)) : Half R U l := by
  have base : ∀ k, Reach r u 0 k → k < m ∧ Reach R U (g ns (o + 0)) (g ns (o + k)) := by
    intro k hk
    induction hk with
    | refl => exact ⟨S.h1, .refl⟩
    | @rt x _ ih =>
      refine ⟨S.pr.glt ih.1, ?_⟩
      rw [← hr x ih.1]
      exact .rt ih.2
    | @up x _ ih =>
      refine ⟨S.pu.glt ih.1, ?_⟩
      rw [← hu x ih.1]
      exact .up ih.2
  have n0 : g ns (o + 0) < N := pn.glt (by have := S.h1; omega)
  intro x hx y
  obtain ⟨i, hi, rfl⟩ := (hl x).mp hx
  constructor
  · intro hy
    obtain ⟨j, hj, rfl⟩ := (hl y).mp hy
    exact ((base i (S.con i hi)).2.symm pR pU n0).trans (base j (S.con j hj)).2
  · intro hy
    refine Reach.closed (S := fun z => z ∈ l) hy hx (fun z hz => ?_) fun z hz => ?_
    · obtain ⟨k, hk, rfl⟩ := (hl z).mp hz
      rw [hr k hk]
      exact (hl _).mpr ⟨_, S.pr.glt hk, rfl⟩
    · obtain ⟨k, hk, rfl⟩ := (hl z).mp hz
      rw [hu k hk]
      exact (hl _).mpr ⟨_, S.pu.glt hk, rfl⟩
/-- the squares of l, rising -/
def srt (N : Nat) (l : List Nat) : List Nat := (List.range N).filter fun x => decide (x ∈ l)
theorem mem_srt {N : Nat} {l : List Nat} (h : ∀ x ∈ l, x < N) {x : Nat} : x ∈ srt N l ↔ x ∈ l := by
  unfold srt
  rw [List.mem_filter, List.mem_range, decide_eq_true_iff]
  exact ⟨fun q => q.2, fun q => ⟨h x q, q⟩⟩
theorem srt_rise {N : Nat} {l : List Nat} : (srt N l).Pairwise (· < ·) := List.Pairwise.filter _ (range_rise N)
theorem srt_of {N : Nat} {l ms : List Nat} (h : ∀ x ∈ ms, x < N) (hp : l.Perm ms) (hs : l.Pairwise (· < ·)) : l = srt N ms :=
  rise_ext hs srt_rise fun x => by rw [mem_srt h, hp.mem_iff]
/-- the names of the i-th part -/
def part (ns : List Nat) (o m : Nat) : List Nat := (ns.drop o).take m
theorem part_len {N : Nat} {ns : List Nat} {o m : Nat} (pn : Pm N ns) (h : o + m ≤ N) : (part ns o m).length = m := by
  unfold part
  rw [List.length_take, List.length_drop, pn.len]
  omega
theorem g_part {N : Nat} {ns : List Nat} {o m k : Nat} (pn : Pm N ns) (h : o + m ≤ N) (hk : k < m) : g (part ns o m) k = g ns (o + k) := by
  refine g_get ?_
  unfold part
  rw [List.getElem?_take, if_pos hk, List.getElem?_drop, get_g (by rw [pn.len]; omega)]
theorem mem_part {N : Nat} {ns : List Nat} {o m : Nat} (pn : Pm N ns) (h : o + m ≤ N) (x : Nat) : x ∈ part ns o m ↔ ∃ k, k < m ∧ x = g ns (o + k) := by
  constructor
  · intro hx
    obtain ⟨k, hk, e⟩ := mem_g hx
    rw [part_len pn h] at hk
    exact ⟨k, hk, by rw [← e, g_part pn h hk]⟩
  · rintro ⟨k, hk, rfl⟩
    rw [← g_part pn h hk]
    exact g_mem (by rw [part_len pn h]; exact hk)
theorem part_lt {N : Nat} {ns : List Nat} {o m : Nat} (pn : Pm N ns) (h : o + m ≤ N) : ∀ x ∈ part ns o m, x < N := fun x hx => by
  obtain ⟨k, hk, rfl⟩ := (mem_part pn h x).mp hx
  exact pn.glt (by omega)
theorem part_nd {N : Nat} {ns : List Nat} {o m : Nat} (pn : Pm N ns) (h : o + m ≤ N) : (part ns o m).Nodup := nd_of_g fun i j hi hj e => by
  rw [part_len pn h] at hi hj
  rw [g_part pn h hi, g_part pn h hj] at e
  have := pn.inj (show o + i < N by omega) (show o + j < N by omega) e
  omega
/-- both parts, the one with 0 first -/
theorem beside_two {m1 m2 : Nat} {ns r1 u1 r2 u2 R U : List Nat} (pn : Pm (m1 + m2) ns) (S1 : ShOk m1 r1 u1) (S2 : ShOk m2 r2 u2) (cR : Cj (m1 + m2) ns (rho m1 r1 r2) R) (cU : Cj (m1 + m2) ns (rho m1 u1 u2) U) :
    (0 ∈ srt (m1 + m2) (part ns 0 m1) ∧ 0 ∉ srt (m1 + m2) (part ns m1 m2) ∧ Two (m1 + m2) R U (srt (m1 + m2) (part ns 0 m1)) (srt (m1 + m2) (part ns m1 m2))) ∨
      (0 ∈ srt (m1 + m2) (part ns m1 m2) ∧ 0 ∉ srt (m1 + m2) (part ns 0 m1) ∧ Two (m1 + m2) R U (srt (m1 + m2) (part ns m1 m2)) (srt (m1 + m2) (part ns 0 m1))) := by
  have h1 := S1.h1
  have h2 := S2.h1
  have l1 := S1.pr.len
  have l2 := S2.pr.len
  have k1 := S1.pu.len
  have k2 := S2.pu.len
  have pR := cR.pm pn (rho_pm S1.pr S2.pr)
  have pU := cU.pm pn (rho_pm S1.pu S2.pu)
  have ms1 : ∀ x, x ∈ srt (m1 + m2) (part ns 0 m1) ↔ ∃ k, k < m1 ∧ x = g ns (0 + k) := fun x => by rw [mem_srt (part_lt pn (by omega)), mem_part pn (by omega)]
  have ms2 : ∀ x, x ∈ srt (m1 + m2) (part ns m1 m2) ↔ ∃ k, k < m2 ∧ x = g ns (m1 + k) := fun x => by rw [mem_srt (part_lt pn (by omega)), mem_part pn (by omega)]
  have H1 : Half R U (srt (m1 + m2) (part ns 0 m1)) := half_of (f := []) (h := []) pR pU pn S1 (by omega) (fun k hk => by
    have q := cR.at' k (by omega)
    rw [g_rho1 (by omega)] at q
    rw [Nat.zero_add, Nat.zero_add]; exact q) (fun k hk => by
    have q := cU.at' k (by omega)
    rw [g_rho1 (by omega)] at q
    rw [Nat.zero_add, Nat.zero_add]; exact q) ms1
  have H2 : Half R U (srt (m1 + m2) (part ns m1 m2)) := half_of (f := []) (h := []) pR pU pn S2 (by omega) (fun k hk => by
    have q := cR.at' (m1 + k) (by omega)
    rw [g_rho2 (by omega) l1] at q
    exact q) (fun k hk => by
    have q := cU.at' (m1 + k) (by omega)
    rw [g_rho2 (by omega) k1] at q
    exact q) ms2
  have dis : ∀ x, x ∈ srt (m1 + m2) (part ns 0 m1) → x ∈ srt (m1 + m2) (part ns m1 m2) → False := fun x a b => by
    obtain ⟨i, hi, rfl⟩ := (ms1 x).mp a
    obtain ⟨j, hj, e⟩ := (ms2 _).mp b
    have := pn.inj (show 0 + i < m1 + m2 by omega) (show m1 + j < m1 + m2 by omega) e
    omega
  have cov : ∀ x, x < m1 + m2 ↔ x ∈ srt (m1 + m2) (part ns 0 m1) ∨ x ∈ srt (m1 + m2) (part ns m1 m2) := fun x => by
    constructor
    · intro hx
      obtain ⟨k, hk, rfl⟩ := pn.onto hx
      by_cases c : k < m1
      · exact .inl ((ms1 _).mpr ⟨k, c, by rw [Nat.zero_add]⟩)
      · exact .inr ((ms2 _).mpr ⟨k - m1, by omega, by rw [show m1 + (k - m1) = k by omega]⟩)
    · rintro (h | h)
      · obtain ⟨k, hk, rfl⟩ := (ms1 x).mp h
        exact pn.glt (by omega)
      · obtain ⟨k, hk, rfl⟩ := (ms2 x).mp h
        exact pn.glt (by omega)
  have ne1 : srt (m1 + m2) (part ns 0 m1) ≠ [] := fun z => by
    have q := (ms1 _).mpr ⟨0, by omega, rfl⟩
    rw [z] at q
    simp at q
  have ne2 : srt (m1 + m2) (part ns m1 m2) ≠ [] := fun z => by
    have q := (ms2 _).mpr ⟨0, by omega, rfl⟩
    rw [z] at q
    simp at q
  rcases (cov 0).mp (by omega) with z | z
  · exact .inl ⟨z, fun y => dis 0 z y, ⟨pR, pU, cov, dis, srt_rise, srt_rise, z, ne2, H1, H2⟩⟩
  · exact .inr ⟨z, fun y => dis 0 y z, ⟨pR, pU, fun x => (cov x).trans Or.comm, fun x a b => dis x b a, srt_rise, srt_rise, z, ne1, H2, H1⟩⟩
/-- which of both comes first -/
theorem first_zero {X Y : List Nat} (sx : X.Pairwise (· < ·)) (h0 : 0 ∈ X) (hn : 0 ∉ Y) (hy : Y ≠ []) : (∃ X' y Y', X = 0 :: X' ∧ Y = y :: Y' ∧ 0 < y) := by
  cases X with
  | nil => simp at h0
  | cons x X' =>
    cases Y with
    | nil => exact absurd rfl hy
    | cons y Y' =>
      refine ⟨X', y, Y', ?_, rfl, ?_⟩
      · rcases List.mem_cons.mp h0 with e | e
        · rw [← e]
        · have := (List.pairwise_cons.mp sx).1 0 e
          omega
      · rcases Nat.eq_zero_or_pos y with e | e
        · rw [e] at hn
          exact absurd List.mem_cons_self hn
        · exact e
/-- one more place of R is right -/
theorem cj_more {N : Nat} {ns R : List Nat} {k v : Nat} (pn : Pm N ns) (hl : R.length = N) (hk : k < N) {f : Nat → Nat} (h : ∀ j, j < k → g R (g ns j) = f j) (hv : v = f k) : (R.set (g ns k) v).length = N ∧ ∀ j, j < k + 1 → g (R.set (g ns k) v) (g ns j) = f j := by
  refine ⟨by rw [List.length_set]; exact hl, fun j hj => ?_⟩
  have hjN : j < N := by omega
  rw [g_set (by rw [hl]; exact pn.glt hjN)]
  by_cases c : j = k
  · subst c
    rw [if_pos rfl]
    exact hv
  · rw [if_neg (fun e => c (pn.inj hjN hk e))]
    exact h j (by omega)
end Sq

/-! The text by places; lists of squares as values; heaps. -/
namespace Sq
open L2 PySem PySem.Spec PyProof.Rows
def top (i : Nat) : Stmt := PySem.Challenge.pw_squaresheet_k08_whole_sewn_together.main.body.getD i (.Pass ⟨0, 0, 0, 0⟩)
abbrev sInit : Stmt := inClass (top 3) 0
abbrev sIsSq : Stmt := top 8
abbrev sCheck : Stmt := top 9
abbrev sMet : Stmt := top 10
abbrev sSheet : Stmt := top 11
abbrev sSize : Stmt := top 12
abbrev sBack : Stmt := top 13
abbrev sGroups : Stmt := top 14
abbrev sCkSq : Stmt := top 15
abbrev sSteps : Stmt := top 16
abbrev sGone : Stmt := top 17
abbrev sPath : Stmt := top 18
abbrev sCell : Stmt := top 20
abbrev sWhole : Stmt := top 21
abbrev sLines : Stmt := top 22
abbrev sLMet : Stmt := top 23
abbrev sAmong : Stmt := top 24
abbrev sLSheet : Stmt := top 25
abbrev sPicked : Stmt := top 26
abbrev sBeside : Stmt := top 27
abbrev sIsSheet : Stmt := top 28
abbrev sLStep : Stmt := top 29
abbrev sApart : Stmt := top 30
abbrev sLeads : Stmt := top 31
abbrev sExch : Stmt := top 32
abbrev sLaw : Stmt := top 33

/-! ### squares as values -/
abbrev vN (n : Nat) : V := .int (n : Int)
def vL (l : List Nat) : List V := l.map vN
theorem vL_len (l : List Nat) : (vL l).length = l.length := by unfold vL; rw [List.length_map]
theorem vL_get {l : List Nat} {k x : Nat} (h : l[k]? = some x) : (vL l)[k]? = some (vN x) := by
  unfold vL
  rw [List.getElem?_map, h]
  rfl
theorem vL_g {l : List Nat} {k : Nat} (h : k < l.length) : (vL l)[k]? = some (vN (g l k)) := vL_get (get_g h)
theorem vL_at {l : List Nat} {k : Nat} (h : k < l.length) : atI (vL l) (k : Int) = some (vN (g l k)) := atI_nat (vL_g h)
theorem vL_of_get {l : List Nat} {k : Nat} {v : V} (h : (vL l)[k]? = some v) : k < l.length ∧ v = vN (g l k) := by
  have hk : k < l.length := by
    have q := (List.getElem?_eq_some_iff.mp h).1
    rw [vL_len] at q
    exact q
  rw [vL_g hk] at h
  exact ⟨hk, (Option.some.inj h).symm⟩
theorem vL_app (l m : List Nat) : vL (l ++ m) = vL l ++ vL m := by unfold vL; rw [List.map_append]
theorem vL_snoc (l : List Nat) (x : Nat) : vL (l ++ [x]) = vL l ++ [vN x] := vL_app l [x]
theorem vL_set (l : List Nat) (i x : Nat) : (vL l).set i (vN x) = vL (l.set i x) := by
  unfold vL
  rw [List.map_set]
theorem vL_flat (l : List Nat) : (vL l).all flatV = true := by
  unfold vL
  rw [List.all_map, List.all_eq_true]
  intro x _
  rfl
theorem inV_vL (x : Nat) (l : List Nat) : inV (vN x) (vL l) = decide (x ∈ l) := by
  unfold inV vL
  rw [List.any_map]
  by_cases h : x ∈ l
  · rw [decide_eq_true h, List.any_eq_true]
    exact ⟨x, h, by show ((x : Int) == (x : Int)) = true; exact beq_self_eq_true _⟩
  · rw [decide_eq_false h, List.any_eq_false]
    intro y hy e
    have e' : ((y : Int) == (x : Int)) = true := e
    have e2 : (y : Int) = (x : Int) := by simpa using e'
    have e3 : y = x := by omega
    exact h (e3 ▸ hy)
theorem vL_int (l : List Nat) : vL l = (l.map fun n : Nat => (n : Int)).map V.int := by
  unfold vL
  rw [List.map_map]
  rfl
theorem rgV_nat (n : Nat) : rgV 0 (n : Int) = vL (List.range n) := by
  unfold rgV vL
  rw [show ((n : Int) - 0).toNat = n by omega]
  refine List.map_congr_left (fun i _ => ?_)
  show V.int (0 + (i : Int)) = V.int (i : Int)
  rw [Int.zero_add]
theorem rgOk_nat {n : Nat} (h : n ≤ 1000) : RgOk 0 (n : Int) := RgOk.of_le (by omega) (by omega) (by omega) (by omega)

/-! ### heaps -/
theorem same_put {H H' : Hp} {p : Addr} {o : HO} (s : Same H H') (n : H p = none) : Same H (upd H' p o) := fun b u e => by
  rw [upd_ne (ne_of_none e n)]
  exact s b u e
theorem same_new {H : Hp} {p : Addr} {o : HO} (n : H p = none) : Same H (upd H p o) := same_put (Same.refl H) n
theorem upd_none {H : Hp} {a b : Addr} {o : HO} (h : upd H a o b = none) : b ≠ a ∧ H b = none := by
  have ne : b ≠ a := fun e => by
    rw [e, upd_same] at h
    cases h
  rw [upd_ne ne] at h
  exact ⟨ne, h⟩
theorem seT {K : PySem.W.Frag} {H H' : Hp} {a : Addr} {xs : List V} (e : Same H H') (h : SqT K H a xs) : SqT K H' a xs := by
  rcases h with (g1 | ⟨o, g2⟩) | g3
  · exact .inl (.inl (e _ _ g1))
  · exact .inl (.inr ⟨o, e _ _ g2⟩)
  · exact .inr g3
/-- a list or a tuple that is read -/
def SqE (K : PySem.W.Frag) (H : Hp) (a : Addr) (xs : List V) : Prop := SqL K H a xs ∨ SqT K H a xs
theorem SqE.keep {K : PySem.W.Frag} {H H' : Hp} {a : Addr} {xs : List V} (h : SqE K H a xs) (e : Same H H') : SqE K H' a xs := by
  rcases h with h | h
  · exact .inl (e.seq h)
  · exact .inr (seT e h)
theorem SqE.ix {K : PySem.W.Frag} {H : Hp} {a : Addr} {l : List Nat} {k : Nat} {Q : VK} (h : SqE K H a (vL l)) (hk : k < l.length) (q : Q (vN (g l k)) H) : rIx K (.ref a) (vN k) H Q := by
  rcases h with h | h
  · exact .inl ⟨a, _, _, _, rfl, rfl, h, vL_at hk, q⟩
  · exact .inr (.inl ⟨a, _, _, _, rfl, rfl, h, vL_at hk, q⟩)
theorem szL {l : List Nat} (h : l.length ≤ 1000) : (vL l).length < sizeLine := by
  rw [vL_len]
  exact small1000 h

/-- a def that stands and keeps its promise -/
structure Cal (P : Program) (w : World) (K : PySem.W.Frag) (mg : Str → Option Value) (base : Heap) (CX : CXT) (k : Nat) (x : Str) (ps : List Str) (sp : Sp) (f : Addr) (fd : FuncData) : Prop where
  G : FnOk P w K mg base CX k f fd ps sp
  m : mg x = some (.ref f)
  kp : PySem.W.keepIn K (Value.ref f) = true
  b : Binds K fd ps []
/-- the built-ins that no name of the text hides -/
structure Blt (mg : Str → Option Value) : Prop where
  len : mg "len" = none
  isinstance : mg "isinstance" = none
  int : mg "int" = none
  bool : mg "bool" = none
  range : mg "range" = none
  tuple : mg "tuple" = none
  list : mg "list" = none
  enumerate : mg "enumerate" = none
  sorted : mg "sorted" = none
  sum : mg "sum" = none
  all : mg "all" = none
  str : mg "str" = none
end Sq

namespace Sq
open L2 PySem PySem.Spec PyProof.Rows
section
variable {mg : Str → Option Value} {base : Heap} {P : Program} {w : World} {K : PySem.W.Frag}
def spMet (K : PySem.W.Frag) : Sp := fun vs H Q _ => ∃ (a b : Addr) (r u : List Nat) (n x : Nat), vs = [.ref a, .ref b, vN x] ∧ SqE K H a (vL r) ∧ SqE K H b (vL u) ∧ Pm n r ∧ Pm n u ∧ x < n ∧ n ≤ 36 ∧
  ∀ (ms : List Nat) (H' : Hp) (p : Addr), ms.Nodup → (∀ y, y ∈ ms ↔ Reach r u x y) → ms.length ≤ 36 → Same H H' → H p = none → H' p = some (.lst (vL ms)) → Q (.ref p) H'
theorem scMet : FnScope ["right", "up", "first", "met", "at", "square"] ["right", "up", "first"] (defScope sMet) := ⟨rfl, rfl, rfl, by decide +kernel, rfl, by decide +kernel, by decide +kernel⟩
theorem ok_met {f : Addr} {fd : FuncData} {k : Nat} (F : Fun K "met_from" "met_from" sMet f fd) (T : Blt mg) : FnOk P w K mg base CX0 (k + 1) f fd ["right", "up", "first"] (spMet K) := by
  refine F.ok scMet (fun vs H Q E h => ?_) (fun cdv A outer s H vs Q E hr h => ?_)
  · obtain ⟨a, b, r, u, n, x, rfl, _⟩ := h
    rfl
  · obtain ⟨a, b, r, u, n, x, rfl, hA, hB, pr, pu, hx, hn, q⟩ := h
    refine ⟨_, pss_cons (ps_set (i := 3) scMet.nd rfl (.inl rfl) (pe_lst (pa_cons (pv 2) pa_nil)))
      (pss_cons (ps_set (i := 4) scMet.nd rfl (.inl rfl) pe_int)
      (pss_cons (ps_while PassesOwn.never (pt_cmpR op_lt (pv 4) (pe_callB call_len_seq (by rfl) T.len PySem.boot_len (pa_cons (pv 3) pa_nil)) (nomark _))
        (pss_cons (ps_for PassesOwn.never rfl (pi_tup (pe_tup (pa_cons (pe_ix ix_seq (pv 0) (pe_ix ix_list (pv 3) (pv 4) (fun _ _ => rfl)) (fun _ _ => rfl)) (pa_cons (pe_ix ix_seq (pv 1) (pe_ix ix_list (pv 3) (pv 4) (fun _ _ => rfl)) (fun _ _ => rfl)) pa_nil)))) (pg_name (i := 5) scMet.nd rfl (.inl rfl))
            (pss_one (ps_if (pt_cmpR op_notIn_seq (pv 5) (pv 3) (by rfl)) (pss_one (ps_expr (pe_bm PySem.F.plainAttrs_list PySem.F.slot_list_append PySem.F.type_list_append mt_append (pv 3) (pa_cons (pv 5) pa_nil)))) pss_nil)))
          (pss_one (ps_set (i := 4) scMet.nd rfl (.inl rfl) (pe_op op_add (pv 4) pe_int)))))
      (pss_one (ps_ret (pv 3))))), ?_⟩
    -- met = [first]
    refine ⟨_, rfl, (by show 1 ≤ sizeLine; decide), fun p hp => ?_⟩
    -- at = 0; while
    refine ⟨fun m σ H' => ∃ (i : Nat) (ms : List Nat) (v : Option V), σ = [some (.ref a), some (.ref b), some (vN x), some (.ref p), some (vN i), v] ∧ m = n - i ∧ MetI r u x i ms ∧ Same H H' ∧ H' p = some (.lst (vL ms)),
      ⟨n, 0, [x], none, rfl, rfl, MetI.start r u x, same_new hp, upd_same⟩, fun m σ H1 hW => ?_⟩
    obtain ⟨i, ms, v, rfl, rfl, M, sm, hL⟩ := hW
    have hml : ms.length ≤ n := M.len pr pu hx
    refine ⟨_, rfl, _, rfl, p, _, rfl, .inl (SqL.of hL), _, _, rfl, rfl, _, rfl, ite2 (fun c => ?_) (fun c => ?_)⟩
    · have hi : i < ms.length := by
        have q := of_decide_eq_true c
        rw [vL_len] at q
        omega
      have hin : i < n := by omega
      refine ⟨fun σ' H' => ∃ (ms' : List Nat) (v' : Option V), σ' = [some (.ref a), some (.ref b), some (vN x), some (.ref p), some (vN (i + 1)), v'] ∧ MetI r u x (i + 1) ms' ∧ Same H H' ∧ H' p = some (.lst (vL ms')), fun σ' H' hN => ?_, ?_⟩
      · obtain ⟨ms', v', e, M', sm', hL'⟩ := hN
        exact ⟨n - (i + 1), by omega, i + 1, ms', v', e, rfl, M', sm', hL'⟩
      -- the tuple of the two next squares
      have hy : g ms i < n := (M.re _ (g_mem hi)).lt pr pu hx
      have hre : Reach r u x (g ms i) := M.re _ (g_mem hi)
      refine ⟨.ref a, rfl, .ref p, rfl, vN i, rfl, p, _, _, _, rfl, rfl, SqL.of hL, vL_at hi, ?_⟩
      refine SqE.ix (hA.keep sm) (by rw [pr.len]; exact hy) ?_
      refine ⟨.ref b, rfl, .ref p, rfl, vN i, rfl, p, _, _, _, rfl, rfl, SqL.of hL, vL_at hi, ?_⟩
      refine SqE.ix (hB.keep sm) (by rw [pu.len]; exact hy) ?_
      refine ⟨(by show 2 ≤ sizeLine; decide), fun t ht => ?_⟩
      have hL1 : upd H1 t (.tup [vN (g r (g ms i)), vN (g u (g ms i))]) p = some (.lst (vL ms)) := by rw [upd_ne (ne_of_none hL ht)]; exact hL
      have sm1 : Same H (upd H1 t (.tup [vN (g r (g ms i)), vN (g u (g ms i))])) := same_put sm (sm.free ht)
      refine ⟨t, rfl, ⟨_, SqT.of upd_same⟩, for_tup (K := K) (a := t) (xs := [vN (g r (g ms i)), vN (g u (g ms i))]) (fun j σ' H' => ∃ (ms' : List Nat) (v' : Option V), σ' = [some (.ref a), some (.ref b), some (vN x), some (.ref p), some (vN i), v'] ∧ MetJ r u x i ms (g ms i) j ms' ∧ Same H H' ∧ H' p = some (.lst (vL ms')) ∧ H' t = some (.tup [vN (g r (g ms i)), vN (g u (g ms i))]))
        ⟨ms, v, rfl, MetJ.start M _, sm1, hL1, upd_same⟩ (fun j σ' H' _ ⟨_, _, _, _, _, _, h⟩ => SqT.of h) ?_ ?_⟩
      · rintro j z σ' H' hz ⟨ms', v', rfl, J, sm', hL', hT'⟩
        have hj : j < 2 := (List.getElem?_eq_some_iff.mp hz).1
        have ez : z = vN (two r u (g ms i) j) := by
          have : j = 0 ∨ j = 1 := by omega
          rcases this with e | e
          · subst e; exact (Option.some.inj hz).symm
          · subst e; exact (Option.some.inj hz).symm
        subst ez
        have hml' : ms'.length ≤ n := J.m.len pr pu hx
        refine ⟨_, rfl, _, rfl, p, _, rfl, .inl (SqL.of hL'), rfl, vL_flat _, _, rfl, ?_⟩
        rw [inV_vL]
        by_cases c2 : two r u (g ms i) j ∈ ms'
        · rw [decide_eq_true c2]
          refine iteF ?_
          exact ⟨ms', some (vN (two r u (g ms i) j)), rfl, J.has hj c2, sm', hL', hT'⟩
        · rw [decide_eq_false c2]
          refine iteT ?_
          refine ⟨.ref p, rfl, .inl ⟨rfl, _, SqL.of hL'⟩, _, rfl, p, _, _, rfl, rfl, hL', szL (by omega), ?_⟩
          refine ⟨ms' ++ [two r u (g ms i) j], some (vN (two r u (g ms i) j)), rfl, J.add hj hre c2, same_put sm' hp, by rw [upd_same, vL_snoc], ?_⟩
          rw [upd_ne (ne_of hT' hL' (by intro z; cases z))]
          exact hT'
      · rintro σ' H' ⟨ms', v', rfl, J, sm', hL', hT'⟩
        refine ⟨_, rfl, _, _, rfl, rfl, ms', v', ?_, J.out hi, sm', hL'⟩
        show [some (V.ref a), some (V.ref b), some (vN x), some (V.ref p), some (V.int ((i : Int) + 1)), v'] = _
        rw [show ((i : Int) + 1) = ((i + 1 : Nat) : Int) by omega]
    · have hi : ms.length ≤ i := by
        have q := of_decide_eq_false (Bool.eq_false_iff.mpr (fun z => c z))
        rw [vL_len] at q
        omega
      exact ⟨.ref p, rfl, q ms H1 p M.nd (M.all hi) (by omega) sm hp hL⟩
end
end Sq

/-! A rule that the layer has not: enumerate over a tuple. (The layer has it over a list: the same road, turned to a tuple.) -/
namespace Sq
open L2 PySem PySem.Spec PyProof.Rows

/-- new: an iterator over the tuple at a -/
abbrev itO (a : Addr) : Obj := { cls := .type "tuple_iterator", data := .fields #[.ref a, .int 0 0] }
/-- new: an enumerate over the iterator at k -/
abbrev enO (k : Addr) : Obj := { cls := .type "enumerate", data := .fields #[.none, .bool false, .ref k, rawInt 0, .none, .none] }
/-- a heap with both -/
abbrev enH (H0 : Heap) (a : Addr) : Heap := (H0.push (itO a)).push (enO H0.objs.size)
theorem enum_newT (a : Addr) (us : Array Value) (m : Nat) (di : Option Addr) (so : Array (Option Value)) :
    Meets (Builtin.«enumerate.__new__» ⟨[.type "enumerate", .ref a], []⟩) (fun _ R s => s.heap.get? a = some { cls := .type "tuple", dict := di, data := .seq us m, slots := so } ∧ R (.ok (.ret (.ref (s.heap.push (itO a)).objs.size))) { s with heap := enH s.heap a }) :=
  .of_wp fun P1 w1 A1 R1 s1 z => by
    obtain ⟨H0, gl, de, to, sy⟩ := s1
    obtain ⟨ha, z⟩ := z
    have hsub := sub_enumerate
    have tup : Heap.IsTuple (Shared.heap ⟨H0, gl, de, to, sy⟩) a us := ⟨_, ha, rfl, m, rfl⟩
    have step : ∀ {A2 : Around} {E2 Q2 : Value → Shared → Prop}, Q2 (.ref H0.objs.size) ⟨H0.push (itO a), gl, de, to, sy⟩ → wpAny (model P1 w1) A2 (pyIter (.ref a)) Q2 E2 ⟨H0, gl, de, to, sy⟩ := fun z1 => (begins_tuple a us).iter P1 w1 _ _ ⟨H0, gl, de, to, sy⟩ _ tup z1
    wp_walk using step
    refine wpAny_stack_any fun _ => wpAny_pure ?_
    split
    · rename_i cc _ _ _ _ _
      cases (cc == Value.type "enumerate") <;> (wp_walk using step; exact ⟨_, rfl, z⟩)
    · wp_walk using step
      exact ⟨_, rfl, z⟩
/-- enumerate(t), t the tuple at a: two new objects, all else as it was -/
theorem enum_callT {P1 : Program} {w1 : World} {A1 : Around} {E1 Q1 : Value → Shared → Prop} {s1 : Shared} {a : Addr} {us : Array Value} (tup : s1.heap.IsTuple a us)
    (z : ∀ H1 : Heap, IsEnum H1 (s1.heap.objs.size + 1) s1.heap.objs.size 0 .none → H1.IsTupleIter s1.heap.objs.size a 0 → (∀ x y, s1.heap.get? x = some y → H1.get? x = some y) → Q1 (.ref (s1.heap.objs.size + 1)) { s1 with heap := H1 }) :
    wpAny (model P1 w1) A1 (call (.type "enumerate") [.ref a]) Q1 E1 s1 := by
  obtain ⟨⟨cl, di, da, so⟩, ha, e1, m, e2⟩ := tup
  have e1' : cl = .type "tuple" := e1
  have e2' : da = .seq us m := e2
  subst e1' e2'
  refine callType_new F.called_enumerate (by decide) (F.typeCall_enumerate_1 _) (F.newCall_enumerate_1 _) (fun x => F.args_object_init_2 x _) F.entry_enumerate_new (enum_newT a us m di so) ⟨ha, ?_⟩
  have more : (s1.heap.push (itO a)).objs.size = s1.heap.objs.size + 1 := Heap.size_push ..
  have here : IsEnum (enH s1.heap a) (s1.heap.objs.size + 1) s1.heap.objs.size 0 .none := by
    have q := Heap.get?_push_size (s1.heap.push (itO a)) (o := enO s1.heap.objs.size) rfl
    rw [more] at q
    exact q
  show _ ∧ _
  rw [more]
  exact ⟨⟨_, here, rfl⟩, z _ here ⟨itO a, Heap.get?_push_of_some _ (Heap.get?_push_size _ rfl), rfl, rfl⟩ fun x y q => Heap.get?_push_of_some _ (Heap.get?_push_of_some _ q)⟩

/-- the tuple at a, each item in a new pair -/
def IteT (K : PySem.W.Frag) (a : Addr) : It where
  go := fun i H => ∃ (xs : List V) (x : V), SqT K H a xs ∧ xs[i]? = some x
  yld := fun i H v H' => ∃ T x, v = .ref T ∧ H T = none ∧ H' = upd H T (.tup [.int (i : Nat), x]) ∧ ∀ xs, SqT K H a xs → xs[i]? = some x
  stop := fun i H => ∃ xs : List V, SqT K H a xs ∧ xs.length = i
/-- the tuple, its iterator, the enumerate: three objects -/
theorem tup_ne_iter {h : Heap} {a it : Addr} {i : Nat} {us : Array Value} (hi : h.IsTupleIter it a i) (ht : h.IsTuple a us) : a ≠ it := fun z => by
  obtain ⟨o1, g1, c1, _⟩ := hi
  obtain ⟨o2, g2, c2, _⟩ := ht
  rw [z, g1] at g2
  cases g2
  rw [c1] at c2
  exact absurd c2 (by decide)
theorem enum_ne_tup {h : Heap} {a e it : Addr} {c : Int} {old : Value} {us : Array Value} (he : IsEnum h e it c old) (ht : h.IsTuple a us) : e ≠ a := fun z => by
  obtain ⟨o2, g2, c2, _⟩ := ht
  have g1 : h.get? e = some _ := he
  rw [z, g2] at g1
  cases g1
  exact absurd (show Value.type "enumerate" = Value.type "tuple" from c2) (by decide)
theorem one_of_two {b x y : Addr} (h : b ∈ [x, y]) : b = x ∨ b = y := by
  rcases List.mem_cons.mp h with first | z
  · exact .inl first
  · exact .inr (List.mem_singleton.mp z)
/-- where the turn stands: the enumerate at e counts i, its iterator at k stands behind i items -/
def EnT (a e k : Addr) (i : Nat) (h : Heap) : Prop := (∃ was, IsEnum h e k ((i : Nat) : Int) was) ∧ h.IsTupleIter k a i ∧ e ≠ k
theorem turn_enumT {P1 : Program} {w1 : World} {K : PySem.W.Frag} {es : List Expr} {n : Nat} {tp : Pos} (a e k : Addr) : Turn P1 w1 K (.Tuple es n tp) (IteT K a) [e, k] e (EnT a e k) := by
  refine ⟨List.mem_cons_self, fun i h st b hb => ?_, fun i h h' st more => ?_, ?_, ?_, fun A1 i s1 Q1 E1 st z => ?_⟩
  · obtain ⟨⟨was, he⟩, ⟨o1, g1, _, d1⟩, _⟩ := st
    rcases one_of_two hb with rfl | rfl
    · exact ⟨_, he, fun v q => by cases q⟩
    · refine ⟨o1, g1, fun v q => ?_⟩
      rw [d1] at q
      cases q
  · obtain ⟨⟨was, he⟩, hk, ne⟩ := st
    exact ⟨⟨was, more e List.mem_cons_self _ he⟩, hk.at fun o q => more k (List.mem_cons_of_mem _ (List.mem_singleton.mpr rfl)) o q, ne⟩
  · intro X e1 e2 e3 calm i pins s1 σ H E1 I hf st ⟨xs, x, hq, hx⟩
    subst e1 e2 e3
    obtain ⟨⟨was, he⟩, hk, ne⟩ := st
    obtain ⟨us, vals, tup, _⟩ := I.tuple hq
    obtain ⟨u, hu, ru⟩ := vals.get hx
    have tup' : s1.heap.IsTuple a us.toArray := tup
    have n1 := tup_ne_iter hk tup'
    have n2 := enum_ne_tup he tup'
    have e_lt := Heap.lt_size he
    have k_lt : k < s1.heap.objs.size := Heap.lt_size (Exists.choose_spec hk).1
    have i_lt : i < us.toArray.size := by rw [List.size_toArray]; exact (List.getElem?_eq_some_iff.mp hu).1
    have drawn := Draws.tuple (prog := X.prog) (w := X.w) (A := X.A.in1) (show X.A.in1.handled = none from I.ok.hd calm) k a n1 us.toArray
    refine wpAny_pyNext_enum_itemC drawn he ⟨hk, tup'⟩ i_lt ne (by simp [ne, n2]) fun y h1 tk hy own st1 pair _ same => ?_
    obtain rfl : u = y := by
      have hy' : us.toArray[i]? = some y := hy
      rw [List.getElem?_toArray, hu] at hy'
      exact Option.some.inj hy'
    refine ⟨_, rfl, wpAny_letOwnedTupleGo_enum (s := { s1 with heap := h1, toks := tk + 1 }) own fun h2 he2 rest => ?_⟩
    have pair2 : h2.get? s1.heap.objs.size = some { cls := .type "tuple", data := .seq #[.int i tk, u] } := (rest.2 _ (Nat.ne_of_gt e_lt)).trans pair
    have fresh := I.hok.fresh (Nat.le_refl s1.heap.objs.size)
    have I2 : Inv X pins σ (upd H s1.heap.objs.size (.tup [.int (i : Nat), x])) { s1 with heap := h2, toks := tk + 1 } := by
      refine I.turnedNew (ch := [e, k]) (fun b ob hb q => ?_) hf (Nat.le_refl _) ⟨by show 2 ≤ sizeLine; decide, [.int i tk, u], .cons ⟨_, rfl⟩ (.cons ru .nil), ⟨_, pair2, rfl, _, rfl⟩⟩
      have b1 : b ≠ e := fun z => hb (by rw [z]; exact List.mem_cons_self)
      have b2 : b ≠ k := fun z => hb (by rw [z]; exact List.mem_cons_of_mem _ (List.mem_singleton.mpr rfl))
      exact (rest.2 b b1).trans (same b ob (by simp [b1]) b2 q)
    refine ⟨.ref s1.heap.objs.size, _, I2, rfl, ⟨_, x, rfl, fresh, rfl, fun ys hys => ?_⟩, ⟨⟨u, ?_⟩, st1.1.at fun o q => (rest.2 k (Ne.symm ne)).trans q, ne⟩, fun b hb => ?_⟩
    · rw [I.tuple_inj hys hq]
      exact hx
    · rw [show ((i + 1 : Nat) : Int) = (i : Int) + 1 from Int.natCast_succ i]
      exact he2
    · have b_lt : b < s1.heap.objs.size := by
        rcases one_of_two hb with rfl | rfl
        · exact e_lt
        · exact k_lt
      rw [upd_ne (fun z => Nat.lt_irrefl _ (z ▸ b_lt))]
      exact (hf b hb).1
  · intro X e1 e2 e3 calm i pins s1 σ H E1 I hf st ⟨xs, hq, hx⟩
    subst e1 e2 e3
    obtain ⟨⟨was, he⟩, hk, ne⟩ := st
    obtain ⟨us, vals, tup, _⟩ := I.tuple hq
    have tup' : s1.heap.IsTuple a us.toArray := tup
    obtain rfl : i = us.toArray.size := by rw [List.size_toArray, ← vals.length, hx]
    have drawn := Draws.tuple (prog := X.prog) (w := X.w) (A := X.A.in1) (show X.A.in1.handled = none from I.ok.hd calm) k a (tup_ne_iter hk tup') us.toArray
    obtain ⟨p0, p1, _, p3, p4, p5⟩ := hf k (List.mem_cons_of_mem _ (List.mem_singleton.mpr rfl))
    exact wpAny_pyNext_enum_endD drawn he ⟨hk, tup'⟩ fun h1 same => ⟨rfl, I.turned (t' := s1.toks) (fun b o hb q => same b o hb q) p0 p1 p3 p4 p5⟩
  · obtain ⟨⟨was, he⟩, _⟩ := st
    exact wpAny_pyIter_enum he z
def iEnumT (K : PySem.W.Frag) (ta : TA) : TI := fun σ H R => ta σ H fun vs H1 => ∃ a xs, vs = [.ref a] ∧ SqT K H1 a xs ∧ R (IteT K a) H1
theorem pi_enumT {X : Cx} {e : Expr} {ta : TA} {p pos tpos : Pos} {elts : List Expr} {kk : Nat} (hg : Gl X "enumerate") (hm : X.mg "enumerate" = none) (ha : PA X [e] ta) (hs : starEach [e] X.env = [(false, eval e X.env)] := by rfl) :
    PI X (.Tuple elts kk tpos) (.Call (.Name "enumerate" p) [e] [] pos) (iEnumT X.K ta) := ⟨fun pins s0 σ H R I z => by
  refine Call_ (ld_blt I hg hm boot_enumerate (PyProof.Rows.callWith_type1 (thn (ha.run pos pins s0 σ H _ I z) fun us s1 ⟨vs, H1, I1, reads, z1⟩ => ?_) hs rfl))
  obtain ⟨a, xs, rfl, hq, z1⟩ := z1
  rw [Vals.ref1 reads]
  obtain ⟨its, _, tup, _⟩ := I1.tuple hq
  refine enum_callT (show s1.heap.IsTuple a its.toArray from tup) fun h1 he hk same => wpAny_pyIter_enum he ?_
  refine ⟨s1.heap.objs.size + 1, [s1.heap.objs.size + 1, s1.heap.objs.size], EnT a (s1.heap.objs.size + 1) s1.heap.objs.size, IteT X.K a, H1, rfl, I1.kept (t' := s1.toks) same, turn_enumT a _ _, ⟨⟨.none, he⟩, hk, Nat.succ_ne_self _⟩, fun b hb => ?_, z1⟩
  have young : s1.heap.objs.size ≤ b := by
    rcases one_of_two hb with rfl | rfl
    · exact Nat.le_succ _
    · exact Nat.le_refl _
  exact I1.fpOk young (I1.hok.fresh young)⟩
theorem walk_enumT {K : PySem.W.Frag} {a : Addr} {xs : List V} : Walk (IteT K a) xs.length (fun H => SqT K H a xs) (YPair (fun i => some (.int (i : Nat))) (fun i => xs[i]?)) := by
  refine ⟨fun i _ hi q => ⟨xs, xs[i], q, by simp [hi]⟩, fun _ q => ⟨xs, q, rfl⟩, fun i H v H' _ q ⟨T, x, ev, new, eH, at_i⟩ => ?_⟩
  exact ⟨T, _, x, ev, new, eH, rfl, at_i xs q⟩
end Sq

/-! Rules that the layer has not: t.index(k) of ints, sorted(tuple of ints), sorted(list of rows). -/
namespace Sq
open L2 PySem PySem.Spec PyProof.Rows
section
variable {X : Cx}
def rTupIx (K : PySem.W.Frag) : V → List V → Hp → VK → Prop := fun x xs H Q => ∃ (p : Addr) (ns : List Int) (k : Int), x = .ref p ∧ xs = [.int k] ∧ SqT K H p (ns.map V.int) ∧ k ∈ ns ∧ Q (.int (ns.idxOf k : Nat)) H
theorem mt_tupIx : MtR X "tuple.index" (rTupIx X.K) := by
  rintro pins s σ H x xs v us Q I hv hus ⟨p, ns, k, rfl, rfl, tup, mem, z⟩
  obtain ⟨_, rfl, tk, rfl⟩ := vals1 hus
  cases hv
  obtain ⟨its, vals, at_p, _⟩ := I.tuple tup
  exact SeqAt.tuple_index_ints (show s.heap.IsTuple p its.toArray from at_p) vals.ints mem ⟨.int _, H, I.tok _, ⟨_, rfl⟩, z⟩

/-- sorted(t), a tuple of ints -/
def rSortTup (K : PySem.W.Frag) : List V → Hp → VK → Prop := fun vs H Q => ∃ (a : Addr) (ns : List Int), vs = [V.ref a] ∧ SqT K H a (ns.map V.int) ∧ ∀ (zs : List Int) (p : Addr), zs.Perm ns → zs.Pairwise (· ≤ ·) → H p = none → Q (.ref p) (upd H p (.lst (zs.map V.int)))
/-- a new list with the given items -/
abbrev newL (us : List Value) : Obj := seqObj "list" us.toArray 0
/-- sorted of the tuple at a, its items in an order that the kit's merge can follow (the kit tells it of a list) -/
theorem sorted_tup {P1 : Program} {w1 : World} {A1 : Around} {E1 Q1 : Value → Shared → Prop} {s1 : Shared} {a : Addr} {us : List Value} {lt : Value → Value → Bool} (O : SrtO.Swo lt) (tup : s1.heap.IsTuple a us.toArray) (few : us.length ≤ sizeLine)
    (can : 2 ≤ us.length → ∀ (s2 : Shared) (b : Addr), SrtO.SortableO P1 w1 A1.in1.in1 s2 b us lt)
    (z : ∀ (H1 : Heap) (out : List Value), (∀ x y, s1.heap.get? x = some y → H1.get? x = some y) → H1.get? H1.objs.size = none → SrtO.Srtd lt out → SrtO.Stb lt out us → Q1 (.ref H1.objs.size) { s1 with heap := sortedHeap (H1.push (newL us)) H1.objs.size us out.toArray }) :
    wpAny (model P1 w1) A1 (call (.builtin "sorted") [.ref a]) Q1 E1 s1 := by
  obtain ⟨ob, at_a, ty, m, da⟩ := tup
  refine Calls.call_function_entry kind_sorted plain_sorted entry_sorted (args_sorted1 (.ref a)) ?_
  unfold Builtin.«sorted»
  refine wpAny_bind (m := checkCount _ 1 1 _) (wpAny_pure ?_)
  refine wpAny_bind (wpAny_collect_seq a (.inr rfl) at_a ty da (fun H1 same => ?_) (by rw [List.size_toArray]; exact few))
  rw [List.toList_toArray]
  refine wpAny_bind (wpAny_newList (s := { s1 with heap := H1 }) ?_ few)
  have there : (H1.push (newL us)).get? H1.objs.size = some (newL us) := Heap.get?_push_size _ rfl
  show wpAny _ _ _ _ _ { s1 with heap := H1.push (newL us) }
  refine wpAny_bind (wpAny_holding (wpAny_call_entry slot_list_sort ⟨_, there, rfl⟩ entry_list_sort (SrtO.list_sort_ord O there few (fun two => can two _ _) fun out le_out st_out => ⟨_, rfl, wpAny_pure ?_⟩) (args_list_sort _)))
  exact ⟨_, rfl, z H1 out same (Heap.get?_none_of_le (Nat.le_refl _)) le_out st_out⟩
theorem cr_sortTup : CallR X (.builtin "sorted") (rSortTup X.K) := by
  rintro pins s1 σ H vs us Q I reads ⟨a, ns, rfl, tup, z⟩
  obtain ⟨its, vals, at_a, few⟩ := I.tuple tup
  have all_int := vals.ints
  rw [Vals.ref1 reads]
  refine sorted_tup SrtO.swo_int (show s1.heap.IsTuple a its.toArray from at_a) (vals.length ▸ few) (fun two s2 b => SrtO.ints_sortable all_int two) fun H1 out same no le_out st_out => ?_
  obtain ⟨are, perm, up⟩ := SrtO.ints_out all_int le_out st_out
  obtain ⟨ep, at_new⟩ := PyProof.Rows.sortedHeap_at (vs := its) (out := out.toArray) (show (H1.push (newL its)).get? H1.objs.size = some (newL its) from Heap.get?_push_size _ rfl)
  have I1 : Inv X pins σ H { s1 with heap := H1 } := I.kept (t' := s1.toks) same
  have few' : ((out.map SrtO.iv).map V.int).length ≤ sizeLine := by
    have q := perm.length_eq
    simp only [List.length_map] at few q ⊢
    omega
  have old : ∀ x y, H1.get? x = some y → (sortedHeap (H1.push (newL its)) H1.objs.size its out.toArray).get? x = some y := fun x y q => by
    have lt := Heap.lt_size q
    rw [PyProof.Rows.sortedHeap_old (Nat.ne_of_lt lt) (by rw [Heap.size_push]; exact Nat.lt_succ_of_lt lt)]
    exact Heap.get?_push_of_some (newL its) q
  exact ⟨.ref _, upd H H1.objs.size (.lst ((out.map SrtO.iv).map V.int)), I1.laid (t' := s1.toks) old (Nat.le_refl _) ⟨few', out, ep, vals_of_ints are, at_new⟩, rfl, z _ _ perm up (I1.hok.fresh (Nat.le_refl _))⟩

/-- sorted(xs), xs a list of rows of ints -/
def rowLe (x y : Addr × List Int) : Bool := decide (x.2 ≤ y.2)
def rSortRows (K : PySem.W.Frag) : List V → Hp → VK → Prop := fun vs H Q => ∃ (a : Addr) (ps : List (Addr × List Int)), vs = [V.ref a] ∧ SqL K H a (ps.map fun q => V.ref q.1) ∧ (∀ q ∈ ps, SqL K H q.1 (q.2.map V.int)) ∧
  ∀ p : Addr, H p = none → Q (.ref p) (upd H p (.lst ((ps.mergeSort rowLe).map fun q => V.ref q.1)))
theorem dp_ints {K : PySem.W.Frag} {H : Hp} : ∀ ns : List Int, DpAll K H (ns.map V.int) (ns.map PyData.int)
  | [] => .nil
  | n :: r => .cons (.int n) (dp_ints r)
theorem each_refs : ∀ {ps : List (Addr × List Int)} {its : List Value}, Vals (ps.map fun q => V.ref q.1) its → PySem.W.EachIs (fun v (q : Addr × List Int) => v = Value.ref q.1) its ps
  | [], its, h => by
    rw [List.map_nil] at h
    cases h
    exact .nil
  | q :: r, its, h => by
    rw [List.map_cons] at h
    cases h with
    | cons r1 r2 => exact .cons r1 (each_refs r2)
theorem refs_each : ∀ {ps : List (Addr × List Int)} {its : List Value}, PySem.W.EachIs (fun v (q : Addr × List Int) => v = Value.ref q.1) its ps → Vals (ps.map fun q => V.ref q.1) its
  | _, _, .nil => .nil
  | _, _, .cons r1 r2 => .cons r1 (refs_each r2)
theorem each_more {α β : Type} {R R' : α → β → Prop} : ∀ {as : List α} {bs : List β}, PySem.W.EachIs R as bs → (∀ a b, b ∈ bs → R a b → R' a b) → PySem.W.EachIs R' as bs
  | _, _, .nil, _ => .nil
  | _, _, .cons r1 r2, f => .cons (f _ _ List.mem_cons_self r1) (each_more r2 fun a b h => f a b (List.mem_cons_of_mem _ h))
theorem cr_sortRows (hu : X.A.units + 64 < cLine) : CallR X (.builtin "sorted") (rSortRows X.K) := by
  rintro pins s1 σ H vs us Q I reads ⟨a, ps, rfl, lst, rows, z⟩
  obtain ⟨its, vals, at_a, few⟩ := I.list lst
  rw [List.length_map] at few
  have each := each_refs vals
  rw [Vals.ref1 reads]
  refine PySem.W.sorted_data (R := fun v (q : Addr × List Int) => v = Value.ref q.1) (enc := fun q => .list (q.2.map .int)) (bs := ps) at_a.isList each
    (each_more each fun v b mem ev => Dp.reads I _ (.ref b.1) v (.lst (rows b mem) (dp_ints b.2)) ev)
    (PySem.W.AllAlike.of fun b c => by simp [PySem.W.alike, PySem.W.alike_ints])
    (PySem.W.Sortable.others fun b => ⟨fun q => (nomatch q), fun xs q => (nomatch q)⟩) few (fun b _ => ?_) fun out e1 e2 => ?_
  · have flat : (PyData.list (b.2.map .int)).depth ≤ 2 := by simp [PyData.depth, PySem.W.depth_ints]
    omega
  have le_rows : PySem.W.dataLe false (fun q : Addr × List Int => PyData.list (q.2.map .int)) = rowLe := (PySem.W.dataLe_rows (fun q : Addr × List Int => q.2)).trans rfl
  rw [le_rows] at e2
  obtain ⟨ep, at_new⟩ := PyProof.Rows.sortedAll_at s1.heap its out.toArray
  have few' : ((ps.mergeSort rowLe).map fun q => V.ref q.1).length ≤ sizeLine := by rw [List.length_map, List.length_mergeSort]; exact few
  exact ⟨.ref _, upd H (s1.heap.objs.size + 1) (.lst ((ps.mergeSort rowLe).map fun q => V.ref q.1)), I.laid (t' := s1.toks) (fun _ _ => PyProof.Rows.sortedAll_old) (Nat.le_succ _) ⟨few', out, ep, refs_each e2, at_new⟩, rfl, z _ (I.hok.fresh (Nat.le_succ _))⟩
/-! ### tuples of which it is known that they bear no dict -/
def FzT (H : Hp) (p : Addr) (xs : List V) : Prop := ∃ ob : Obj, ob.dict = none ∧ H p = some (.frz ob (.tup xs))
theorem FzT.sq {K : PySem.W.Frag} {H : Hp} {p : Addr} {xs : List V} (h : FzT H p xs) : SqT K H p xs := by
  obtain ⟨ob, _, h⟩ := h
  exact .inl (.inr ⟨ob, h⟩)
theorem FzT.keep {H H' : Hp} {p : Addr} {xs : List V} (h : FzT H p xs) (e : Same H H') : FzT H' p xs := by
  obtain ⟨ob, hd, h⟩ := h
  exact ⟨ob, hd, e _ _ h⟩
theorem call_tuple_fz : CallR X (.type "tuple") (fun xs H Q => ∃ p ys, xs = [.ref p] ∧ SqL X.K H p ys ∧ ∀ l (ob : Obj), ob.dict = none → H l = none → Q (.ref l) (upd H l (.frz ob (.tup ys)))) := by
  rintro pins s1 σ H xs us Q I reads ⟨p, ys, rfl, lst, z⟩
  obtain ⟨its, vals, at_p, few⟩ := I.list lst
  have many := vals.length
  rw [Vals.ref1 reads]
  refine PySem.call_tuple_list at_p.isList (fun H1 same => ?_) (by simp only [List.size_toArray] <;> omega)
  have I1 : Inv X pins σ H { s1 with heap := H1 } := I.kept (t' := s1.toks) same
  have ok : ObjOk X.prog X.w (upd H H1.objs.size (.frz { cls := .type "tuple", data := .seq its.toArray } (.tup ys))) (H1.push { cls := .type "tuple", data := .seq its.toArray }) H1.objs.size (.frz { cls := .type "tuple", data := .seq its.toArray } (.tup ys)) :=
    ⟨Heap.get?_push_size _ rfl, few, its, vals, IsTup.new _ _⟩
  exact ⟨.ref H1.objs.size, _, I1.laid (t' := s1.toks) (fun x y q => Heap.get?_push_of_some _ q) (Nat.le_refl _) ok, rfl, z _ _ rfl (I1.hok.fresh (Nat.le_refl _))⟩
def tTix (K : PySem.W.Frag) (to : TE) (t : TA) : TE := fun σ H Q => to σ H fun x H1 => (∃ p xs, x = .ref p ∧ FzT H1 p xs) ∧ t σ H1 fun vs H2 => rTupIx K x vs H2 Q
/-- t.index(k): t's object bears no dict, so that the name is the type's -/
theorem pe_tix {o e : Expr} {es : List Expr} {to : TE} {t : TA} {ap cp : Pos} (ho : PE X o to) (ha : PA X (e :: es) t) (base : attributeBase o "index" X.env (eval o X.env) = eval o X.env := by rfl)
    (fewA : ((backTo cp (starEach (e :: es) X.env)).all (fun x => !x.1) && (backToKw cp (keywordEach [] X.env)).all (fun x => x.1.isSome) && decide ((e :: es).length + ([] : List Keyword).length + (if ([] : List Keyword).isEmpty then 0 else 1) < 30)) = true := by rfl)
    (one : (ap.endLine == cp.line) = true := by rfl) (st : starEach (e :: es) X.env = (false, eval e X.env) :: starEach es X.env := by rfl) (noSt : (backTo cp (starEach es X.env)).any (·.1) = false := by rfl) : PE X (.Call (.Attribute o "index" ap) (e :: es) [] cp) (tTix X.K to t) := ⟨fun pins s0 σ H Q I z => by
  refine wpAny_Call_method_late base fewA one rfl (thn (ho.run pins s0 σ H _ I z) fun v s1 ⟨x, H1, I1, rx, z1, z2⟩ => ?_)
  obtain ⟨p, xs, rfl, ob, noD, at_p⟩ := z1
  cases rx
  obtain ⟨g1, _, _, _, o2, g2, g3, _⟩ := (show ObjOk X.prog X.w H1 s1.heap p (.frz ob (.tup xs)) from I1.hok p _ at_p)
  obtain rfl : ob = o2 := Option.some.inj (g1.symm.trans g2)
  refine ⟨"tuple", "tuple.index", PySem.F.plainAttrs_tuple, PySem.F.slot_tuple_index, PySem.F.type_tuple_index, ⟨ob, g2, g3⟩, fun b q => by cases q; exact ⟨ob, g2, noD⟩, ?_⟩
  have args := ha.run cp pins s1 σ H1 _ I1 z2
  rw [st] at args ⊢
  have plain : (false || (backTo cp (starEach es X.env)).any (·.1)) = false := by rw [noSt] <;> rfl
  exact Calls.callWith_builtin plain (Calls.evalArgs_plain (thn args fun us s2 ⟨vs, H2, I2, rs, q⟩ => mt_tupIx pins s2 σ H2 (.ref p) vs (.ref p) us Q I2 rfl rs q))⟩
theorem idx_int (x : Nat) : ∀ l : List Nat, (l.map fun n : Nat => (n : Int)).idxOf (x : Int) = l.idxOf x
  | [] => rfl
  | y :: l => by
    have ih := idx_int x l
    by_cases e : y = x
    · subst e
      simp
    · have e' : ¬ (y : Int) = (x : Int) := fun z => e (by omega)
      have b1 : ((y : Int) == (x : Int)) = false := by simpa using e'
      have b2 : (y == x) = false := by simpa using e
      rw [List.map_cons, List.idxOf_cons, List.idxOf_cons, b1, b2, ih]
theorem sort_two (x y : Addr × List Int) : [x, y].mergeSort rowLe = if rowLe x y = true then [x, y] else [y, x] := by
  simp [List.mergeSort, List.merge, List.MergeSort.Internal.splitInTwo]
end
end Sq

namespace Sq
open L2 PySem PySem.Spec PyProof.Rows
section
variable {mg : Str → Option Value} {base : Heap} {P : Program} {w : World} {K : PySem.W.Frag}
/-! ### is_square -/
def spIsSq : Sp := fun vs H Q _ => ∃ (k n : Nat), vs = [vN k, vN n] ∧ k < n ∧ Q (.bl true) H
theorem scIsSq : FnScope ["square", "many"] ["square", "many"] (defScope sIsSq) := ⟨rfl, rfl, rfl, by decide +kernel, rfl, by decide +kernel, by decide +kernel⟩
theorem ok_isSq {f : Addr} {fd : FuncData} {k : Nat} (F : Fun K "is_square" "is_square" sIsSq f fd) (T : Blt mg) : FnOk P w K mg base CX0 (k + 1) f fd ["square", "many"] spIsSq := by
  refine F.ok scIsSq (fun vs H Q E h => ?_) (fun cdv A outer s H vs Q E hr h => ?_)
  · obtain ⟨k, n, rfl, _⟩ := h
    rfl
  · obtain ⟨k, n, rfl, hk, q⟩ := h
    refine ⟨_, pss_cons (ps_if (PW.pt (pw_or (pt_not (pt_val (pe_callB call_isi (by rfl) T.isinstance (by decide +kernel) (pa_cons (pv 0) (pa_cons (pe_bltn (v := .ty "int") (by rfl) T.int (by decide +kernel) rfl) pa_nil)))))
        (pw_or1 (pt_val (pe_callB call_isi (by rfl) T.isinstance (by decide +kernel) (pa_cons (pv 0) (pa_cons (pe_bltn (v := .ty "bool") (by rfl) T.bool (by decide +kernel) rfl) pa_nil)))))))
        (pss_one ps_never) pss_nil)
      (pss_one (ps_ret (pe_chain op_le op_lt pe_int (pv 0) (pv 1)))), ?_⟩
    refine ⟨_, rfl, vN k, .ty "int", _, _, true, rfl, .ty "int", .base (.int _), kit_ty (by decide +kernel), true, rfl, iteF ?_⟩
    refine ⟨_, rfl, vN k, .ty "bool", _, _, false, rfl, .ty "bool", .base (.int _), kit_ty (by decide +kernel), false, rfl, iteF ?_⟩
    refine ⟨_, rfl, _, _, rfl, rfl, _, rfl, ?_⟩; rw [decide_eq_true (show (0 : Int) ≤ (k : Int) by omega)]
    refine iteT ⟨_, rfl, _, _, rfl, rfl, ?_⟩
    show Q (.bl (decide ((k : Int) < (n : Int)))) H
    rw [decide_eq_true (show (k : Int) < (n : Int) by omega)]
    exact q
/-! ### check_rows -/
def spCheck (K : PySem.W.Frag) : Sp := fun vs H Q _ => ∃ (a b : Addr) (r u : List Nat) (n : Nat), vs = [.ref a, .ref b] ∧ SqL K H a (vL r) ∧ SqL K H b (vL u) ∧ Pm n r ∧ Pm n u ∧ 1 ≤ n ∧ n ≤ 36 ∧
  ∀ H' : Hp, Same H H' → Q .non H'
theorem scCheck : FnScope ["right", "up", "many", "row", "seen", "square"] ["right", "up"] (defScope sCheck) := ⟨rfl, rfl, rfl, by decide +kernel, rfl, by decide +kernel, by decide +kernel⟩
/-- the marks of the squares in l -/
def marks (l : List Nat) : List (Key × V) := l.map fun x : Nat => ((Sum.inl (x : Int) : Key), V.bl true)
theorem marks_len (l : List Nat) : (marks l).length = l.length := by unfold marks; rw [List.length_map]
theorem marks_none {l : List Nat} {x : Nat} (h : x ∉ l) : valV (marks l) (.inl (x : Int)) = none := by
  unfold valV marks
  rw [List.find?_map]
  have e : l.find? ((fun kv : Key × V => decide (kv.1 = Sum.inl (x : Int))) ∘ fun x : Nat => ((Sum.inl (x : Int) : Key), V.bl true)) = none := by
    rw [List.find?_eq_none]
    intro y hy q
    have q' : decide ((Sum.inl (y : Int) : Key) = Sum.inl (x : Int)) = true := q
    have q2 : (y : Int) = (x : Int) := Sum.inl.inj (of_decide_eq_true q')
    exact h ((show y = x by omega) ▸ hy)
  rw [e]
  rfl
theorem marks_some {l : List Nat} {x : Nat} (h : x ∈ l) : valV (marks l) (.inl (x : Int)) = some (.bl true) := by
  unfold valV marks
  rw [List.find?_map]
  cases e : l.find? ((fun kv : Key × V => decide (kv.1 = Sum.inl (x : Int))) ∘ fun x : Nat => ((Sum.inl (x : Int) : Key), V.bl true)) with
  | none =>
    rw [List.find?_eq_none] at e
    exact absurd (show decide ((Sum.inl (x : Int) : Key) = Sum.inl (x : Int)) = true from decide_eq_true rfl) (e x h)
  | some y => rfl
theorem marks_isSome (l : List Nat) (x : Nat) : (valV (marks l) (.inl (x : Int))).isSome = decide (x ∈ l) := by
  by_cases h : x ∈ l
  · rw [marks_some h, decide_eq_true h]
    rfl
  · rw [marks_none h, decide_eq_false h]
    rfl
theorem marks_put {l : List Nat} {x : Nat} (h : x ∉ l) : putK (marks l) (.inl (x : Int)) (.bl true) = marks (l ++ [x]) := by
  rw [putK_new _ (marks_none h)]
  unfold marks
  rw [List.map_append]
  rfl
theorem ok_check {f f1 : Addr} {fd fd1 : FuncData} {k : Nat} (F : Fun K "check_rows" "check_rows" sCheck f fd) (T : Blt mg) (C1 : Cal P w K mg base CX0 k "is_square" ["square", "many"] spIsSq f1 fd1)
    (hM : ∃ t, mg "MOST_SQUARES" = some (.int 36 t)) : FnOk P w K mg base CX0 (k + 1) f fd ["right", "up"] (spCheck K) := by
  obtain ⟨tM, hM⟩ := hM
  refine F.ok scCheck (fun vs H Q E h => ?_) (fun cdv A outer s H vs Q E hr h => ?_)
  · obtain ⟨a, b, r, u, n, rfl, _⟩ := h
    rfl
  · obtain ⟨a, b, r, u, n, rfl, hA, hB, pr, pu, h1, h36, q⟩ := h
    have hu := hu_of hr
    refine ⟨_, pss_cons (ps_set (i := 2) scCheck.nd rfl (.inl rfl) (pe_callB call_len_seq (by rfl) T.len PySem.boot_len (pa_cons (pv 0) pa_nil)))
      (pss_cons (ps_if (PW.pt (pw_or (pt_cmpR op_ne (pv 2) (pe_callB call_len_seq (by rfl) T.len PySem.boot_len (pa_cons (pv 1) pa_nil)) (nomark _)) (pw_or (pt_cmpR op_lt (pv 2) pe_int (nomark _)) (pw_or1 (pt_cmpR op_gt (pv 2) (pe_glob (v := .int 36) (by rfl) hM ⟨_, rfl⟩) (nomark _)))))) (pss_one ps_never) pss_nil)
      (pss_one (ps_for PassesOwn.never rfl (pi_tup (pe_tup (pa_cons (pv 0) (pa_cons (pv 1) pa_nil)))) (pg_name (i := 3) scCheck.nd rfl (.inl rfl))
        (pss_cons (ps_set (i := 4) scCheck.nd rfl (.inl rfl) pe_dnewK)
        (pss_one (ps_for PassesOwn.never rfl (pi_list (pv 3)) (pg_name (i := 5) scCheck.nd rfl (.inl rfl))
          (pss_cons (ps_if (PW.pt (pw_or (pt_not (pt_val (pe_call C1.G hr (by rfl) C1.m C1.kp C1.b .nil pass0 (pa_cons (pv 5) (pa_cons (pv 2) pa_nil))))) (pw_or1 (pt_cmp (pc_din hu (pv 5) (pv 4)))))) (pss_one ps_never) pss_nil)
          (pss_one (ps_dput hu (pv 4) (pv 5) pe_bl rfl))))))))), ?_⟩
    refine ⟨_, rfl, a, _, rfl, .inl hA, ?_⟩
    refine ⟨_, rfl, _, rfl, b, _, rfl, .inl hB, rfl, _, rfl, ?_⟩
    rw [vL_len, vL_len, pr.len, pu.len]
    refine iteNS rfl ?_
    refine ⟨_, rfl, _, _, rfl, rfl, _, rfl, ?_⟩; rw [decide_eq_false (show ¬ ((n : Int) < 1) by omega)]
    refine iteF ⟨_, rfl, _, _, rfl, rfl, _, rfl, ?_⟩
    rw [decide_eq_false (show ¬ ((36 : Int) < (n : Int)) by omega)]
    refine iteF ?_
    refine ⟨_, rfl, _, rfl, (by show 2 ≤ sizeLine; decide), fun t ht => ⟨t, rfl, ⟨_, SqT.of upd_same⟩, for_tup (K := K) (a := t) (xs := [.ref a, .ref b]) (fun j σ' H' => ∃ (v3 v4 v5 : Option V), σ' = [some (.ref a), some (.ref b), some (vN n), v3, v4, v5] ∧ Same H H' ∧ H' t = some (.tup [.ref a, .ref b]))
      ⟨none, none, none, by rw [← pr.len, ← vL_len]; rfl, same_new ht, upd_same⟩ (fun j σ' H' _ ⟨_, _, _, _, _, h⟩ => SqT.of h) ?_ ?_⟩⟩
    · rintro j z σ' H' hz ⟨v3, v4, v5, rfl, sm, hT⟩
      obtain ⟨c, l, rfl, hC, pl⟩ : ∃ (c : Addr) (l : List Nat), z = .ref c ∧ SqL K H c (vL l) ∧ Pm n l := by
        have hj : j < 2 := (List.getElem?_eq_some_iff.mp hz).1
        have : j = 0 ∨ j = 1 := by omega
        rcases this with e | e
        · subst e; exact ⟨a, r, (Option.some.inj hz).symm, hA, pr⟩
        · subst e; exact ⟨b, u, (Option.some.inj hz).symm, hB, pu⟩
      refine fun d hd => ?_
      have hd0 : H d = none := sm.free hd
      have td : t ≠ d := ne_of_none hT hd
      refine ⟨_, rfl, c, rfl, ⟨_, (same_put sm hd0).seq hC⟩, for_list (K := K) (a := c) (xs := vL l) (fun i σ' H' => ∃ (v5 : Option V), σ' = [some (.ref a), some (.ref b), some (vN n), some (.ref c), some (.ref d), v5] ∧ Same H H' ∧ H' t = some (.tup [.ref a, .ref b]) ∧ H' d = some (.dK (marks (l.take i))))
        ⟨v5, rfl, same_put sm hd0, by rw [upd_ne td]; exact hT, upd_same⟩ (fun i σ' H' _ ⟨_, _, sm', _⟩ => sm'.seq hC) ?_ ?_⟩
      · rintro i y σ' H1 hy ⟨v5', rfl, sm1, hT1, hD1⟩
        obtain ⟨hi, rfl⟩ := vL_of_get hy
        have hnew : g l i ∉ l.take i := fun z => by
          obtain ⟨m, hm, e⟩ := mem_g z
          rw [List.length_take] at hm
          have e2 : g (l.take i) m = g l m := g_get (by rw [List.getElem?_take, if_pos (by omega), get_g (by omega)])
          rw [e2] at e
          have := nd_g pl.nd (by omega) hi e
          omega
        refine ⟨_, rfl, _, rfl, g l i, n, rfl, pl.lt _ (g_mem hi), true, rfl, iteF ?_⟩
        refine ⟨_, rfl, _, rfl, d, _, rfl, DGet.k (k := Sum.inl ((g l i : Nat) : Int)) hD1, _, rfl, ?_⟩
        rw [marks_none hnew]
        refine iteF ?_
        refine ⟨_, rfl, _, rfl, d, _, rfl, DPut.k (k := Sum.inl ((g l i : Nat) : Int)) hD1 (by
          rw [marks_len, List.length_take]
          exact Nat.lt_of_le_of_lt (Nat.min_le_right _ _) (small1000 (by have := pl.len; omega))), ?_⟩
        refine ⟨some (vN (g l i)), rfl, same_put sm1 hd0, by rw [upd_ne td]; exact hT1, ?_⟩
        rw [upd_same, marks_put hnew, List.take_add_one, get_g hi]
        rfl
      · rintro σ' H1 ⟨v5', rfl, sm1, hT1, hD1⟩
        exact ⟨_, _, _, rfl, sm1, hT1⟩
    · rintro σ' H1 ⟨v3, v4, v5, rfl, sm, hT⟩
      exact q H1 sm
/-! ### size -/
def spSize (K : PySem.W.Frag) : Sp := fun vs H Q _ => ∃ (p a : Addr) (b : V) (r : List Nat), vs = [.ref p] ∧ SqT K H p [.ref a, b] ∧ SqT K H a (vL r) ∧ Q (vN r.length) H
theorem scSize : FnScope ["sheet"] ["sheet"] (defScope sSize) := ⟨rfl, rfl, rfl, by decide +kernel, rfl, by decide +kernel, by decide +kernel⟩
theorem ok_size {f : Addr} {fd : FuncData} {k : Nat} (F : Fun K "size" "size" sSize f fd) (T : Blt mg) : FnOk P w K mg base CX0 (k + 1) f fd ["sheet"] (spSize K) := by
  refine F.ok scSize (fun vs H Q E h => ?_) (fun cdv A outer s H vs Q E hr h => ?_)
  · obtain ⟨p, a, b, r, rfl, _⟩ := h
    rfl
  · obtain ⟨p, a, b, r, rfl, hP, hA, q⟩ := h
    refine ⟨_, pss_one (ps_ret (pe_callB call_len_seq (by rfl) T.len PySem.boot_len (pa_cons (pe_ix ix_tup (pv 0) pe_int (fun _ _ => rfl)) pa_nil))), ?_⟩
    refine ⟨_, rfl, p, _, _, _, rfl, rfl, hP, atI_nat (j := 0) rfl, a, _, rfl, .inr hA, ?_⟩
    rw [vL_len]
    exact q
end
end Sq

namespace Sq
open L2 PySem PySem.Spec PyProof.Rows
section
variable {mg : Str → Option Value} {base : Heap} {P : Program} {w : World} {K : PySem.W.Frag}
/-! ### check_square -/
def spCkSq (K : PySem.W.Frag) : Sp := fun vs H Q _ => ∃ (p a : Addr) (b : V) (r : List Nat) (x : Nat), vs = [.ref p, vN x] ∧ SqT K H p [.ref a, b] ∧ SqT K H a (vL r) ∧ x < r.length ∧ Q .non H
theorem scCkSq : FnScope ["sheet", "square"] ["sheet", "square"] (defScope sCkSq) := ⟨rfl, rfl, rfl, by decide +kernel, rfl, by decide +kernel, by decide +kernel⟩
theorem ok_ckSq {f f1 f2 : Addr} {fd fd1 fd2 : FuncData} {k : Nat} (F : Fun K "check_square" "check_square" sCkSq f fd) (C1 : Cal P w K mg base CX0 k "is_square" ["square", "many"] spIsSq f1 fd1) (C2 : Cal P w K mg base CX0 k "size" ["sheet"] (spSize K) f2 fd2) :
    FnOk P w K mg base CX0 (k + 1) f fd ["sheet", "square"] (spCkSq K) := by
  refine F.ok scCkSq (fun vs H Q E h => ?_) (fun cdv A outer s H vs Q E hr h => ?_)
  · obtain ⟨p, a, b, r, x, rfl, _⟩ := h
    rfl
  · obtain ⟨p, a, b, r, x, rfl, hP, hA, hx, q⟩ := h
    refine ⟨_, pss_one (ps_if (pt_not (pt_val (pe_call C1.G hr (by rfl) C1.m C1.kp C1.b .nil pass0 (pa_cons (pv 1) (pa_cons (pe_call C2.G hr (by rfl) C2.m C2.kp C2.b .nil pass0 (pa_cons (pv 0) pa_nil)) pa_nil))))) (pss_one ps_never) pss_nil), ?_⟩
    refine ⟨_, rfl, _, rfl, p, a, b, r, rfl, hP, hA, x, r.length, rfl, hx, true, rfl, iteF ?_⟩
    exact q
/-! ### back_row -/
def spBack (K : PySem.W.Frag) : Sp := fun vs H Q _ => ∃ (a : Addr) (r : List Nat) (n : Nat), vs = [.ref a] ∧ SqT K H a (vL r) ∧ Pm n r ∧ n ≤ 36 ∧ ∀ (H' : Hp) (p : Addr), Same H H' → H p = none → H' p = some (.tup (vL (inv n r))) → Q (.ref p) H'
theorem scBack : FnScope ["row", "square", "told", "at"] ["row"] (defScope sBack) := ⟨rfl, rfl, rfl, by decide +kernel, rfl, by decide +kernel, by decide +kernel⟩
theorem ok_back {f : Addr} {fd : FuncData} {k : Nat} (F : Fun K "back_row" "back_row" sBack f fd) (T : Blt mg) : FnOk P w K mg base CX0 (k + 1) f fd ["row"] (spBack K) := by
  refine F.ok scBack (fun vs H Q E h => ?_) (fun cdv A outer s H vs Q E hr h => ?_)
  · obtain ⟨a, r, n, rfl, _⟩ := h
    rfl
  · obtain ⟨a, r, n, rfl, hA, pr, hn, q⟩ := h
    refine ⟨_, pss_cons (ps_setLc (i := 2) (own := [("square", 1)]) (g := gName 1) (by rfl) scBack.nd rfl rfl (sw_true rfl rfl rfl (by decide +kernel)) (pi_tup (pv 0)) (blkOk_by (own := [("square", 1)]) (N := ["row", "square", "told", "at"]) (sc := defScope sBack) (by decide +kernel)) (fun _ _ _ _ _ => pg_name (i := 1) scBack.nd rfl (Or.inl rfl)) (fun _ _ _ _ _ => pts_nil) (fun _ _ _ _ _ => pe_int))
      (pss_cons (ps_for PassesOwn.never rfl (pi_enumT (by rfl) T.enumerate (pa_cons (pv 0) pa_nil)) (pg_tup rfl (pgs_cons (pg_name (i := 3) scBack.nd rfl (.inl rfl)) (pgs_cons (pg_name (i := 1) scBack.nd rfl (.inl rfl)) pgs_nil)))
        (pss_one (ps_asg (pv 3) (pg_sub (pv 2) (pv 1) set_list))))
      (pss_one (ps_ret (pe_callTy call_tuple_of (by rfl) T.tuple (by decide +kernel) (pa_cons (pv 2) pa_nil))))), ?_⟩
    refine ⟨_, rfl, a, rfl, ⟨_, hA⟩, fun D hD => lc_tup (K := K) (a := a) (xs := vL r) (fun i H' => ∃ l : List Nat, l.length = i ∧ Same H H' ∧ H' D = some (.lst (vL l)))
      ⟨[], rfl, same_new hD, upd_same⟩ (fun i H' _ ⟨_, _, sm, _⟩ => seT sm hA) ?_ ?_⟩
    · rintro i x H1 hx ⟨l, rfl, sm, hL⟩
      obtain ⟨hi, rfl⟩ := vL_of_get hx
      refine ⟨rfl, ?_⟩
      refine ⟨vL l, hL, szL (by have := pr.len; omega), l ++ [0], by rw [List.length_append]; rfl, same_put sm hD, by rw [upd_same, vL_snoc]; rfl⟩
    · rintro H1 ⟨l, hl, sm, hL⟩
      rw [vL_len, pr.len] at hl
      refine ⟨_, rfl, a, _, rfl, seT sm hA, for_it walk_enumT (fun i σ H' => ∃ (l : List Nat) (v1 v3 : Option V), σ = [some (.ref a), v1, some (.ref D), v3] ∧ l.length = n ∧ (∀ m, m < i → g l (g r m) = m) ∧ Same H H' ∧ H' D = some (.lst (vL l)))
        ⟨l, none, none, rfl, hl, fun m hm => absurd hm (Nat.not_lt_zero m), sm, hL⟩ (fun i σ H' _ ⟨_, _, _, _, _, _, sm', _⟩ => seT sm' hA) ?_ ?_⟩
      · rintro i x σ H2 H3 hi ⟨l, v1, v3, rfl, hl, hg, sm', hL'⟩ ⟨t, y, z, rfl, ht, rfl, hy, hz⟩
        rw [vL_len] at hi
        have ey : vN i = y := Option.some.inj hy
        obtain ⟨_, rfl⟩ := vL_of_get hz
        subst ey
        have hin : i < n := by have := pr.len; omega
        have hgi : g r i < n := pr.glt hin
        have hDt : upd H2 t (.tup [vN i, vN (g r i)]) D = some (.lst (vL l)) := by rw [upd_ne (ne_of_none hL' ht)]; exact hL'
        refine ⟨t, [vN i, vN (g r i)], rfl, SqT.of upd_same, rfl, _, _, rfl, _, _, rfl, rfl, ?_⟩
        refine ⟨_, rfl, _, rfl, _, rfl, D, _, _, g r i, rfl, rfl, hDt, ?_, ?_⟩
        · unfold ixN
          rw [if_pos (by omega), if_pos (by rw [vL_len, hl]; omega)]
          rfl
        · refine ⟨l.set (g r i) i, _, _, rfl, by rw [List.length_set]; exact hl, fun m hm => ?_, same_put (same_put sm' (sm'.free ht)) hD, by rw [upd_same, vL_set]⟩
          have hmn : m < n := by omega
          rw [g_set (by rw [hl]; exact pr.glt hmn)]
          by_cases e : g r m = g r i
          · rw [if_pos e]
            exact (pr.inj hmn hin e).symm
          · rw [if_neg e]
            refine hg m ?_
            rcases Nat.lt_or_ge m i with c | c
            · exact c
            · exact absurd (show g r m = g r i by rw [show m = i by omega]) e
      · rintro σ H2 ⟨l, v1, v3, rfl, hl, hg, sm', hL'⟩
        rw [vL_len, pr.len] at hg
        refine ⟨_, rfl, D, _, rfl, .inl ⟨SqL.of hL', fun p hp => ?_⟩⟩
        refine q _ p (same_put sm' (sm'.free hp)) (sm'.free hp) ?_
        rw [upd_same, inv_of pr hl hg]
/-! ### steps_of -/
theorem krl : ¬ (Sum.inr ("r" : Str) : Key) = Sum.inr ("l" : Str) := by decide +kernel
theorem kru : ¬ (Sum.inr ("r" : Str) : Key) = Sum.inr ("u" : Str) := by decide +kernel
theorem krd : ¬ (Sum.inr ("r" : Str) : Key) = Sum.inr ("d" : Str) := by decide +kernel
theorem klu : ¬ (Sum.inr ("l" : Str) : Key) = Sum.inr ("u" : Str) := by decide +kernel
theorem kld : ¬ (Sum.inr ("l" : Str) : Key) = Sum.inr ("d" : Str) := by decide +kernel
theorem kud : ¬ (Sum.inr ("u" : Str) : Key) = Sum.inr ("d" : Str) := by decide +kernel
def stepsD (a c b e : Addr) : List (Key × V) := [(.inr "r", .ref a), (.inr "l", .ref c), (.inr "u", .ref b), (.inr "d", .ref e)]
theorem steps_merge (a c b e : Addr) : mergeK [] (stepsD a c b e) = stepsD a c b e := by
  have e1 : putK ([] : List (Key × V)) (Sum.inr "r") (V.ref a) = ([(Sum.inr "r", V.ref a)] : List (Key × V)) := by
    rw [putK_new (kvs := ([] : List (Key × V))) _ rfl]
    rfl
  have e2 : putK ([(Sum.inr "r", V.ref a)] : List (Key × V)) (Sum.inr "l") (V.ref c) = ([(Sum.inr "r", V.ref a), (Sum.inr "l", V.ref c)] : List (Key × V)) := by
    rw [putK_new (kvs := ([(Sum.inr "r", V.ref a)] : List (Key × V))) _ (by rw [valV_neg krl]; rfl)]
    rfl
  have e3 : putK ([(Sum.inr "r", V.ref a), (Sum.inr "l", V.ref c)] : List (Key × V)) (Sum.inr "u") (V.ref b) = ([(Sum.inr "r", V.ref a), (Sum.inr "l", V.ref c), (Sum.inr "u", V.ref b)] : List (Key × V)) := by
    rw [putK_new (kvs := ([(Sum.inr "r", V.ref a), (Sum.inr "l", V.ref c)] : List (Key × V))) _ (by rw [valV_neg kru, valV_neg klu]; rfl)]
    rfl
  have e4 : putK ([(Sum.inr "r", V.ref a), (Sum.inr "l", V.ref c), (Sum.inr "u", V.ref b)] : List (Key × V)) (Sum.inr "d") (V.ref e) = ([(Sum.inr "r", V.ref a), (Sum.inr "l", V.ref c), (Sum.inr "u", V.ref b), (Sum.inr "d", V.ref e)] : List (Key × V)) := by
    rw [putK_new (kvs := ([(Sum.inr "r", V.ref a), (Sum.inr "l", V.ref c), (Sum.inr "u", V.ref b)] : List (Key × V))) _ (by rw [valV_neg krd, valV_neg kld, valV_neg kud]; rfl)]
    rfl
  show putK (putK (putK (putK ([] : List (Key × V)) (Sum.inr ("r" : Str) : Key) (V.ref a)) (Sum.inr ("l" : Str) : Key) (V.ref c)) (Sum.inr ("u" : Str) : Key) (V.ref b)) (Sum.inr ("d" : Str) : Key) (V.ref e) = _
  rw [e1, e2, e3, e4]
  rfl
def spSteps (K : PySem.W.Frag) : Sp := fun vs H Q _ => ∃ (p a b : Addr) (r u : List Nat) (n : Nat), vs = [.ref p] ∧ SqT K H p [.ref a, .ref b] ∧ SqT K H a (vL r) ∧ SqT K H b (vL u) ∧ Pm n r ∧ Pm n u ∧ n ≤ 36 ∧
  ∀ (H' : Hp) (d c e : Addr), Same H H' → H d = none → H' d = some (.dK (stepsD a c b e)) → H' c = some (.tup (vL (inv n r))) → H' e = some (.tup (vL (inv n u))) → Q (.ref d) H'
theorem scSteps : FnScope ["sheet", "right", "up"] ["sheet"] (defScope sSteps) := ⟨rfl, rfl, rfl, by decide +kernel, rfl, by decide +kernel, by decide +kernel⟩
theorem ok_steps {f f1 : Addr} {fd fd1 : FuncData} {k : Nat} (F : Fun K "steps_of" "steps_of" sSteps f fd) (C1 : Cal P w K mg base CX0 k "back_row" ["row"] (spBack K) f1 fd1) : FnOk P w K mg base CX0 (k + 1) f fd ["sheet"] (spSteps K) := by
  refine F.ok scSteps (fun vs H Q E h => ?_) (fun cdv A outer s H vs Q E hr h => ?_)
  · obtain ⟨p, a, b, r, u, n, rfl, _⟩ := h
    rfl
  · obtain ⟨p, a, b, r, u, n, rfl, hP, hA, hB, pr, pu, hn, q⟩ := h
    refine ⟨_, pss_cons (ps_asg (pv 0) (pg_tup rfl (pgs_cons (pg_name (i := 1) scSteps.nd rfl (.inl rfl)) (pgs_cons (pg_name (i := 2) scSteps.nd rfl (.inl rfl)) pgs_nil))))
      (pss_one (ps_ret (pe_disp (pps_cons pe_str (pv 1) (pps_cons pe_str (pe_call C1.G hr (by rfl) C1.m C1.kp C1.b .nil pass0 (pa_cons (pv 1) pa_nil)) (pps_cons pe_str (pv 2) (pps_cons pe_str (pe_call C1.G hr (by rfl) C1.m C1.kp C1.b .nil pass0 (pa_cons (pv 2) pa_nil)) pps_nil)))) (by rfl) (by rfl) (fun z => by cases z) (by decide)))), ?_⟩
    refine ⟨_, rfl, p, _, rfl, hP, rfl, _, _, rfl, _, _, rfl, rfl, ?_⟩
    intro d hd
    have s0 : Same H (upd H d (.dK [])) := same_new hd
    refine ⟨_, rfl, _, rfl, a, r, n, rfl, seT s0 hA, pr, hn, fun H1 c s1 hc hC => ?_⟩
    refine ⟨_, rfl, _, rfl, b, u, n, rfl, seT s1 (seT s0 hB), pu, hn, fun H2 e s2 he hE => ?_⟩
    have hd2 : H2 d = some (.dK []) := s2 _ _ (s1 _ _ upd_same)
    have dc : d ≠ c := ne_of (s1 _ _ upd_same) hC (by intro z; cases z)
    have de : d ≠ e := ne_of hd2 hE (by intro z; cases z)
    refine ⟨hd2, stepsD a c b e, rfl, by show 4 ≤ 15; decide, ?_⟩
    rw [steps_merge]
    refine q _ d c e (same_put (s0.trans (s1.trans s2)) hd) hd upd_same ?_ ?_
    · rw [upd_ne dc.symm]
      exact s2 _ _ hC
    · rw [upd_ne de.symm]
      exact hE
end
end Sq

namespace Sq
open L2 PySem PySem.Spec PyProof.Rows
section
variable {mg : Str → Option Value} {base : Heap} {P : Program} {w : World} {K : PySem.W.Frag}
/-! ### NotTogether.__init__ -/
def spInit (K : PySem.W.Frag) (C : Addr) : Sp := fun vs H Q _ => ∃ (a : Addr) (y : V), vs = [.ref a, y] ∧ OexC K C ∧ PySem.W.findIn K (.ref C) "square" = some none ∧ H a = some (exo a C none) ∧
  ∀ dx, H dx = none → dx ≠ a → Q .non (upd (upd H dx (exd dx [("square", y)])) a (exo a C (some dx)))
theorem scInit : FnScope ["self", "square"] ["self", "square"] (defScope sInit) := ⟨rfl, rfl, rfl, by decide +kernel, rfl, by decide +kernel, by decide +kernel⟩
theorem ok_init {f C : Addr} {fd : FuncData} {k : Nat} (F : Fun K "__init__" "NotTogether.__init__" sInit f fd) : FnOk P w K mg base CX0 (k + 1) f fd ["self", "square"] (spInit K C) := by
  refine F.ok scInit (fun vs H Q E h => ?_) (fun cdv A outer s H vs Q E hr h => ?_)
  · obtain ⟨a, y, rfl, _⟩ := h
    rfl
  · obtain ⟨a, y, rfl, T, hno, ha, q⟩ := h
    refine ⟨_, pss_one (ps_ost (pv 0) (pv 1)), ?_⟩
    exact ⟨_, rfl, _, rfl, a, C, rfl, T, hno, .inl ⟨ha, fun dx h1 h2 => q dx h1 h2⟩⟩
/-- what is known of NotTogether -/
structure Exn (K : PySem.W.Frag) (mg : Str → Option Value) (C fI : Addr) : Prop where
  T : OexC K C
  iC : PySem.W.findIn K (.ref C) "__init__" = some (some (.ref fI))
  tI : PySem.W.typeIn K (.ref fI) = some (.type "function")
  no : PySem.W.findIn K (.ref C) "square" = some none
  m : mg "NotTogether" = some (.ref C)
/-! ### sheet_of -/
def spSheet (K : PySem.W.Frag) (C : Addr) : Sp := fun vs H Q E => ∃ (a b : Addr) (r u : List Nat) (n : Nat), vs = [.ref a, .ref b] ∧ SqL K H a (vL r) ∧ SqL K H b (vL u) ∧ Pm n r ∧ Pm n u ∧ 1 ≤ n ∧ n ≤ 36 ∧
  ((∀ x, x < n → Reach r u 0 x) → ∀ (H' : Hp) (p t1 t2 : Addr), Same H H' → H p = none → H' p = some (.tup [.ref t1, .ref t2]) → FzT H' t1 (vL r) → FzT H' t2 (vL u) → Q (.ref p) H') ∧
  (∀ x, x < n → ¬ Reach r u 0 x → (∀ y, y < x → Reach r u 0 y) → ∀ (H' : Hp) (d : Addr), Same H H' → H' d = some (.xd [("square", vN x)]) → E (.ref C) (some d) H')
theorem scSheet : FnScope ["right", "up", "met", "square"] ["right", "up"] (defScope sSheet) := ⟨rfl, rfl, rfl, by decide +kernel, rfl, by decide +kernel, by decide +kernel⟩
theorem ok_sheet {f f1 f2 fI C : Addr} {fd fd1 fd2 fdI : FuncData} {k : Nat} (F : Fun K "sheet_of" "sheet_of" sSheet f fd) (T : Blt mg) (C1 : Cal P w K mg base CX0 (k + 2) "check_rows" ["right", "up"] (spCheck K) f1 fd1)
    (C2 : Cal P w K mg base CX0 (k + 2) "met_from" ["right", "up", "first"] (spMet K) f2 fd2) (X : Exn K mg C fI) (GI : FnOk P w K mg base CX0 (k + 1) fI fdI ["self", "square"] (spInit K C)) (bI : Binds K fdI ["self", "square"] []) :
    FnOk P w K mg base (L2.CX P w) (k + 3) f fd ["right", "up"] (spSheet K C) := by
  refine F.okX scSheet (fun vs H Q E h => ?_) (fun cdv A outer s H vs Q E hr h => ?_)
  · obtain ⟨a, b, r, u, n, rfl, _⟩ := h
    rfl
  · obtain ⟨a, b, r, u, n, rfl, hA, hB, pr, pu, h1, h36, qw, qa⟩ := h
    refine ⟨_, pss_cons (ps_expr (pe_call C1.G hr (by rfl) C1.m C1.kp C1.b .nil pass0 (pa_cons (pv 0) (pa_cons (pv 1) pa_nil))))
      (pss_cons (ps_set (i := 2) scSheet.nd rfl (.inl rfl) (pe_call C2.G hr (by rfl) C2.m C2.kp C2.b .nil pass0 (pa_cons (pv 0) (pa_cons (pv 1) (pa_cons pe_int pa_nil)))))
      (pss_cons (ps_for (passes_of rfl) rfl (pi_range1 (by rfl) T.range (pa_cons (pe_callB call_len_seq (by rfl) T.len PySem.boot_len (pa_cons (pv 0) pa_nil)) pa_nil)) (pg_name (i := 3) scSheet.nd rfl (.inl rfl))
        (pss_one (ps_if (pt_cmpR op_notIn_seq (pv 3) (pv 2) (by rfl)) (pss_one (ps_raise rfl (takes_of rfl rfl rfl rfl) (pmk_oex X.T X.iC X.tI GI hr bI .nil pass0 (by rfl) X.m (pa_cons (pv 3) pa_nil)))) pss_nil)))
      (pss_one (ps_ret (pe_tup (pa_cons (pe_callTy call_tuple_fz (by rfl) T.tuple (by decide +kernel) (pa_cons (pv 0) pa_nil)) (pa_cons (pe_callTy call_tuple_fz (by rfl) T.tuple (by decide +kernel) (pa_cons (pv 1) pa_nil)) pa_nil))))))), ?_⟩
    refine ⟨_, rfl, _, rfl, a, b, r, u, n, rfl, hA, hB, pr, pu, h1, h36, fun H1 s1 => ?_⟩
    refine ⟨_, rfl, _, rfl, a, b, r, u, n, 0, rfl, .inl (s1.seq hA), .inl (s1.seq hB), pr, pu, by omega, h36, fun ms H2 p hnd hms hml s2 hp hL => ?_⟩
    have s12 := s1.trans s2
    refine ⟨_, rfl, a, _, rfl, .inl (s12.seq hA), ?_⟩
    rw [vL_len, pr.len]
    refine ⟨(n : Int), rfl, by omega, by omega, for_range (lo := 0) (n := ((n : Int)).toNat) (fun i σ H' => ∃ v3 : Option V, σ = [some (.ref a), some (.ref b), some (.ref p), v3] ∧ H' = H2 ∧ ∀ y, y < i → Reach r u 0 y)
      ⟨none, rfl, rfl, fun y hy => absurd hy (Nat.not_lt_zero y)⟩ ?_ ?_⟩
    · rintro i σ H' hi ⟨v3, rfl, rfl, hre⟩
      have hin : i < n := by omega
      rw [show ((0 : Int) + (i : Int)) = (i : Int) by omega]
      refine ⟨_, rfl, _, rfl, p, _, rfl, .inl (SqL.of hL), rfl, vL_flat _, _, rfl, ?_⟩
      rw [inV_vL]
      by_cases c : i ∈ ms
      · rw [decide_eq_true c]
        refine iteF ⟨_, rfl, rfl, fun y hy => ?_⟩
        by_cases e : y = i
        · rw [e]
          exact (hms i).mp c
        · exact hre y (by omega)
      · rw [decide_eq_false c]
        refine iteT ⟨_, rfl, by show 1 ≤ 1000; decide, fun e he => ?_⟩
        refine ⟨e, vN i, rfl, X.T, X.no, upd_same, fun dx hdx hne => ⟨rfl, dx, _, upd_same, by rw [upd_ne hne, upd_same], (upd_none hdx).2, ?_⟩⟩
        have hdx2 := (upd_none hdx).2
        refine qa i hin (fun z => c ((hms i).mpr z)) hre _ dx (fun b o hb => ?_) upd_same
        have hb2 := s12 b o hb
        rw [upd_ne (ne_of_none hb2 hdx2), del_ne (ne_of_none hb2 he), upd_ne (ne_of_none hb2 he), upd_ne (ne_of_none hb2 hdx2), upd_ne (ne_of_none hb2 he)]
        exact hb2
    · rintro σ H' ⟨v3, rfl, rfl, hre⟩
      refine ⟨_, rfl, a, _, rfl, s12.seq hA, fun t1 o1 d1 ht1 => ?_⟩
      have s3 : Same H (upd H' t1 (.frz o1 (.tup (vL r)))) := same_put s12 (s12.free ht1)
      refine ⟨_, rfl, b, _, rfl, s3.seq hB, fun t2 o2 d2 ht2 => ?_⟩
      have s4 : Same H (upd (upd H' t1 (.frz o1 (.tup (vL r)))) t2 (.frz o2 (.tup (vL u)))) := same_put s3 (s3.free ht2)
      refine ⟨by show 2 ≤ sizeLine; decide, fun q hq => ?_⟩
      have n12 := upd_none ht2
      have nq2 := upd_none hq
      have nq1 := upd_none nq2.2
      refine qw (fun x hx => hre x (by omega)) _ q t1 t2 (same_put s4 (s4.free hq)) (s4.free hq) upd_same ⟨o1, d1, ?_⟩ ⟨o2, d2, ?_⟩
      · rw [upd_ne nq1.1.symm, upd_ne n12.1.symm, upd_same]
      · rw [upd_ne nq2.1.symm, upd_same]
end
end Sq

namespace Sq
open L2 PySem PySem.Spec PyProof.Rows
/-- the groups' lists, none of them the list at p -/
def RowsAt (H : Hp) (p : Addr) : List Addr → List (List Nat) → Prop
  | [], [] => True
  | q :: ps, l :: gs => q ≠ p ∧ H q = some (.lst (vL l)) ∧ RowsAt H p ps gs
  | _, _ => False
theorem RowsAt.mono {H H' : Hp} {p : Addr} (k : ∀ q l, q ≠ p → H q = some (.lst (vL l)) → H' q = some (.lst (vL l))) : ∀ {ps : List Addr} {gs : List (List Nat)}, RowsAt H p ps gs → RowsAt H' p ps gs
  | [], [], _ => trivial
  | q :: ps, l :: gs, h => ⟨h.1, k q l h.1 h.2.1, RowsAt.mono k h.2.2⟩
  | [], _ :: _, h => h.elim
  | _ :: _, [], h => h.elim
theorem RowsAt.snoc {H : Hp} {p q : Addr} {l : List Nat} (hq : q ≠ p) (hl : H q = some (.lst (vL l))) : ∀ {ps : List Addr} {gs : List (List Nat)}, RowsAt H p ps gs → RowsAt H p (ps ++ [q]) (gs ++ [l])
  | [], [], _ => ⟨hq, hl, trivial⟩
  | _ :: _, _ :: _, h => ⟨h.1, h.2.1, RowsAt.snoc hq hl h.2.2⟩
  | [], _ :: _, h => h.elim
  | _ :: _, [], h => h.elim
theorem RowsAt.len {H : Hp} {p : Addr} : ∀ {ps : List Addr} {gs : List (List Nat)}, RowsAt H p ps gs → ps.length = gs.length
  | [], [], _ => rfl
  | _ :: _, _ :: _, h => by rw [List.length_cons, List.length_cons, RowsAt.len h.2.2]
  | [], _ :: _, h => h.elim
  | _ :: _, [], h => h.elim
section
variable {mg : Str → Option Value} {base : Heap} {P : Program} {w : World} {K : PySem.W.Frag}
/-! ### groups -/
def spGroups (K : PySem.W.Frag) : Sp := fun vs H Q _ => ∃ (a b : Addr) (r u : List Nat) (n : Nat), vs = [.ref a, .ref b] ∧ SqL K H a (vL r) ∧ SqL K H b (vL u) ∧ Pm n r ∧ Pm n u ∧ 1 ≤ n ∧ n ≤ 36 ∧
  ∀ (H' : Hp) (p : Addr) (ps : List Addr), Same H H' → H p = none → H' p = some (.lst (ps.map V.ref)) → RowsAt H' p ps (gr n r u n) → Q (.ref p) H'
theorem scGroups : FnScope ["right", "up", "told", "seen", "square", "group", "one"] ["right", "up"] (defScope sGroups) := ⟨rfl, rfl, rfl, by decide +kernel, rfl, by decide +kernel, by decide +kernel⟩
theorem ok_groups {f f1 f2 : Addr} {fd fd1 fd2 : FuncData} {k : Nat} (F : Fun K "groups" "groups" sGroups f fd) (T : Blt mg) (C1 : Cal P w K mg base CX0 k "check_rows" ["right", "up"] (spCheck K) f1 fd1)
    (C2 : Cal P w K mg base CX0 k "met_from" ["right", "up", "first"] (spMet K) f2 fd2) : FnOk P w K mg base CX0 (k + 1) f fd ["right", "up"] (spGroups K) := by
  refine F.ok scGroups (fun vs H Q E h => ?_) (fun cdv A outer s H vs Q E hr h => ?_)
  · obtain ⟨a, b, r, u, n, rfl, _⟩ := h
    rfl
  · obtain ⟨a, b, r, u, n, rfl, hA, hB, pr, pu, h1, h36, q⟩ := h
    have hu := hu_of hr
    refine ⟨_, pss_cons (ps_expr (pe_call C1.G hr (by rfl) C1.m C1.kp C1.b .nil pass0 (pa_cons (pv 0) (pa_cons (pv 1) pa_nil))))
      (pss_cons (ps_set (i := 2) scGroups.nd rfl (.inl rfl) (pe_lst pa_nil))
      (pss_cons (ps_set (i := 3) scGroups.nd rfl (.inl rfl) pe_dnewK)
      (pss_cons (ps_for PassesOwn.never rfl (pi_range1 (by rfl) T.range (pa_cons (pe_callB call_len_seq (by rfl) T.len PySem.boot_len (pa_cons (pv 0) pa_nil)) pa_nil)) (pg_name (i := 4) scGroups.nd rfl (.inl rfl))
        (pss_one (ps_if (pt_cmp (pc_dnotin hu (pv 4) (pv 3)))
          (pss_cons (ps_set (i := 5) scGroups.nd rfl (.inl rfl) (pe_callB cr_sortedI (by rfl) T.sorted (by decide +kernel) (pa_cons (pe_call C2.G hr (by rfl) C2.m C2.kp C2.b .nil pass0 (pa_cons (pv 0) (pa_cons (pv 1) (pa_cons (pv 4) pa_nil)))) pa_nil)))
          (pss_cons (ps_for PassesOwn.never rfl (pi_list (pv 5)) (pg_name (i := 6) scGroups.nd rfl (.inl rfl)) (pss_one (ps_dput hu (pv 3) (pv 6) pe_bl rfl)))
          (pss_one (ps_expr (pe_bm PySem.F.plainAttrs_list PySem.F.slot_list_append PySem.F.type_list_append mt_append (pv 2) (pa_cons (pv 5) pa_nil)))))) pss_nil)))
      (pss_one (ps_ret (pv 2)))))), ?_⟩
    refine ⟨_, rfl, _, rfl, a, b, r, u, n, rfl, hA, hB, pr, pu, h1, h36, fun H1 s1 => ?_⟩
    refine ⟨Nat.zero_le _, fun p hp => ?_⟩
    intro d hd
    have hp0 : H p = none := s1.free hp
    have nd := upd_none hd
    have hd0 : H d = none := s1.free nd.2
    have s2 : Same H (upd (upd H1 p (.lst [])) d (.dK [])) := same_put (same_put s1 hp0) hd0
    refine ⟨_, rfl, a, _, rfl, .inl (s2.seq hA), ?_⟩
    rw [vL_len, pr.len]
    refine ⟨(n : Int), rfl, by omega, by omega, for_range (lo := 0) (n := ((n : Int)).toNat) (fun i σ H' => ∃ (ps : List Addr) (v4 v5 v6 : Option V), σ = [some (.ref a), some (.ref b), some (.ref p), some (.ref d), v4, v5, v6] ∧ Same H H' ∧ H' p = some (.lst (ps.map V.ref)) ∧ H' d = some (.dK (marks (gr n r u i).flatten)) ∧ RowsAt H' p ps (gr n r u i))
      ⟨[], none, none, none, rfl, s2, by rw [upd_ne nd.1.symm, upd_same]; rfl, upd_same, by rw [gr_zero]; trivial⟩ ?_ ?_⟩
    · rintro i σ H2 hi ⟨ps, v4, v5, v6, rfl, sm, hP, hD, hR⟩
      have hin : i < n := by omega
      rw [show ((0 : Int) + (i : Int)) = (i : Int) by omega]
      refine ⟨_, rfl, _, rfl, d, _, rfl, DGet.k (k := Sum.inl ((i : Nat) : Int)) hD, _, rfl, ?_⟩
      rw [marks_isSome]
      by_cases c : i ∈ (gr n r u i).flatten
      · rw [decide_eq_true c]
        refine iteF ?_
        refine ⟨ps, _, _, _, rfl, sm, hP, ?_, ?_⟩
        · rw [gr_succ]
          unfold grStep
          rw [if_pos c]
          exact hD
        · rw [gr_succ]
          unfold grStep
          rw [if_pos c]
          exact hR
      · rw [decide_eq_false c]
        refine iteT ?_
        refine ⟨_, rfl, _, rfl, _, rfl, a, b, r, u, n, i, rfl, .inl (sm.seq hA), .inl (sm.seq hB), pr, pu, hin, h36, fun ms H3 m hnd hms hml s3 hm hM => ?_⟩
        refine ⟨m, ms.map (fun n : Nat => (n : Int)), rfl, SqL.of (by rw [hM, vL_int]), fun ns' g2 hperm hsort hg => ?_⟩
        obtain ⟨l, rfl, hlp, hls⟩ := sorted_nat hperm hsort hnd
        have el : l = cls n r u i := rise_perm hlp hls hms pr pu hin
        have dg : d ≠ g2 := ne_of_none (s3 _ _ hD) hg
        have pg : p ≠ g2 := ne_of_none (s3 _ _ hP) hg
        have sm3 : Same H H3 := sm.trans s3
        have hg0 : H g2 = none := sm3.free hg
        have hG : upd H3 g2 (.lst ((l.map fun n : Nat => (n : Int)).map V.int)) g2 = some (.lst (vL l)) := by rw [upd_same, vL_int]
        have fl0 : ∀ x ∈ l, x ∉ (gr n r u i).flatten := fun x hx => gr_new pr pu (by omega) hin c (el ▸ hx)
        have lnd : l.Nodup := by rw [el]; exact cls_nd
        have llt : ∀ x ∈ l, x < n := fun x hx => by rw [el] at hx; exact (mem_cls.mp hx).1
        have hfl := gr_flen pr pu (i := i) (by omega)
        have hll : l.length ≤ n := len_of_lt lnd llt
        refine ⟨_, rfl, g2, rfl, ⟨_, SqL.of hG⟩, for_list (K := K) (a := g2) (xs := vL l) (fun j σ' H' => ∃ (v6 : Option V), σ' = [some (.ref a), some (.ref b), some (.ref p), some (.ref d), some (vN i), some (.ref g2), v6] ∧ Same H H' ∧ H' p = some (.lst (ps.map V.ref)) ∧ H' d = some (.dK (marks ((gr n r u i).flatten ++ l.take j))) ∧ RowsAt H' p ps (gr n r u i) ∧ H' g2 = some (.lst (vL l)))
          ⟨v6, rfl, same_put sm3 hg0, by rw [upd_ne pg]; exact s3 _ _ hP, by rw [upd_ne dg, List.take_zero, List.append_nil]; exact s3 _ _ hD, hR.mono (fun q l' _ h => by rw [upd_ne (ne_of_none (s3 _ _ h) hg)]; exact s3 _ _ h), hG⟩ (fun j σ' H' _ ⟨_, _, _, _, _, _, h⟩ => SqL.of h) ?_ ?_⟩
        · rintro j z σ' H4 hz ⟨v6', rfl, sm4, hP4, hD4, hR4, hG4⟩
          obtain ⟨hj, rfl⟩ := vL_of_get hz
          have hnew : g l j ∉ (gr n r u i).flatten ++ l.take j := fun z => by
            rcases List.mem_append.mp z with z | z
            · exact fl0 _ (g_mem hj) z
            · obtain ⟨m', hm', e⟩ := mem_g z
              rw [List.length_take] at hm'
              have e2 : g (l.take j) m' = g l m' := g_get (by rw [List.getElem?_take, if_pos (by omega), get_g (by omega)])
              rw [e2] at e
              have := nd_g lnd (by omega) hj e
              omega
          refine ⟨_, rfl, _, rfl, d, _, rfl, DPut.k (k := Sum.inl ((g l j : Nat) : Int)) hD4 (by
            rw [marks_len, List.length_append, List.length_take]
            exact small1000 (by omega)), ?_⟩
          have dp4 : d ≠ p := ne_of hD4 hP4 (by intro z; cases z)
          have dg4 : d ≠ g2 := ne_of hD4 hG4 (by intro z; cases z)
          refine ⟨some (vN (g l j)), rfl, same_put sm4 hd0, by rw [upd_ne dp4.symm]; exact hP4, ?_, hR4.mono (fun q l' _ h => by rw [upd_ne (ne_of h hD4 (by intro z; cases z))]; exact h), by rw [upd_ne dg4.symm]; exact hG4⟩
          rw [upd_same, marks_put hnew, List.append_assoc, List.take_add_one, get_g hj]
          rfl
        · rintro σ' H4 ⟨v6', rfl, sm4, hP4, hD4, hR4, hG4⟩
          rw [vL_len, List.take_length] at hD4
          refine ⟨_, rfl, .inl ⟨rfl, _, SqL.of hP4⟩, _, rfl, p, _, _, rfl, rfl, hP4, ?_, ?_⟩
          · have hpl := hR4.len
            have hgl := gr_len (n := n) (r := r) (u := u) i
            rw [List.length_map, hpl]
            exact small1000 (by omega)
          have dp4 : d ≠ p := ne_of hD4 hP4 (by intro z; cases z)
          refine ⟨ps ++ [g2], _, _, _, rfl, same_put sm4 hp0, by rw [upd_same, List.map_append]; rfl, ?_, ?_⟩
          · rw [upd_ne dp4, hD4, gr_succ]
            unfold grStep
            rw [if_neg c, List.flatten_append, List.flatten_cons, List.flatten_nil, List.append_nil, el]
          · rw [gr_succ]
            unfold grStep
            rw [if_neg c, ← el]
            refine RowsAt.snoc pg.symm (by rw [upd_ne pg.symm]; exact hG4) (hR4.mono fun q l' hq h => by rw [upd_ne hq]; exact h)
    · rintro σ H2 ⟨ps, v4, v5, v6, rfl, sm, hP, hD, hR⟩
      refine ⟨_, rfl, q H2 p ps sm hp0 hP ?_⟩
      exact hR
end
end Sq

namespace Sq
open L2 PySem PySem.Spec PyProof.Rows
/-! ### paths as texts -/
def code (k : Nat) : Nat := if k = 0 then 114 else if k = 1 then 108 else if k = 2 then 117 else 100
def txt (w : List Nat) : Str := ⟨(w.map code).toArray⟩
theorem txt_len (w : List Nat) : (txt w).length = w.length := by
  show ((w.map code).toArray).size = w.length
  rw [List.size_toArray]; rw [List.length_map]
theorem txt_size (w : List Nat) : (txt w).cps.size = w.length := txt_len w
theorem txt_get {w : List Nat} {i c : Nat} (h : (txt w).cps[i]? = some c) : i < w.length ∧ c = code (g w i) := by
  have h' : (w.map code)[i]? = some c := by
    rw [← h]
    show _ = ((w.map code).toArray)[i]?
    rw [List.getElem?_toArray]
  rw [List.getElem?_map] at h'
  cases e : w[i]? with
  | none =>
    rw [e] at h'
    cases h'
  | some k =>
    rw [e] at h'
    have hi := (List.getElem?_eq_some_iff.mp e).1
    rw [g_get e]
    exact ⟨hi, (Option.some.inj h').symm⟩
theorem txt_snoc (w : List Nat) (k : Nat) : txt w ++ (⟨#[code k]⟩ : Str) = txt (w ++ [k]) := by
  show Str.mk ((w.map code).toArray ++ #[code k]) = Str.mk (((w ++ [k]).map code).toArray)
  rw [List.map_append]
  simp
theorem rlud_eq : ("rlud" : Str) = txt [0, 1, 2, 3] := by decide +kernel
theorem empty_eq : ("" : Str) = txt [] := by decide +kernel
theorem r_eq : ("r" : Str) = ⟨#[code 0]⟩ := by decide +kernel
theorem l_eq : ("l" : Str) = ⟨#[code 1]⟩ := by decide +kernel
theorem u_eq : ("u" : Str) = ⟨#[code 2]⟩ := by decide +kernel
theorem d_eq : ("d" : Str) = ⟨#[code 3]⟩ := by decide +kernel
def dsel (a c b e : Addr) (k : Nat) : Addr := if k = 0 then a else if k = 1 then c else if k = 2 then b else e
theorem steps_val (a c b e : Addr) {k : Nat} (h : k < 4) : valV (stepsD a c b e) (Sum.inr ⟨#[code k]⟩) = some (.ref (dsel a c b e k)) := by
  have : k = 0 ∨ k = 1 ∨ k = 2 ∨ k = 3 := by omega
  unfold stepsD
  rcases this with rfl | rfl | rfl | rfl
  · rw [← r_eq, valV_pos rfl]
    rfl
  · rw [← l_eq, valV_neg krl, valV_pos rfl]
    rfl
  · rw [← u_eq, valV_neg kru, valV_neg klu, valV_pos rfl]
    rfl
  · rw [← d_eq, valV_neg krd, valV_neg kld, valV_neg kud, valV_pos rfl]
    rfl
theorem dsel_at {K : PySem.W.Frag} {H : Hp} {a b c e : Addr} {r u : List Nat} {n : Nat} (hA : SqT K H a (vL r)) (hB : SqT K H b (vL u)) (hC : H c = some (.tup (vL (inv n r)))) (hE : H e = some (.tup (vL (inv n u)))) (k : Nat) : SqT K H (dsel a c b e k) (vL (rowk n r u k)) := by
  unfold dsel rowk
  split
  · exact hA
  · split
    · exact SqT.of hC
    · split
      · exact hB
      · exact SqT.of hE
/-- the dict of the paths -/
structure PD (kvs : List (Key × V)) (ws : List Nat) (pf : Nat → List Nat) : Prop where
  len : kvs.length ≤ ws.length
  val : ∀ y : Nat, valV kvs (.inl (y : Int)) = if y ∈ ws then some (.str (txt (pf y))) else none
theorem PD.start (x : Nat) : PD [(Sum.inl (x : Int), .str (txt []))] [x] fun _ => [] := by
  refine ⟨Nat.le_refl _, fun y => ?_⟩
  by_cases c : y = x
  · subst c
    rw [if_pos (List.mem_singleton.mpr rfl), valV_pos rfl]
  · rw [if_neg (fun z => c (List.mem_singleton.mp z)), valV_neg (fun z => c (by have q := Sum.inl.inj z; omega))]
    rfl
theorem PD.put {kvs : List (Key × V)} {ws : List Nat} {pf : Nat → List Nat} (p : PD kvs ws pf) {z : Nat} (hz : z ∉ ws) (q : List Nat) : PD (putK kvs (.inl (z : Int)) (.str (txt q))) (ws ++ [z]) (fun y => if y = z then q else pf y) := by
  have e : valV kvs (.inl (z : Int)) = none := by rw [p.val, if_neg hz]
  rw [putK_new _ e]
  refine ⟨?_, fun y => ?_⟩
  · rw [List.length_append, List.length_append]
    have := p.len
    simp only [List.length_singleton]
    omega
  · rw [valV_snoc _ _ _ _ e]
    by_cases c : y = z
    · subst c
      rw [if_pos rfl, if_pos (List.mem_append_right _ (List.mem_singleton.mpr rfl)), if_pos rfl]
    · rw [if_neg (fun t => c (by have q := Sum.inl.inj t; omega)), p.val, if_neg c]
      by_cases d : y ∈ ws
      · rw [if_pos d, if_pos (List.mem_append_left _ d)]
      · rw [if_neg d, if_neg (fun t => by
          rcases List.mem_append.mp t with t | t
          · exact d t
          · exact c (List.mem_singleton.mp t))]
section
variable {mg : Str → Option Value} {base : Heap} {P : Program} {w : World} {K : PySem.W.Frag}
/-! ### gone -/
def spGone (K : PySem.W.Frag) : Sp := fun vs H Q _ => ∃ (p a b : Addr) (r u : List Nat) (n x : Nat) (pw : List Nat), vs = [.ref p, vN x, .str (txt pw)] ∧ SqT K H p [.ref a, .ref b] ∧ SqT K H a (vL r) ∧ SqT K H b (vL u) ∧ Pm n r ∧ Pm n u ∧ n ≤ 36 ∧ x < n ∧ (∀ k ∈ pw, k < 4) ∧
  ∀ H' : Hp, Same H H' → Q (vN (walkW n r u x pw)) H'
theorem scGone : FnScope ["sheet", "square", "path", "steps", "letter"] ["sheet", "square", "path"] (defScope sGone) := ⟨rfl, rfl, rfl, by decide +kernel, rfl, by decide +kernel, by decide +kernel⟩
theorem ok_gone {f f1 f2 : Addr} {fd fd1 fd2 : FuncData} {k : Nat} (F : Fun K "gone" "gone" sGone f fd) (C1 : Cal P w K mg base CX0 k "check_square" ["sheet", "square"] (spCkSq K) f1 fd1)
    (C2 : Cal P w K mg base CX0 k "steps_of" ["sheet"] (spSteps K) f2 fd2) : FnOk P w K mg base CX0 (k + 1) f fd ["sheet", "square", "path"] (spGone K) := by
  refine F.ok scGone (fun vs H Q E h => ?_) (fun cdv A outer s H vs Q E hr h => ?_)
  · obtain ⟨p, a, b, r, u, n, x, pw, rfl, _⟩ := h
    rfl
  · obtain ⟨p, a, b, r, u, n, x, pw, rfl, hP, hA, hB, pr, pu, h36, hx, hw, q⟩ := h
    have hu := hu_of hr
    refine ⟨_, pss_cons (ps_expr (pe_call C1.G hr (by rfl) C1.m C1.kp C1.b .nil pass0 (pa_cons (pv 0) (pa_cons (pv 1) pa_nil))))
      (pss_cons (ps_set (i := 3) scGone.nd rfl (.inl rfl) (pe_call C2.G hr (by rfl) C2.m C2.kp C2.b .nil pass0 (pa_cons (pv 0) pa_nil)))
      (pss_cons (ps_for PassesOwn.never rfl (pi_str (pv 2)) (pg_name (i := 4) scGone.nd rfl (.inl rfl))
        (pss_cons (ps_if (pt_cmp (pc_dnotin hu (pv 4) (pv 3))) (pss_one ps_never) pss_nil)
        (pss_one (ps_set (i := 1) scGone.nd rfl (.inl rfl) (pe_ix ix_tup (pe_dget hu (pv 3) (pv 4) (fun _ _ => rfl)) (pv 1) (fun _ _ => rfl))))))
      (pss_one (ps_ret (pv 1))))), ?_⟩
    refine ⟨_, rfl, _, rfl, p, a, .ref b, r, x, rfl, hP, hA, by rw [pr.len]; exact hx, ?_⟩
    refine ⟨_, rfl, p, a, b, r, u, n, rfl, hP, hA, hB, pr, pu, h36, fun H1 d c e s1 hd hD hC hE => ?_⟩
    refine ⟨_, rfl, txt pw, rfl, for_it walk_str (fun i σ H' => ∃ v4 : Option V, σ = [some (.ref p), some (vN (walkW n r u x (pw.take i))), some (.str (txt pw)), some (.ref d), v4] ∧ H' = H1)
      ⟨none, rfl, rfl⟩ (fun _ _ _ _ _ => trivial) ?_ ?_⟩
    · rintro i v σ H2 H3 hi ⟨v4, rfl, rfl⟩ ⟨rfl, cc, hc, rfl⟩
      obtain ⟨hiw, rfl⟩ := txt_get hc
      have hk : g pw i < 4 := hw _ (g_mem hiw)
      have hg := DGet.k (k := Sum.inr ⟨#[code (g pw i)]⟩) hD
      rw [steps_val a c b e hk] at hg
      refine ⟨_, rfl, _, rfl, d, _, rfl, hg, _, rfl, iteF ?_⟩
      refine ⟨_, rfl, _, rfl, d, _, rfl, hg, _, rfl, _, _, _, _, rfl, rfl, dsel_at (seT s1 hA) (seT s1 hB) hC hE (g pw i), vL_at (by rw [rowk_len pr pu]; exact walkW_lt pr pu _ hx), ?_⟩
      refine ⟨some (.str ⟨#[code (g pw i)]⟩), ?_, rfl⟩
      rw [walkW_take hiw]
      rfl
    · rintro σ H2 ⟨v4, rfl, rfl⟩
      refine ⟨_, rfl, ?_⟩
      rw [txt_size, List.take_length]
      exact q _ s1
/-! ### path_between -/
def spPath (K : PySem.W.Frag) : Sp := fun vs H Q _ => ∃ (p a b : Addr) (r u : List Nat) (n x y : Nat), vs = [.ref p, vN x, vN y] ∧ SqT K H p [.ref a, .ref b] ∧ SqT K H a (vL r) ∧ SqT K H b (vL u) ∧ Pm n r ∧ Pm n u ∧ n ≤ 36 ∧ x < n ∧ y < n ∧ Reach r u x y ∧
  ∀ (H' : Hp) (pw : List Nat), Same H H' → pw.length < n → (∀ k ∈ pw, k < 4) → walkW n r u x pw = y → Q (.str (txt pw)) H'
theorem scPath : FnScope ["sheet", "one", "other", "steps", "paths", "waiting", "at", "here", "letter", "there"] ["sheet", "one", "other"] (defScope sPath) := ⟨rfl, rfl, rfl, by decide +kernel, rfl, by decide +kernel, by decide +kernel⟩
theorem ok_path {f f1 f2 : Addr} {fd fd1 fd2 : FuncData} {k : Nat} (F : Fun K "path_between" "path_between" sPath f fd) (C1 : Cal P w K mg base CX0 k "check_square" ["sheet", "square"] (spCkSq K) f1 fd1)
    (C2 : Cal P w K mg base CX0 k "steps_of" ["sheet"] (spSteps K) f2 fd2) : FnOk P w K mg base CX0 (k + 1) f fd ["sheet", "one", "other"] (spPath K) := by
  refine F.ok scPath (fun vs H Q E h => ?_) (fun cdv A outer s H vs Q E hr h => ?_)
  · obtain ⟨p, a, b, r, u, n, x, y, rfl, _⟩ := h
    rfl
  · obtain ⟨p, a, b, r, u, n, x, y, rfl, hP, hA, hB, pr, pu, h36, hx, hy, hre, q⟩ := h
    have hu := hu_of hr
    refine ⟨_, pss_cons (ps_expr (pe_call C1.G hr (by rfl) C1.m C1.kp C1.b .nil pass0 (pa_cons (pv 0) (pa_cons (pv 1) pa_nil))))
      (pss_cons (ps_expr (pe_call C1.G hr (by rfl) C1.m C1.kp C1.b .nil pass0 (pa_cons (pv 0) (pa_cons (pv 2) pa_nil))))
      (pss_cons (ps_set (i := 3) scPath.nd rfl (.inl rfl) (pe_call C2.G hr (by rfl) C2.m C2.kp C2.b .nil pass0 (pa_cons (pv 0) pa_nil)))
      (pss_cons (ps_set (i := 4) scPath.nd rfl (.inl rfl) (pe_disp (pps_cons (pv 1) pe_str pps_nil) (by rfl) (by rfl) (fun z => by cases z) (by decide)))
      (pss_cons (ps_set (i := 5) scPath.nd rfl (.inl rfl) (pe_lst (pa_cons (pv 1) pa_nil)))
      (pss_cons (ps_set (i := 6) scPath.nd rfl (.inl rfl) pe_int)
      (pss_cons (ps_while PassesOwn.never (pt_cmp (pc_dnotin hu (pv 2) (pv 4)))
        (pss_cons (ps_set (i := 7) scPath.nd rfl (.inl rfl) (pe_ix ix_list (pv 5) (pv 6) (fun _ _ => rfl)))
        (pss_cons (ps_set (i := 6) scPath.nd rfl (.inl rfl) (pe_op op_add (pv 6) pe_int))
        (pss_one (ps_for PassesOwn.never rfl (pi_str pe_str) (pg_name (i := 8) scPath.nd rfl (.inl rfl))
          (pss_cons (ps_set (i := 9) scPath.nd rfl (.inl rfl) (pe_ix ix_tup (pe_dget hu (pv 3) (pv 8) (fun _ _ => rfl)) (pv 7) (fun _ _ => rfl)))
          (pss_one (ps_if (pt_cmp (pc_dnotin hu (pv 9) (pv 4)))
            (pss_cons (ps_dput hu (pv 4) (pv 9) (pe_op op_add_str (pe_dget hu (pv 4) (pv 7) (fun _ _ => rfl)) (pv 8)) rfl)
            (pss_one (ps_expr (pe_bm PySem.F.plainAttrs_list PySem.F.slot_list_append PySem.F.type_list_append mt_append (pv 5) (pa_cons (pv 9) pa_nil))))) pss_nil))))))))
      (pss_one (ps_ret (pe_dget hu (pv 4) (pv 2) (fun _ _ => rfl)))))))))), ?_⟩
    refine ⟨_, rfl, _, rfl, p, a, .ref b, r, x, rfl, hP, hA, by rw [pr.len]; exact hx, ?_⟩
    refine ⟨_, rfl, _, rfl, p, a, .ref b, r, y, rfl, hP, hA, by rw [pr.len]; exact hy, ?_⟩
    refine ⟨_, rfl, p, a, b, r, u, n, rfl, hP, hA, hB, pr, pu, h36, fun H1 d c e s1 hd hD hC hE => ?_⟩
    -- paths = {one: ""}
    intro m hm
    have hm0 : H m = none := s1.free hm
    refine ⟨_, rfl, upd_same, [(Sum.inl (x : Int), .str (txt []))], ?_, by show 1 ≤ 15; decide, ?_⟩
    · rw [← empty_eq]
      rfl
    rw [upd_upd]
    refine ⟨_, rfl, (by show 1 ≤ sizeLine; decide), fun l hl => ?_⟩
    have nl := upd_none hl
    have hl0 : H l = none := s1.free nl.2
    have s2 : Same H1 (upd (upd H1 m (.dK (mergeK [] [(Sum.inl (x : Int), .str (txt []))]))) l (.lst [vN x])) := same_put (same_new hm) nl.2
    refine ⟨fun t σ H' => ∃ (i : Nat) (ws : List Nat) (pf : Nat → List Nat) (kvs : List (Key × V)) (v7 v8 v9 : Option V), σ = [some (.ref p), some (vN x), some (vN y), some (.ref d), some (.ref m), some (.ref l), some (vN i), v7, v8, v9] ∧ t = n - i ∧ PathI n r u x i ws pf ∧ PD kvs ws pf ∧ Same H1 H' ∧ H' m = some (.dK kvs) ∧ H' l = some (.lst (vL ws)),
      ⟨n, 0, [x], fun _ => [], [(Sum.inl (x : Int), .str (txt []))], none, none, none, rfl, rfl, PathI.start hx, PD.start x, s2, by rw [upd_ne nl.1.symm, upd_same]; rfl, upd_same⟩, fun t σ H2 hW => ?_⟩
    obtain ⟨i, ws, pf, kvs, v7, v8, v9, rfl, rfl, M, D, sm, hM, hL⟩ := hW
    refine ⟨_, rfl, _, rfl, m, _, rfl, DGet.k (k := Sum.inl ((y : Nat) : Int)) hM, _, rfl, ?_⟩
    rw [D.val]
    by_cases cy : y ∈ ws
    · rw [if_pos cy]
      refine iteF ?_
      have hg := DGet.k (k := Sum.inl ((y : Nat) : Int)) hM
      rw [D.val, if_pos cy] at hg
      obtain ⟨o1, o2, o3⟩ := M.out cy
      exact ⟨_, rfl, _, rfl, m, _, rfl, hg, q H2 (pf y) (s1.trans sm) o1 o2 o3⟩
    · rw [if_neg cy]
      refine iteT ?_
      have hi : i < ws.length := M.more cy hre
      have hwl := M.len
      have hin : i < n := by omega
      have hhere : g ws i < n := M.lt _ (g_mem hi)
      refine ⟨fun σ' H' => ∃ (ws : List Nat) (pf : Nat → List Nat) (kvs : List (Key × V)) (v7 v8 v9 : Option V), σ' = [some (.ref p), some (vN x), some (vN y), some (.ref d), some (.ref m), some (.ref l), some (vN (i + 1)), v7, v8, v9] ∧ PathI n r u x (i + 1) ws pf ∧ PD kvs ws pf ∧ Same H1 H' ∧ H' m = some (.dK kvs) ∧ H' l = some (.lst (vL ws)), fun σ' H' hN => ?_, ?_⟩
      · obtain ⟨ws', pf', kvs', v7', v8', v9', e', M', D', sm', hM', hL'⟩ := hN
        exact ⟨n - (i + 1), by omega, i + 1, ws', pf', kvs', v7', v8', v9', e', rfl, M', D', sm', hM', hL'⟩
      refine ⟨_, rfl, _, rfl, l, _, _, _, rfl, rfl, SqL.of hL, vL_at hi, ?_⟩
      refine ⟨_, rfl, _, _, rfl, rfl, (?_)⟩
      have hsz : ("rlud" : Str).cps.size = 4 := by decide +kernel
      refine ⟨_, rfl, for_it walk_str (fun j σ' H' => ∃ (ws' : List Nat) (pf' : Nat → List Nat) (kvs' : List (Key × V)) (v8 v9 : Option V), σ' = [some (.ref p), some (vN x), some (vN y), some (.ref d), some (.ref m), some (.ref l), some (vN (i + 1)), some (vN (g ws i)), v8, v9] ∧ PathJ n r u x i ws j ws' pf' ∧ PD kvs' ws' pf' ∧ Same H1 H' ∧ H' m = some (.dK kvs') ∧ H' l = some (.lst (vL ws')))
        ⟨ws, pf, kvs, v8, v9, ?_, PathJ.start M, D, sm, hM, hL⟩ (fun _ _ _ _ _ => trivial) ?_ ?_⟩
      · show [some (V.ref p), some (vN x), some (vN y), some (V.ref d), some (V.ref m), some (V.ref l), some (V.int ((i : Int) + 1)), some (vN (g ws i)), v8, v9] = _
        rw [show ((i : Int) + 1) = ((i + 1 : Nat) : Int) by omega]
      · rintro j v σ' H3 H4 hj ⟨ws', pf', kvs', v8', v9', rfl, J, D', sm', hM', hL'⟩ ⟨rfl, cc, hc, rfl⟩
        have hj4 : j < 4 := by omega
        have ecc : cc = code j := by
          rw [rlud_eq] at hc
          obtain ⟨_, rfl⟩ := txt_get hc
          have : j = 0 ∨ j = 1 ∨ j = 2 ∨ j = 3 := by omega
          rcases this with rfl | rfl | rfl | rfl <;> rfl
        subst ecc
        have hg := DGet.k (k := Sum.inr ⟨#[code j]⟩) (sm' _ _ hD)
        rw [steps_val a c b e hj4] at hg
        have hwl' := J.p.len
        have ge := J.ge
        have epi : g ws' i = g ws i := J.pre i hi
        have hhw : g ws i ∈ ws' := by rw [← epi]; exact g_mem (by omega)
        refine ⟨_, rfl, _, rfl, d, _, rfl, hg, _, rfl, _, _, _, _, rfl, rfl, dsel_at (seT (s1.trans sm') hA) (seT (s1.trans sm') hB) (sm' _ _ hC) (sm' _ _ hE) j, vL_at (by rw [rowk_len pr pu]; exact hhere), ?_⟩
        refine ⟨_, rfl, _, rfl, m, _, rfl, DGet.k (k := Sum.inl ((stp n r u j (g ws i) : Nat) : Int)) hM', _, rfl, ?_⟩
        rw [D'.val]
        by_cases ct : stp n r u j (g ws i) ∈ ws'
        · rw [if_pos ct]
          refine iteF ?_
          exact ⟨ws', pf', kvs', _, _, rfl, J.old ct, D', sm', hM', hL'⟩
        · rw [if_neg ct]
          refine iteT ?_
          have hh := DGet.k (k := Sum.inl ((g ws i : Nat) : Int)) hM'
          rw [D'.val, if_pos hhw] at hh
          have ol := (J.p.out hhw).1
          refine ⟨_, rfl, _, rfl, m, _, rfl, hh, _, rfl, _, _, rfl, rfl, ?_, ?_⟩
          · rw [txt_len]
            show (pf' (g ws i)).length + 1 ≤ sizeLine
            exact small1000 (by omega)
          rw [txt_snoc]
          have dl := D'.len
          refine ⟨_, rfl, _, rfl, m, _, rfl, DPut.k (k := Sum.inl ((stp n r u j (g ws i) : Nat) : Int)) hM' (small1000 (by omega)), ?_⟩
          have ml : m ≠ l := ne_of hM' hL' (by intro z; cases z)
          refine ⟨_, rfl, .inl ⟨rfl, _, SqL.of (by rw [upd_ne ml.symm]; exact hL')⟩, _, rfl, l, _, _, rfl, rfl, (by rw [upd_ne ml.symm]; exact hL'), szL (by omega), ?_⟩
          refine ⟨ws' ++ [stp n r u j (g ws i)], _, _, _, _, rfl, PathJ.new pr pu J hi hj4 ct, D'.put ct (pf' (g ws i) ++ [j]), same_put (same_put sm' hm) nl.2, ?_, ?_⟩
          · rw [upd_ne ml, upd_same]
          · rw [upd_same, vL_snoc]
            rfl
      · rintro σ' H3 ⟨ws', pf', kvs', v8', v9', rfl, J, D', sm', hM', hL'⟩
        rw [hsz] at J
        exact ⟨ws', pf', kvs', _, _, _, rfl, J.out hi, D', sm', hM', hL'⟩
end
end Sq

namespace Sq
open L2 PySem PySem.Spec PyProof.Rows
theorem seq_ix {j n : Nat} (h : j < n) : seqIndex? (j : Int) n = some j := by
  unfold seqIndex?
  simp only [show ¬ (j : Int) < 0 by omega, if_false]
  rw [if_pos (by simp only [decide_eq_true_eq, Bool.and_eq_true]; omega)]
  rfl
theorem vL_erase : ∀ (l : List Nat) (k : Nat), (vL l).eraseIdx k = vL (l.eraseIdx k)
  | [], _ => rfl
  | x :: t, 0 => rfl
  | x :: t, k + 1 => by
    show vN x :: (vL t).eraseIdx k = vN x :: vL (t.eraseIdx k)
    rw [vL_erase t k]
section
variable {mg : Str → Option Value} {base : Heap} {P : Program} {w : World} {K : PySem.W.Frag}
/-! ### _law_cell -/
def spCell (K : PySem.W.Frag) : Sp := fun vs H Q _ => ∃ (a : Addr) (ns : List Int) (i : Int), vs = [.ref a, .int i] ∧ SqL K H a (ns.map V.int) ∧ 0 ≤ i ∧ ∀ z : Int, Q (.int z) H
theorem scCell : FnScope ["_law_script", "_law_k"] ["_law_script", "_law_k"] (defScope sCell) := ⟨rfl, rfl, rfl, by decide +kernel, rfl, by decide +kernel, by decide +kernel⟩
theorem ok_cell {f : Addr} {fd : FuncData} {k : Nat} (F : Fun K "_law_cell" "_law_cell" sCell f fd) (T : Blt mg) : FnOk P w K mg base CX0 (k + 1) f fd ["_law_script", "_law_k"] (spCell K) := by
  refine F.ok scCell (fun vs H Q E h => ?_) (fun cdv A outer s H vs Q E hr h => ?_)
  · obtain ⟨a, ns, i, rfl, _⟩ := h
    rfl
  · obtain ⟨a, ns, i, rfl, hS, hi, q⟩ := h
    refine ⟨_, pss_cons (ps_if (pt_cmpR op_lt (pv 1) (pe_callB call_len_seq (by rfl) T.len PySem.boot_len (pa_cons (pv 0) pa_nil)) (nomark _)) (pss_one (ps_ret (pe_ix ix_list (pv 0) (pv 1) (fun _ _ => rfl)))) pss_nil)
      (pss_one (ps_ret pe_int)), ?_⟩
    refine ⟨_, rfl, _, rfl, a, _, rfl, .inl hS, _, _, rfl, rfl, _, rfl, ite2 (fun c => ?_) (fun _ => q 0)⟩
    have c' := of_decide_eq_true c
    rw [List.length_map] at c'
    have hl : i.toNat < ns.length := by omega
    refine ⟨_, rfl, _, rfl, a, _, _, .int (ns[i.toNat]), rfl, rfl, hS, at_of (j := i.toNat) (by omega) (by rw [List.getElem?_map, List.getElem?_eq_getElem hl]; rfl), q _⟩
/-! ### _law_whole -/
def spWhole : Sp := fun vs H Q _ => ∃ i : Int, vs = [.int i] ∧ Q (.bl true) H
theorem scWhole : FnScope ["_law_found"] ["_law_found"] (defScope sWhole) := ⟨rfl, rfl, rfl, by decide +kernel, rfl, by decide +kernel, by decide +kernel⟩
theorem ok_whole {f : Addr} {fd : FuncData} {k : Nat} (F : Fun K "_law_whole" "_law_whole" sWhole f fd) (T : Blt mg) : FnOk P w K mg base CX0 (k + 1) f fd ["_law_found"] spWhole := by
  refine F.ok scWhole (fun vs H Q E h => ?_) (fun cdv A outer s H vs Q E hr h => ?_)
  · obtain ⟨i, rfl, _⟩ := h
    rfl
  · obtain ⟨i, rfl, q⟩ := h
    refine ⟨_, pss_one (ps_ret (pe_and (pe_callB call_isi (by rfl) T.isinstance (by decide +kernel) (pa_cons (pv 0) (pa_cons (pe_bltn (v := .ty "int") (by rfl) T.int (by decide +kernel) rfl) pa_nil)))
        (pe_one (pe_not (pe_callB call_isi (by rfl) T.isinstance (by decide +kernel) (pa_cons (pv 0) (pa_cons (pe_bltn (v := .ty "bool") (by rfl) T.bool (by decide +kernel) rfl) pa_nil))))))), ?_⟩
    refine ⟨_, rfl, .int i, .ty "int", _, _, true, rfl, .ty "int", .base (.int _), kit_ty (by decide +kernel), true, rfl, iteT ?_⟩
    exact ⟨_, rfl, .int i, .ty "bool", _, _, false, rfl, .ty "bool", .base (.int _), kit_ty (by decide +kernel), false, rfl, q⟩
/-! ### _law_lines -/
def spLines (K : PySem.W.Frag) : Sp := fun vs H Q _ => ∃ (s : Addr) (zs : List Int) (a n : Nat), vs = [.ref s, vN a, vN n] ∧ SqL K H s (zs.map V.int) ∧ 1 ≤ n ∧ n ≤ 36 ∧
  ∀ (H' : Hp) (p l1 l2 : Addr) (r u : List Nat), Same H H' → H p = none → H' p = some (.lst [.ref l1, .ref l2]) → H' l1 = some (.lst (vL r)) → H' l2 = some (.lst (vL u)) → Pm n r → Pm n u → Q (.ref p) H'
theorem scLines : FnScope ["_law_script", "_law_at", "_law_many", "_law_mine", "_law_great", "_law_number", "_law_told", "_law_turn", "_law_left", "_law_line", "_law_k", "_law_cell_here"] ["_law_script", "_law_at", "_law_many"] (defScope sLines) := ⟨rfl, rfl, rfl, by decide +kernel, rfl, by decide +kernel, by decide +kernel⟩
theorem ok_lines {f f1 : Addr} {fd fd1 : FuncData} {k : Nat} (F : Fun K "_law_lines" "_law_lines" sLines f fd) (T : Blt mg) (C1 : Cal P w K mg base CX0 k "_law_cell" ["_law_script", "_law_k"] (spCell K) f1 fd1) :
    FnOk P w K mg base CX0 (k + 1) f fd ["_law_script", "_law_at", "_law_many"] (spLines K) := by
  refine F.ok scLines (fun vs H Q E h => ?_) (fun cdv A outer s H vs Q E hr h => ?_)
  · obtain ⟨s, zs, a, n, rfl, _⟩ := h
    rfl
  · obtain ⟨c, zs, a, n, rfl, hS, h1, h36, q⟩ := h
    refine ⟨_, pss_cons (ps_set (i := 3) scLines.nd rfl (.inl rfl) (pe_call C1.G hr (by rfl) C1.m C1.kp C1.b .nil pass0 (pa_cons (pv 0) (pa_cons (pv 1) pa_nil))))
      (pss_cons (ps_set (i := 4) scLines.nd rfl (.inl rfl) (pe_cmpR op_ge (pv 3) (pe_op op_pow pe_int pe_int) (nomark _)))
      (pss_cons (ps_set (i := 5) scLines.nd rfl (.inl rfl) (pe_op op_add pe_int (pe_op op_mod (pv 3) pe_int)))
      (pss_cons (ps_set (i := 6) scLines.nd rfl (.inl rfl) (pe_lst pa_nil))
      (pss_cons (ps_for PassesOwn.never rfl (pi_range1 (by rfl) T.range (pa_cons pe_int pa_nil)) (pg_name (i := 7) scLines.nd rfl (.inl rfl))
        (pss_cons (ps_set (i := 8) scLines.nd rfl (.inl rfl) (pe_listRg rfl (by rfl) T.list (prg_1 (by rfl) T.range (pv 2))))
        (pss_cons (ps_set (i := 9) scLines.nd rfl (.inl rfl) (pe_lst pa_nil))
        (pss_cons (ps_for PassesOwn.never rfl (pi_range1 (by rfl) T.range (pa_cons (pv 2) pa_nil)) (pg_name (i := 10) scLines.nd rfl (.inl rfl))
          (pss_cons (ps_set (i := 11) scLines.nd rfl (.inl rfl) (pe_call C1.G hr (by rfl) C1.m C1.kp C1.b .nil pass0 (pa_cons (pv 0) (pa_cons (pe_op op_add (pe_op op_add (pe_op op_add (pv 1) pe_int) (pe_op op_mul (pv 7) (pv 2))) (pv 10)) pa_nil))))
          (pss_cons (ps_set (i := 5) scLines.nd rfl (.inl rfl) (pe_op op_mod (pe_op op_add (pe_op op_mul (pv 5) pe_int) (pv 11)) pe_int))
          (pss_one (ps_if (pt_val (pv 4))
            (pss_cons (ps_expr (pe_bm PySem.F.plainAttrs_list PySem.F.slot_list_append PySem.F.type_list_append mt_append (pv 9) (pa_cons (pe_bm PySem.F.plainAttrs_list PySem.F.slot_list_pop PySem.F.type_list_pop mt_popAt (pv 8) (pa_cons (pe_op op_mod (pv 3) (pe_callB call_len_seq (by rfl) T.len PySem.boot_len (pa_cons (pv 8) pa_nil))) pa_nil)) pa_nil)))
            (pss_one (ps_set (i := 3) scLines.nd rfl (.inl rfl) (pe_op op_fdivN (pv 3) (pe_op op_add (pe_callB call_len_seq (by rfl) T.len PySem.boot_len (pa_cons (pv 8) pa_nil)) pe_int)))))
            (pss_one (ps_expr (pe_bm PySem.F.plainAttrs_list PySem.F.slot_list_append PySem.F.type_list_append mt_append (pv 9) (pa_cons (pe_bm PySem.F.plainAttrs_list PySem.F.slot_list_pop PySem.F.type_list_pop mt_popAt (pv 8) (pa_cons (pe_op op_mod (pe_op op_fdiv (pv 5) pe_int) (pe_callB call_len_seq (by rfl) T.len PySem.boot_len (pa_cons (pv 8) pa_nil))) pa_nil)) pa_nil)))))))))
        (pss_one (ps_expr (pe_bm PySem.F.plainAttrs_list PySem.F.slot_list_append PySem.F.type_list_append mt_append (pv 6) (pa_cons (pv 9) pa_nil))))))))
      (pss_one (ps_ret (pv 6))))))), ?_⟩
    refine ⟨_, rfl, _, rfl, c, zs, (a : Int), rfl, hS, by omega, fun z0 => ?_⟩
    refine ⟨_, rfl, _, _, rfl, rfl, ⟨by decide, by decide, by decide⟩, _, _, rfl, rfl, ?_⟩
    refine ⟨_, rfl, _, _, rfl, rfl, (by show (0 : Int) < 2147483646; decide), _, _, rfl, rfl, ?_⟩
    have b0 := Int.emod_nonneg z0 (show (2147483646 : Int) ≠ 0 by decide)
    have b1 := Int.emod_lt_of_pos z0 (show (0 : Int) < 2147483646 by decide)
    refine ⟨Nat.zero_le _, fun p hp => ?_⟩
    refine ⟨2, rfl, by decide, by decide, for_range (lo := 0) (n := (2 : Int).toNat) (fun t σ H' => ∃ (mine number : Int) (gb : Bool) (ps : List Addr) (gs : List (List Nat)) (v7 v8 v9 v10 v11 : Option V), σ = [some (.ref c), some (vN a), some (vN n), some (.int mine), some (.bl gb), some (.int number), some (.ref p), v7, v8, v9, v10, v11] ∧ 0 ≤ number ∧ number < 4294967296 ∧ Same H H' ∧ H' p = some (.lst (ps.map V.ref)) ∧ RowsAt H' p ps gs ∧ gs.length = t ∧ ∀ l ∈ gs, Pm n l)
      ⟨z0, _, _, [], [], none, none, none, none, none, rfl, by show 0 ≤ 1 + z0 % 2147483646; omega, by show 1 + z0 % 2147483646 < 4294967296; omega, same_new hp, upd_same, trivial, rfl, fun l hl => absurd hl (by simp)⟩ ?_ ?_⟩
    · rintro t σ H1 ht ⟨mine, number, gb, ps, gs, v7, v8, v9, v10, v11, rfl, hn0, hn1, sm, hP, hR, hgl, hpm⟩
      have ht2 : t < 2 := ht
      refine ⟨_, rfl, (n : Int), rfl, rgOk_nat (by omega), fun q1 hq1 => ?_⟩
      refine ⟨Nat.zero_le _, fun q2 hq2 => ?_⟩
      have hq10 : H q1 = none := sm.free hq1
      have nq := upd_none hq2
      have hq20 : H q2 = none := sm.free nq.2
      have pq1 : p ≠ q1 := ne_of_none hP hq1
      have pq2 : p ≠ q2 := ne_of_none hP nq.2
      have sm2 : Same H1 (upd (upd H1 q1 (.lst (rgV 0 (n : Int)))) q2 (.lst [])) := same_put (same_new hq1) nq.2
      refine ⟨_, rfl, (n : Int), rfl, by omega, by omega, for_range (lo := 0) (n := ((n : Int)).toNat) (fun j σ H' => ∃ (mine number : Int) (ls ns : List Nat) (v10 v11 : Option V), σ = [some (.ref c), some (vN a), some (vN n), some (.int mine), some (.bl gb), some (.int number), some (.ref p), some (.int (0 + (t : Int))), some (.ref q1), some (.ref q2), v10, v11] ∧ 0 ≤ number ∧ number < 4294967296 ∧ Same H1 H' ∧ H' q1 = some (.lst (vL ls)) ∧ H' q2 = some (.lst (vL ns)) ∧ (ns ++ ls).Perm (List.range n) ∧ ns.length = j)
        ⟨mine, number, List.range n, [], v10, v11, rfl, hn0, hn1, sm2, by rw [upd_ne nq.1.symm, upd_same, rgV_nat], upd_same, List.Perm.refl _, rfl⟩ ?_ ?_⟩
      · rintro j σ H2 hj ⟨mine, number, ls, ns, v10, v11, rfl, hn0, hn1, sm2, hQ1, hQ2, hperm, hnl⟩
        have hjn : j < n := by omega
        have hlen := hperm.length_eq
        rw [List.length_append, List.length_range] at hlen
        have hlp : 0 < ls.length := by omega
        have q12 : q1 ≠ q2 := nq.1.symm
        have htm : (0 : Int) ≤ (0 + (t : Int)) * (n : Int) := Int.mul_nonneg (by omega) (by omega)
        refine ⟨_, rfl, _, rfl, _, _, rfl, rfl, _, rfl, _, rfl, _, _, rfl, rfl, .inl ⟨by omega, by omega⟩, _, _, rfl, rfl, _, rfl, _, _, rfl, rfl, ?_⟩
        refine ⟨c, zs, _, rfl, (sm.trans sm2).seq hS, ?_, fun z1 => ?_⟩
        · show (0 : Int) ≤ (a : Int) + 1 + (0 + (t : Int)) * (n : Int) + (0 + (j : Int))
          omega
        refine ⟨_, rfl, _, _, rfl, rfl, .inl ⟨by omega, by omega⟩, _, rfl, _, _, rfl, rfl, _, _, rfl, rfl, (by show (0 : Int) < 2147483647; decide), ?_⟩
        have m0 := Int.emod_nonneg (number * 48271 + z1) (show (2147483647 : Int) ≠ 0 by decide)
        have m1 := Int.emod_lt_of_pos (number * 48271 + z1) (show (0 : Int) < 2147483647 by decide)
        refine ⟨_, rfl, gb, rfl, ite2 (fun _ => ?_) (fun _ => ?_)⟩
        · obtain ⟨e, he, ee⟩ := rest_at mine hlp
          refine ⟨_, rfl, .inl ⟨rfl, _, SqL.of hQ2⟩, _, rfl, .inl ⟨rfl, _, SqL.of hQ1⟩, _, rfl, _, rfl, q1, _, rfl, .inl (SqL.of hQ1), _, _, rfl, rfl, (by rw [vL_len]; omega), ?_⟩
          refine ⟨q1, _, _, e, _, rfl, rfl, hQ1, ?_, ?_, ?_, vL_g he, ?_⟩
          · rw [vL_len, ee]; omega
          · rw [vL_len, ee]; omega
          · rw [vL_len, ee]; exact seq_ix he
          have hQ2' : upd H2 q1 (.lst ((vL ls).eraseIdx e)) q2 = some (.lst (vL ns)) := by rw [upd_ne nq.1]; exact hQ2
          refine ⟨q2, _, _, rfl, rfl, hQ2', szL (by omega), ?_⟩
          have hQ1' : upd (upd H2 q1 (.lst ((vL ls).eraseIdx e))) q2 (.lst (vL ns ++ [vN (g ls e)])) q1 = some (.lst (vL (ls.eraseIdx e))) := by rw [upd_ne q12, upd_same, vL_erase]
          refine ⟨_, rfl, _, rfl, q1, _, rfl, .inl (SqL.of hQ1'), _, _, rfl, rfl, _, _, rfl, rfl, ?_, ?_⟩
          · rw [vL_len, List.length_eraseIdx, if_pos he]
            exact ⟨by show ((ls.length - 1 : Nat) : Int) + 1 ≠ 0; omega, by show (((ls.length - 1 : Nat) : Int) + 1).natAbs < 1073741824; omega⟩
          refine ⟨_, _, ls.eraseIdx e, ns ++ [g ls e], _, _, rfl, m0, by omega, same_put (same_put sm2 hq1) nq.2, hQ1', by rw [upd_same, vL_snoc], pop_perm hperm he, by rw [List.length_append, hnl]; rfl⟩
        · obtain ⟨e, he, ee⟩ := rest_at ((number * 48271 + z1) % 2147483647 / 16) hlp
          refine ⟨_, rfl, .inl ⟨rfl, _, SqL.of hQ2⟩, _, rfl, .inl ⟨rfl, _, SqL.of hQ1⟩, _, rfl, _, _, rfl, rfl, ⟨by decide, by decide⟩, _, rfl, q1, _, rfl, .inl (SqL.of hQ1), _, _, rfl, rfl, (by rw [vL_len]; omega), ?_⟩
          refine ⟨q1, _, _, e, _, rfl, rfl, hQ1, ?_, ?_, ?_, vL_g he, ?_⟩
          · rw [vL_len]
            show -(2 ^ 63) ≤ (number * 48271 + z1) % 2147483647 / 16 % (ls.length : Int)
            rw [ee]; omega
          · rw [vL_len]
            show (number * 48271 + z1) % 2147483647 / 16 % (ls.length : Int) < 2 ^ 63
            rw [ee]; omega
          · rw [vL_len]
            show seqIndex? ((number * 48271 + z1) % 2147483647 / 16 % (ls.length : Int)) ls.length = some e
            rw [ee]; exact seq_ix he
          have hQ2' : upd H2 q1 (.lst ((vL ls).eraseIdx e)) q2 = some (.lst (vL ns)) := by rw [upd_ne nq.1]; exact hQ2
          refine ⟨q2, _, _, rfl, rfl, hQ2', szL (by omega), ?_⟩
          have hQ1' : upd (upd H2 q1 (.lst ((vL ls).eraseIdx e))) q2 (.lst (vL ns ++ [vN (g ls e)])) q1 = some (.lst (vL (ls.eraseIdx e))) := by rw [upd_ne q12, upd_same, vL_erase]
          refine ⟨_, _, ls.eraseIdx e, ns ++ [g ls e], _, _, rfl, m0, by omega, same_put (same_put sm2 hq1) nq.2, hQ1', by rw [upd_same, vL_snoc], pop_perm hperm he, by rw [List.length_append, hnl]; rfl⟩
      · rintro σ H2 ⟨mine, number, ls, ns, v10, v11, rfl, hn0, hn1, sm2, hQ1, hQ2, hperm, hnl⟩
        have hlen := hperm.length_eq
        rw [List.length_append, List.length_range] at hlen
        have els : ls = [] := List.eq_nil_of_length_eq_zero (by omega)
        subst els
        rw [List.append_nil] at hperm
        have hP2 := sm2 _ _ hP
        have hpl := hR.len
        refine ⟨_, rfl, .inl ⟨rfl, _, SqL.of hP2⟩, _, rfl, p, _, _, rfl, rfl, hP2, by rw [List.length_map, hpl]; exact small1000 (by omega), ?_⟩
        refine ⟨_, _, gb, ps ++ [q2], gs ++ [ns], _, _, _, _, _, rfl, hn0, hn1, same_put (sm.trans sm2) hp, by rw [upd_same, List.map_append]; rfl, ?_, by rw [List.length_append, hgl]; rfl, fun l hl => ?_⟩
        · exact RowsAt.snoc pq2.symm (by rw [upd_ne pq2.symm]; exact hQ2) (hR.mono fun x l hx h => by rw [upd_ne hx]; exact sm2 _ _ h)
        · rcases List.mem_append.mp hl with z | z
          · exact hpm l z
          · rw [List.mem_singleton.mp z]; exact Pm.of_perm hperm
    · rintro σ H1 ⟨mine, number, gb, ps, gs, v7, v8, v9, v10, v11, rfl, hn0, hn1, sm, hP, hR, hgl, hpm⟩
      have hgl2 : gs.length = 2 := hgl
      have hpl := hR.len
      obtain ⟨r, u, rfl⟩ : ∃ r u, gs = [r, u] := by
        match gs, hgl2 with
        | [r, u], _ => exact ⟨r, u, rfl⟩
      obtain ⟨l1, l2, rfl⟩ : ∃ l1 l2, ps = [l1, l2] := by
        match ps, hpl with
        | [l1, l2], _ => exact ⟨l1, l2, rfl⟩
      exact ⟨_, rfl, q H1 p l1 l2 r u sm hp hP hR.2.1 hR.2.2.2.1 (hpm r (by simp)) (hpm u (by simp))⟩
end
end Sq

namespace Sq
open L2 PySem PySem.Spec PyProof.Rows
section
variable {mg : Str → Option Value} {base : Heap} {P : Program} {w : World} {K : PySem.W.Frag}
/-! ### _law_met -/
theorem scLMet : FnScope ["_law_right", "_law_up", "_law_first", "_law_met_here", "_law_at", "_law_square"] ["_law_right", "_law_up", "_law_first"] (defScope sLMet) := ⟨rfl, rfl, rfl, by decide +kernel, rfl, by decide +kernel, by decide +kernel⟩
theorem ok_lmet {f : Addr} {fd : FuncData} {k : Nat} (F : Fun K "_law_met" "_law_met" sLMet f fd) (T : Blt mg) : FnOk P w K mg base CX0 (k + 1) f fd ["_law_right", "_law_up", "_law_first"] (spMet K) := by
  refine F.ok scLMet (fun vs H Q E h => ?_) (fun cdv A outer s H vs Q E hr h => ?_)
  · obtain ⟨a, b, r, u, n, x, rfl, _⟩ := h
    rfl
  · obtain ⟨a, b, r, u, n, x, rfl, hA, hB, pr, pu, hx, hn, q⟩ := h
    refine ⟨_, pss_cons (ps_set (i := 3) scLMet.nd rfl (.inl rfl) (pe_lst (pa_cons (pv 2) pa_nil)))
      (pss_cons (ps_set (i := 4) scLMet.nd rfl (.inl rfl) pe_int)
      (pss_cons (ps_while PassesOwn.never (pt_cmpR op_lt (pv 4) (pe_callB call_len_seq (by rfl) T.len PySem.boot_len (pa_cons (pv 3) pa_nil)) (nomark _))
        (pss_cons (ps_for PassesOwn.never rfl (pi_tup (pe_tup (pa_cons (pe_ix ix_seq (pv 0) (pe_ix ix_list (pv 3) (pv 4) (fun _ _ => rfl)) (fun _ _ => rfl)) (pa_cons (pe_ix ix_seq (pv 1) (pe_ix ix_list (pv 3) (pv 4) (fun _ _ => rfl)) (fun _ _ => rfl)) pa_nil)))) (pg_name (i := 5) scLMet.nd rfl (.inl rfl))
            (pss_one (ps_if (pt_cmpR op_notIn_seq (pv 5) (pv 3) (by rfl)) (pss_one (ps_expr (pe_bm PySem.F.plainAttrs_list PySem.F.slot_list_append PySem.F.type_list_append mt_append (pv 3) (pa_cons (pv 5) pa_nil)))) pss_nil)))
          (pss_one (ps_set (i := 4) scLMet.nd rfl (.inl rfl) (pe_op op_add (pv 4) pe_int)))))
      (pss_one (ps_ret (pv 3))))), ?_⟩
    -- met = [first]
    refine ⟨_, rfl, (by show 1 ≤ sizeLine; decide), fun p hp => ?_⟩
    -- at = 0; while
    refine ⟨fun m σ H' => ∃ (i : Nat) (ms : List Nat) (v : Option V), σ = [some (.ref a), some (.ref b), some (vN x), some (.ref p), some (vN i), v] ∧ m = n - i ∧ MetI r u x i ms ∧ Same H H' ∧ H' p = some (.lst (vL ms)),
      ⟨n, 0, [x], none, rfl, rfl, MetI.start r u x, same_new hp, upd_same⟩, fun m σ H1 hW => ?_⟩
    obtain ⟨i, ms, v, rfl, rfl, M, sm, hL⟩ := hW
    have hml : ms.length ≤ n := M.len pr pu hx
    refine ⟨_, rfl, _, rfl, p, _, rfl, .inl (SqL.of hL), _, _, rfl, rfl, _, rfl, ite2 (fun c => ?_) (fun c => ?_)⟩
    · have hi : i < ms.length := by
        have q := of_decide_eq_true c
        rw [vL_len] at q
        omega
      have hin : i < n := by omega
      refine ⟨fun σ' H' => ∃ (ms' : List Nat) (v' : Option V), σ' = [some (.ref a), some (.ref b), some (vN x), some (.ref p), some (vN (i + 1)), v'] ∧ MetI r u x (i + 1) ms' ∧ Same H H' ∧ H' p = some (.lst (vL ms')), fun σ' H' hN => ?_, ?_⟩
      · obtain ⟨ms', v', e, M', sm', hL'⟩ := hN
        exact ⟨n - (i + 1), by omega, i + 1, ms', v', e, rfl, M', sm', hL'⟩
      -- the tuple of the two next squares
      have hy : g ms i < n := (M.re _ (g_mem hi)).lt pr pu hx
      have hre : Reach r u x (g ms i) := M.re _ (g_mem hi)
      refine ⟨.ref a, rfl, .ref p, rfl, vN i, rfl, p, _, _, _, rfl, rfl, SqL.of hL, vL_at hi, ?_⟩
      refine SqE.ix (hA.keep sm) (by rw [pr.len]; exact hy) ?_
      refine ⟨.ref b, rfl, .ref p, rfl, vN i, rfl, p, _, _, _, rfl, rfl, SqL.of hL, vL_at hi, ?_⟩
      refine SqE.ix (hB.keep sm) (by rw [pu.len]; exact hy) ?_
      refine ⟨(by show 2 ≤ sizeLine; decide), fun t ht => ?_⟩
      have hL1 : upd H1 t (.tup [vN (g r (g ms i)), vN (g u (g ms i))]) p = some (.lst (vL ms)) := by rw [upd_ne (ne_of_none hL ht)]; exact hL
      have sm1 : Same H (upd H1 t (.tup [vN (g r (g ms i)), vN (g u (g ms i))])) := same_put sm (sm.free ht)
      refine ⟨t, rfl, ⟨_, SqT.of upd_same⟩, for_tup (K := K) (a := t) (xs := [vN (g r (g ms i)), vN (g u (g ms i))]) (fun j σ' H' => ∃ (ms' : List Nat) (v' : Option V), σ' = [some (.ref a), some (.ref b), some (vN x), some (.ref p), some (vN i), v'] ∧ MetJ r u x i ms (g ms i) j ms' ∧ Same H H' ∧ H' p = some (.lst (vL ms')) ∧ H' t = some (.tup [vN (g r (g ms i)), vN (g u (g ms i))]))
        ⟨ms, v, rfl, MetJ.start M _, sm1, hL1, upd_same⟩ (fun j σ' H' _ ⟨_, _, _, _, _, _, h⟩ => SqT.of h) ?_ ?_⟩
      · rintro j z σ' H' hz ⟨ms', v', rfl, J, sm', hL', hT'⟩
        have hj : j < 2 := (List.getElem?_eq_some_iff.mp hz).1
        have ez : z = vN (two r u (g ms i) j) := by
          have : j = 0 ∨ j = 1 := by omega
          rcases this with e | e
          · subst e; exact (Option.some.inj hz).symm
          · subst e; exact (Option.some.inj hz).symm
        subst ez
        have hml' : ms'.length ≤ n := J.m.len pr pu hx
        refine ⟨_, rfl, _, rfl, p, _, rfl, .inl (SqL.of hL'), rfl, vL_flat _, _, rfl, ?_⟩
        rw [inV_vL]
        by_cases c2 : two r u (g ms i) j ∈ ms'
        · rw [decide_eq_true c2]
          refine iteF ?_
          exact ⟨ms', some (vN (two r u (g ms i) j)), rfl, J.has hj c2, sm', hL', hT'⟩
        · rw [decide_eq_false c2]
          refine iteT ?_
          refine ⟨.ref p, rfl, .inl ⟨rfl, _, SqL.of hL'⟩, _, rfl, p, _, _, rfl, rfl, hL', szL (by omega), ?_⟩
          refine ⟨ms' ++ [two r u (g ms i) j], some (vN (two r u (g ms i) j)), rfl, J.add hj hre c2, same_put sm' hp, by rw [upd_same, vL_snoc], ?_⟩
          rw [upd_ne (ne_of hT' hL' (by intro z; cases z))]
          exact hT'
      · rintro σ' H' ⟨ms', v', rfl, J, sm', hL', hT'⟩
        refine ⟨_, rfl, _, _, rfl, rfl, ms', v', ?_, J.out hi, sm', hL'⟩
        show [some (V.ref a), some (V.ref b), some (vN x), some (V.ref p), some (V.int ((i : Int) + 1)), v'] = _
        rw [show ((i : Int) + 1) = ((i + 1 : Nat) : Int) by omega]
    · have hi : ms.length ≤ i := by
        have q := of_decide_eq_false (Bool.eq_false_iff.mpr (fun z => c z))
        rw [vL_len] at q
        omega
      exact ⟨.ref p, rfl, q ms H1 p M.nd (M.all hi) (by omega) sm hp hL⟩
/-! ### _law_picked -/
def spPicked (K : PySem.W.Frag) : Sp := fun vs H Q _ => ∃ (a : Addr) (l : List Nat) (z : Int), vs = [.ref a, .int z] ∧ SqL K H a (vL l) ∧ l.length ≤ 36 ∧ ∀ (H' : Hp) (p : Addr) (l' : List Nat), Same H H' → H p = none → l'.Perm l → H' p = some (.lst (vL l')) → Q (.ref p) H'
theorem scPicked : FnScope ["_law_things", "_law_number", "_law_left", "_law_told"] ["_law_things", "_law_number"] (defScope sPicked) := ⟨rfl, rfl, rfl, by decide +kernel, rfl, by decide +kernel, by decide +kernel⟩
theorem ok_picked {f : Addr} {fd : FuncData} {k : Nat} (F : Fun K "_law_picked" "_law_picked" sPicked f fd) (T : Blt mg) : FnOk P w K mg base CX0 (k + 1) f fd ["_law_things", "_law_number"] (spPicked K) := by
  refine F.ok scPicked (fun vs H Q E h => ?_) (fun cdv A outer s H vs Q E hr h => ?_)
  · obtain ⟨a, l, z, rfl, _⟩ := h
    rfl
  · obtain ⟨a, l, z, rfl, hS, h36, q⟩ := h
    refine ⟨_, pss_cons (ps_set (i := 2) scPicked.nd rfl (.inl rfl) (pe_callTy call_list_of (by rfl) T.list (by decide +kernel) (pa_cons (pv 0) pa_nil)))
      (pss_cons (ps_set (i := 3) scPicked.nd rfl (.inl rfl) (pe_lst pa_nil))
      (Evl.pss_cut (ps_if (pt_cmpR op_ge (pv 1) (pe_op op_pow pe_int pe_int) (nomark _))
        (pss_one (ps_while PassesOwn.never (pt_cmpR op_gt (pe_callB call_len_seq (by rfl) T.len PySem.boot_len (pa_cons (pv 2) pa_nil)) pe_int (nomark _))
          (pss_cons (ps_expr (pe_bm PySem.F.plainAttrs_list PySem.F.slot_list_append PySem.F.type_list_append mt_append (pv 3) (pa_cons (pe_bm PySem.F.plainAttrs_list PySem.F.slot_list_pop PySem.F.type_list_pop mt_popAt (pv 2) (pa_cons (pe_op op_mod (pv 1) (pe_callB call_len_seq (by rfl) T.len PySem.boot_len (pa_cons (pv 2) pa_nil))) pa_nil)) pa_nil)))
          (pss_one (ps_set (i := 1) scPicked.nd rfl (.inl rfl) (pe_op op_fdivN (pv 1) (pe_op op_add (pe_callB call_len_seq (by rfl) T.len PySem.boot_len (pa_cons (pv 2) pa_nil)) pe_int))))))) pss_nil)
      (pss_cons (ps_set (i := 1) scPicked.nd rfl (.inl rfl) (pe_op op_add pe_int (pe_op op_mod (pv 1) pe_int)))
      (pss_cons (ps_while PassesOwn.never (pt_cmpR op_gt (pe_callB call_len_seq (by rfl) T.len PySem.boot_len (pa_cons (pv 2) pa_nil)) pe_int (nomark _))
          (pss_cons (ps_set (i := 1) scPicked.nd rfl (.inl rfl) (pe_op op_mod (pe_op op_mul (pv 1) pe_int) pe_int))
          (pss_one (ps_expr (pe_bm PySem.F.plainAttrs_list PySem.F.slot_list_append PySem.F.type_list_append mt_append (pv 3) (pa_cons (pe_bm PySem.F.plainAttrs_list PySem.F.slot_list_pop PySem.F.type_list_pop mt_popAt (pv 2) (pa_cons (pe_op op_mod (pe_op op_fdiv (pv 1) pe_int) (pe_callB call_len_seq (by rfl) T.len PySem.boot_len (pa_cons (pv 2) pa_nil))) pa_nil)) pa_nil))))))
      (pss_one (ps_ret (pv 3))))))), ?_⟩
    refine ⟨_, rfl, a, _, rfl, .inl hS, fun q1 hq1 => ?_⟩
    refine ⟨Nat.zero_le _, fun q2 hq2 => ?_⟩
    have nq := upd_none hq2
    have q12 : q1 ≠ q2 := nq.1.symm
    have hq20 : H q2 = none := nq.2
    refine ⟨fun σ H' => ∃ (z : Int) (ls ns : List Nat), σ = [some (.ref a), some (.int z), some (.ref q1), some (.ref q2)] ∧ Same H H' ∧ H' q1 = some (.lst (vL ls)) ∧ H' q2 = some (.lst (vL ns)) ∧ (ns ++ ls).Perm l, ?_, ?_⟩
    · have start : ∃ (z' : Int) (ls ns : List Nat), [some (V.ref a), some (V.int z), some (V.ref q1), some (V.ref q2)] = [some (.ref a), some (.int z'), some (.ref q1), some (.ref q2)] ∧ Same H (upd (upd H q1 (.lst (vL l))) q2 (.lst [])) ∧ (upd (upd H q1 (.lst (vL l))) q2 (.lst [])) q1 = some (.lst (vL ls)) ∧ (upd (upd H q1 (.lst (vL l))) q2 (.lst [])) q2 = some (.lst (vL ns)) ∧ (ns ++ ls).Perm l :=
        ⟨z, l, [], rfl, same_put (same_new hq1) hq20, by rw [upd_ne q12, upd_same], upd_same, List.Perm.refl _⟩
      refine ⟨_, rfl, _, _, rfl, rfl, ⟨by decide, by decide, by decide⟩, _, _, rfl, rfl, _, rfl, ite2 (fun _ => ?_) (fun _ => start)⟩
      refine ⟨fun m σ H' => ∃ (z : Int) (ls ns : List Nat), σ = [some (.ref a), some (.int z), some (.ref q1), some (.ref q2)] ∧ m = ls.length ∧ Same H H' ∧ H' q1 = some (.lst (vL ls)) ∧ H' q2 = some (.lst (vL ns)) ∧ (ns ++ ls).Perm l, ?_, fun m σ H2 hW => ?_⟩
      · obtain ⟨z', ls, ns, e1, e2, e3, e4, e5⟩ := start
        exact ⟨_, z', ls, ns, e1, rfl, e2, e3, e4, e5⟩
      obtain ⟨z, ls, ns, rfl, rfl, sm2, hQ1, hQ2, hperm⟩ := hW
      have hlen := hperm.length_eq
      rw [List.length_append] at hlen
      refine ⟨_, rfl, q1, _, rfl, .inl (SqL.of hQ1), _, _, rfl, rfl, _, rfl, ite2 (fun c => ?_) (fun c => ⟨z, ls, ns, rfl, sm2, hQ1, hQ2, hperm⟩)⟩
      have hlp : 0 < ls.length := by
        have c' := of_decide_eq_true c
        rw [vL_len] at c'
        omega
      refine ⟨fun σ H' => ∃ (z : Int) (ls' ns : List Nat), σ = [some (.ref a), some (.int z), some (.ref q1), some (.ref q2)] ∧ ls'.length < ls.length ∧ Same H H' ∧ H' q1 = some (.lst (vL ls')) ∧ H' q2 = some (.lst (vL ns)) ∧ (ns ++ ls').Perm l, fun σ' H' hN => ?_, ?_⟩
      · obtain ⟨z', ls', ns', e0, e1, e2, e3, e4, e5⟩ := hN
        exact ⟨ls'.length, e1, z', ls', ns', e0, rfl, e2, e3, e4, e5⟩
      obtain ⟨e, he, ee⟩ := rest_at z hlp
      refine ⟨_, rfl, .inl ⟨rfl, _, SqL.of hQ2⟩, _, rfl, .inl ⟨rfl, _, SqL.of hQ1⟩, _, rfl, _, rfl, q1, _, rfl, .inl (SqL.of hQ1), _, _, rfl, rfl, (by rw [vL_len]; omega), ?_⟩
      refine ⟨q1, _, _, e, _, rfl, rfl, hQ1, ?_, ?_, ?_, vL_g he, ?_⟩
      · rw [vL_len, ee]; omega
      · rw [vL_len, ee]; omega
      · rw [vL_len, ee]; exact seq_ix he
      have hQ2' : upd H2 q1 (.lst ((vL ls).eraseIdx e)) q2 = some (.lst (vL ns)) := by rw [upd_ne nq.1]; exact hQ2
      refine ⟨q2, _, _, rfl, rfl, hQ2', szL (by omega), ?_⟩
      have hQ1' : upd (upd H2 q1 (.lst ((vL ls).eraseIdx e))) q2 (.lst (vL ns ++ [vN (g ls e)])) q1 = some (.lst (vL (ls.eraseIdx e))) := by rw [upd_ne q12, upd_same, vL_erase]
      refine ⟨_, rfl, _, rfl, q1, _, rfl, .inl (SqL.of hQ1'), _, _, rfl, rfl, _, _, rfl, rfl, ?_, ?_⟩
      · rw [vL_len, List.length_eraseIdx, if_pos he]
        exact ⟨by show ((ls.length - 1 : Nat) : Int) + 1 ≠ 0; omega, by show (((ls.length - 1 : Nat) : Int) + 1).natAbs < 1073741824; omega⟩
      exact ⟨_, ls.eraseIdx e, ns ++ [g ls e], rfl, by rw [List.length_eraseIdx, if_pos he]; omega, same_put (same_put sm2 hq1) hq20, hQ1', by rw [upd_same, vL_snoc], pop_perm hperm he⟩
    · rintro σ H1 ⟨z0, ls, ns, rfl, sm1, hQ1, hQ2, hperm⟩
      have b0 := Int.emod_nonneg z0 (show (2147483646 : Int) ≠ 0 by decide)
      have b1 := Int.emod_lt_of_pos z0 (show (0 : Int) < 2147483646 by decide)
      refine ⟨_, rfl, _, _, rfl, rfl, (by show (0 : Int) < 2147483646; decide), _, _, rfl, rfl, ?_⟩
      refine ⟨fun m σ H' => ∃ (z : Int) (ls ns : List Nat), σ = [some (.ref a), some (.int z), some (.ref q1), some (.ref q2)] ∧ m = ls.length ∧ (0 ≤ z ∧ z < 4294967296) ∧ Same H H' ∧ H' q1 = some (.lst (vL ls)) ∧ H' q2 = some (.lst (vL ns)) ∧ (ns ++ ls).Perm l, ⟨_, _, ls, ns, rfl, rfl, ⟨by omega, by omega⟩, sm1, hQ1, hQ2, hperm⟩, fun m σ H2 hW => ?_⟩
      obtain ⟨z, ls, ns, rfl, rfl, ⟨hz0, hz1⟩, sm2, hQ1, hQ2, hperm⟩ := hW
      have hlen := hperm.length_eq
      rw [List.length_append] at hlen
      refine ⟨_, rfl, q1, _, rfl, .inl (SqL.of hQ1), _, _, rfl, rfl, _, rfl, ite2 (fun c => ?_) (fun c => ?_)⟩
      · have hlp : 0 < ls.length := by
          have c' := of_decide_eq_true c
          rw [vL_len] at c'
          omega
        refine ⟨fun σ H' => ∃ (z : Int) (ls' ns : List Nat), σ = [some (.ref a), some (.int z), some (.ref q1), some (.ref q2)] ∧ ls'.length < ls.length ∧ (0 ≤ z ∧ z < 4294967296) ∧ Same H H' ∧ H' q1 = some (.lst (vL ls')) ∧ H' q2 = some (.lst (vL ns)) ∧ (ns ++ ls').Perm l, fun σ' H' hN => ?_, ?_⟩
        · obtain ⟨z', ls', ns', e0, e1, e1', e2, e3, e4, e5⟩ := hN
          exact ⟨ls'.length, e1, z', ls', ns', e0, rfl, e1', e2, e3, e4, e5⟩
        have m0 := Int.emod_nonneg (z * 48271) (show (2147483647 : Int) ≠ 0 by decide)
        have m1 := Int.emod_lt_of_pos (z * 48271) (show (0 : Int) < 2147483647 by decide)
        refine ⟨_, rfl, _, _, rfl, rfl, .inl ⟨by omega, by omega⟩, _, _, rfl, rfl, (by show (0 : Int) < 2147483647; decide), ?_⟩
        obtain ⟨e, he, ee⟩ := rest_at (z * 48271 % 2147483647 / 16) hlp
        refine ⟨_, rfl, .inl ⟨rfl, _, SqL.of hQ2⟩, _, rfl, .inl ⟨rfl, _, SqL.of hQ1⟩, _, rfl, _, _, rfl, rfl, ⟨by decide, by decide⟩, _, rfl, q1, _, rfl, .inl (SqL.of hQ1), _, _, rfl, rfl, (by rw [vL_len]; omega), ?_⟩
        refine ⟨q1, _, _, e, _, rfl, rfl, hQ1, ?_, ?_, ?_, vL_g he, ?_⟩
        · rw [vL_len]
          show -(2 ^ 63) ≤ z * 48271 % 2147483647 / 16 % (ls.length : Int)
          rw [ee]; omega
        · rw [vL_len]
          show z * 48271 % 2147483647 / 16 % (ls.length : Int) < 2 ^ 63
          rw [ee]; omega
        · rw [vL_len]
          show seqIndex? (z * 48271 % 2147483647 / 16 % (ls.length : Int)) ls.length = some e
          rw [ee]; exact seq_ix he
        have hQ2' : upd H2 q1 (.lst ((vL ls).eraseIdx e)) q2 = some (.lst (vL ns)) := by rw [upd_ne nq.1]; exact hQ2
        refine ⟨q2, _, _, rfl, rfl, hQ2', szL (by omega), ?_⟩
        have hQ1' : upd (upd H2 q1 (.lst ((vL ls).eraseIdx e))) q2 (.lst (vL ns ++ [vN (g ls e)])) q1 = some (.lst (vL (ls.eraseIdx e))) := by rw [upd_ne q12, upd_same, vL_erase]
        exact ⟨_, ls.eraseIdx e, ns ++ [g ls e], rfl, by rw [List.length_eraseIdx, if_pos he]; omega, ⟨m0, by omega⟩, same_put (same_put sm2 hq1) hq20, hQ1', by rw [upd_same, vL_snoc], pop_perm hperm he⟩
      · have hl0 : ls = [] := by
          have c' := of_decide_eq_false (Bool.eq_false_iff.mpr (fun z => c z))
          rw [vL_len] at c'
          exact List.eq_nil_of_length_eq_zero (by omega)
        subst hl0
        rw [List.append_nil] at hperm
        exact ⟨_, rfl, q H2 q2 ns sm2 hq20 hperm hQ2⟩
/-! ### _law_exchanged -/
def spExch (K : PySem.W.Frag) : Sp := fun vs H Q _ => ∃ (a : Addr) (l : List Nat) (i j : Nat), vs = [.ref a, vN i, vN j] ∧ SqL K H a (vL l) ∧ i < l.length ∧ j < l.length ∧ ∀ (H' : Hp) (p : Addr), Same H H' → H p = none → H' p = some (.lst (vL (sw l i j))) → Q (.ref p) H'
theorem scExch : FnScope ["_law_line", "_law_one", "_law_other", "_law_told"] ["_law_line", "_law_one", "_law_other"] (defScope sExch) := ⟨rfl, rfl, rfl, by decide +kernel, rfl, by decide +kernel, by decide +kernel⟩
theorem ixn {n i : Nat} (h : i < n) : ixN n (i : Int) = some i := by
  unfold ixN
  rw [if_pos (by omega), if_pos (by omega)]; rfl
theorem ok_exch {f : Addr} {fd : FuncData} {k : Nat} (F : Fun K "_law_exchanged" "_law_exchanged" sExch f fd) (T : Blt mg) : FnOk P w K mg base CX0 (k + 1) f fd ["_law_line", "_law_one", "_law_other"] (spExch K) := by
  refine F.ok scExch (fun vs H Q E h => ?_) (fun cdv A outer s H vs Q E hr h => ?_)
  · obtain ⟨a, l, i, j, rfl, _⟩ := h
    rfl
  · obtain ⟨a, l, i, j, rfl, hS, hi, hj, q⟩ := h
    refine ⟨_, pss_cons (ps_set (i := 3) scExch.nd rfl (.inl rfl) (pe_callTy call_list_of (by rfl) T.list (by decide +kernel) (pa_cons (pv 0) pa_nil)))
      (pss_cons (ps_asg (pe_tup (pa_cons (pe_ix ix_list (pv 3) (pv 2) (fun _ _ => rfl)) (pa_cons (pe_ix ix_list (pv 3) (pv 1) (fun _ _ => rfl)) pa_nil)))
        (pg_tup rfl (pgs_cons (pg_sub (pv 3) (pv 1) set_list) (pgs_cons (pg_sub (pv 3) (pv 2) set_list) pgs_nil))))
      (pss_one (ps_ret (pv 3)))), ?_⟩
    refine ⟨_, rfl, a, _, rfl, .inl hS, fun p hp => ?_⟩
    have hP : upd H p (.lst (vL l)) p = some (.lst (vL l)) := upd_same
    refine ⟨_, rfl, _, rfl, p, _, _, _, rfl, rfl, SqL.of hP, vL_at hj, _, rfl, _, rfl, p, _, _, _, rfl, rfl, SqL.of hP, vL_at hi, by show 2 ≤ sizeLine; decide, fun t ht => ?_⟩
    have tp := upd_none ht
    have hP1 : upd (upd H p (.lst (vL l))) t (.tup [vN (g l j), vN (g l i)]) p = some (.lst (vL l)) := by rw [upd_ne tp.1.symm]; exact hP
    refine ⟨t, _, rfl, SqT.of upd_same, rfl, _, _, rfl, ?_⟩
    refine ⟨_, rfl, _, rfl, p, _, _, i, rfl, rfl, hP1, ixn (by rw [vL_len]; exact hi), ?_⟩
    refine ⟨_, _, rfl, _, rfl, _, rfl, p, _, _, j, rfl, rfl, upd_same, ixn (by rw [List.length_set, vL_len]; exact hj), rfl, ?_⟩
    refine ⟨_, rfl, q _ p (same_put (same_put (same_put (same_new hp) tp.2) hp) hp) hp ?_⟩
    rw [upd_same, vL_set, vL_set]
    rfl
/-! ### _law_step -/
def spLStep (K : PySem.W.Frag) : Sp := fun vs H Q _ => ∃ (p a b : Addr) (r u : List Nat) (n x k : Nat), vs = [.ref p, vN x, .str ⟨#[code k]⟩] ∧ SqT K H p [.ref a, .ref b] ∧ FzT H a (vL r) ∧ FzT H b (vL u) ∧ Pm n r ∧ Pm n u ∧ x < n ∧ k < 4 ∧ Q (vN (stp n r u k x)) H
theorem scLStep : FnScope ["_law_sheet_here", "_law_square", "_law_letter"] ["_law_sheet_here", "_law_square", "_law_letter"] (defScope sLStep) := ⟨rfl, rfl, rfl, by decide +kernel, rfl, by decide +kernel, by decide +kernel⟩
theorem sign_r (k : Nat) : decide (V.str ⟨#[code k]⟩ = V.str "r") = decide (k = 0) := by
  by_cases c : k = 0
  · subst c
    rw [decide_eq_true rfl, decide_eq_true (by rw [r_eq])]
  · rw [decide_eq_false c, decide_eq_false]
    intro z
    rw [r_eq] at z
    injection z with z
    injection z with z
    have z' : code k = code 0 := by simpa using z
    unfold code at z'
    rw [if_neg c] at z'
    simp only [if_true] at z'
    split at z'
    · omega
    · split at z' <;> omega
theorem sign_u (k : Nat) (h : k < 4) : decide (V.str ⟨#[code k]⟩ = V.str "u") = decide (k = 2) := by
  by_cases c : k = 2
  · subst c
    rw [decide_eq_true rfl, decide_eq_true (by rw [u_eq])]
  · rw [decide_eq_false c, decide_eq_false]
    intro z
    rw [u_eq] at z
    injection z with z
    injection z with z
    have z' : code k = code 2 := by simpa using z
    have : k = 0 ∨ k = 1 ∨ k = 3 := by omega
    rcases this with rfl | rfl | rfl <;> exact absurd z' (by decide)
theorem sign_l (k : Nat) (h : k < 4) : decide (V.str ⟨#[code k]⟩ = V.str "l") = decide (k = 1) := by
  by_cases c : k = 1
  · subst c
    rw [decide_eq_true rfl, decide_eq_true (by rw [l_eq])]
  · rw [decide_eq_false c, decide_eq_false]
    intro z
    rw [l_eq] at z
    injection z with z
    injection z with z
    have z' : code k = code 1 := by simpa using z
    have : k = 0 ∨ k = 2 ∨ k = 3 := by omega
    rcases this with rfl | rfl | rfl <;> exact absurd z' (by decide)
theorem ok_lstep {f : Addr} {fd : FuncData} {k : Nat} (F : Fun K "_law_step" "_law_step" sLStep f fd) : FnOk P w K mg base CX0 (k + 1) f fd ["_law_sheet_here", "_law_square", "_law_letter"] (spLStep K) := by
  refine F.ok scLStep (fun vs H Q E h => ?_) (fun cdv A outer s H vs Q E hr h => ?_)
  · obtain ⟨p, a, b, r, u, n, x, k, rfl, _⟩ := h
    rfl
  · obtain ⟨p, a, b, r, u, n, x, k, rfl, hP, hA, hB, pr, pu, hx, hk, q⟩ := h
    refine ⟨_, pss_cons (ps_if (pt_cmpR op_eq (pv 2) pe_str (nomark _)) (pss_one (ps_ret (pe_ix ix_tup (pe_ix ix_tup (pv 0) pe_int (fun _ _ => rfl)) (pv 1) (fun _ _ => rfl)))) pss_nil)
      (pss_cons (ps_if (pt_cmpR op_eq (pv 2) pe_str (nomark _)) (pss_one (ps_ret (pe_ix ix_tup (pe_ix ix_tup (pv 0) pe_int (fun _ _ => rfl)) (pv 1) (fun _ _ => rfl)))) pss_nil)
      (pss_cons (ps_if (pt_cmpR op_eq (pv 2) pe_str (nomark _)) (pss_one (ps_ret (pe_tix (pe_ix ix_tup (pv 0) pe_int (fun _ _ => rfl)) (pa_cons (pv 1) pa_nil)))) pss_nil)
      (pss_one (ps_ret (pe_tix (pe_ix ix_tup (pv 0) pe_int (fun _ _ => rfl)) (pa_cons (pv 1) pa_nil)))))), ?_⟩
    refine ⟨_, rfl, rfl, _, rfl, ?_⟩; rw [sign_r]
    by_cases c0 : k = 0
    · subst c0
      refine iteT ⟨_, rfl, p, _, _, _, rfl, rfl, hP, atI_nat (j := 0) rfl, _, rfl, a, _, _, _, rfl, rfl, hA.sq, vL_at (by rw [pr.len]; exact hx), q⟩
    rw [decide_eq_false c0]
    refine iteF ⟨_, rfl, rfl, _, rfl, ?_⟩
    rw [sign_u k hk]
    by_cases c2 : k = 2
    · subst c2
      refine iteT ⟨_, rfl, p, _, _, _, rfl, rfl, hP, atI_nat (j := 1) rfl, _, rfl, b, _, _, _, rfl, rfl, hB.sq, vL_at (by rw [pu.len]; exact hx), q⟩
    rw [decide_eq_false c2]
    refine iteF ⟨_, rfl, rfl, _, rfl, ?_⟩
    rw [sign_l k hk]
    by_cases c1 : k = 1
    · subst c1
      refine iteT ⟨_, rfl, p, _, _, _, rfl, rfl, hP, atI_nat (j := 0) rfl, ⟨a, _, rfl, hA⟩, _, rfl, a, r.map (fun n : Nat => (n : Int)), (x : Int), rfl, rfl, by rw [← vL_int]; exact hA.sq, List.mem_map.mpr ⟨x, pr.mem hx, rfl⟩, ?_⟩
      rw [idx_int]
      have e : stp n r u 1 x = r.idxOf x := g_inv hx
      rw [e] at q
      exact q
    rw [decide_eq_false c1]
    have c3 : k = 3 := by omega
    subst c3
    refine iteF ⟨_, rfl, p, _, _, _, rfl, rfl, hP, atI_nat (j := 1) rfl, ⟨b, _, rfl, hB⟩, _, rfl, b, u.map (fun n : Nat => (n : Int)), (x : Int), rfl, rfl, by rw [← vL_int]; exact hB.sq, List.mem_map.mpr ⟨x, pu.mem hx, rfl⟩, ?_⟩
    rw [idx_int]
    have e : stp n r u 3 x = u.idxOf x := g_inv hx
    rw [e] at q
    exact q
end
end Sq

namespace Sq
open L2 PySem PySem.Spec PyProof.Rows
/-- a whole sheet at p -/
structure ShAt (K : PySem.W.Frag) (H : Hp) (p a b : Addr) (r u : List Nat) (n : Nat) : Prop where
  P : H p = some (.tup [.ref a, .ref b])
  A : FzT H a (vL r)
  B : FzT H b (vL u)
  pr : Pm n r
  pu : Pm n u
  h1 : 1 ≤ n
  h36 : n ≤ 36
  con : ∀ x, x < n → Reach r u 0 x
theorem ShAt.keep {K : PySem.W.Frag} {H H' : Hp} {p a b : Addr} {r u : List Nat} {n : Nat} (h : ShAt K H p a b r u n) (e : Same H H') : ShAt K H' p a b r u n :=
  ⟨e _ _ h.P, h.A.keep e, h.B.keep e, h.pr, h.pu, h.h1, h.h36, h.con⟩
theorem ShAt.path {K : PySem.W.Frag} {H : Hp} {p a b : Addr} {r u : List Nat} {n x y : Nat} (h : ShAt K H p a b r u n) (hx : x < n) (hy : y < n) : Reach r u x y :=
  ((h.con x hx).symm h.pr h.pu h.h1).trans (h.con y hy)
section
variable {mg : Str → Option Value} {base : Heap} {P : Program} {w : World} {K : PySem.W.Frag}
/-! ### _law_leads -/
def spLeads (K : PySem.W.Frag) : Sp := fun vs H Q _ => ∃ (p a b : Addr) (r u : List Nat) (n x y : Nat), vs = [.ref p, vN x, vN y] ∧ ShAt K H p a b r u n ∧ x < n ∧ y < n ∧ ∀ H' : Hp, Same H H' → Q (.bl true) H'
theorem scLeads : FnScope ["_law_sheet_here", "_law_one", "_law_other", "_law_path", "_law_here", "_law_letter"] ["_law_sheet_here", "_law_one", "_law_other"] (defScope sLeads) := ⟨rfl, rfl, rfl, by decide +kernel, rfl, by decide +kernel, by decide +kernel⟩
theorem ok_leads {f f1 f2 f3 : Addr} {fd fd1 fd2 fd3 : FuncData} {k : Nat} (F : Fun K "_law_leads" "_law_leads" sLeads f fd) (T : Blt mg) (C1 : Cal P w K mg base CX0 k "path_between" ["sheet", "one", "other"] (spPath K) f1 fd1)
    (C2 : Cal P w K mg base CX0 k "gone" ["sheet", "square", "path"] (spGone K) f2 fd2) (C3 : Cal P w K mg base CX0 k "_law_step" ["_law_sheet_here", "_law_square", "_law_letter"] (spLStep K) f3 fd3) :
    FnOk P w K mg base CX0 (k + 1) f fd ["_law_sheet_here", "_law_one", "_law_other"] (spLeads K) := by
  refine F.ok scLeads (fun vs H Q E h => ?_) (fun cdv A outer s H vs Q E hr h => ?_)
  · obtain ⟨p, a, b, r, u, n, x, y, rfl, _⟩ := h
    rfl
  · obtain ⟨p, a, b, r, u, n, x, y, rfl, S, hx, hy, q⟩ := h
    refine ⟨_, pss_cons (ps_set (i := 3) scLeads.nd rfl (.inl rfl) (pe_call C1.G hr (by rfl) C1.m C1.kp C1.b .nil pass0 (pa_cons (pv 0) (pa_cons (pv 1) (pa_cons (pv 2) pa_nil)))))
      (pss_cons (ps_if (PW.pt (pw_or (pt_not (pt_val (pe_callB call_isi (by rfl) T.isinstance (by decide +kernel) (pa_cons (pv 3) (pa_cons (pe_bltn (v := .ty "str") (by rfl) T.str (by decide +kernel) rfl) pa_nil)))))
        (pw_or1 (pt_cmpR op_ge (pe_callB call_len_str (by rfl) T.len PySem.boot_len (pa_cons (pv 3) pa_nil)) (pe_callB call_len_seq (by rfl) T.len PySem.boot_len (pa_cons (pe_ix ix_tup (pv 0) pe_int (fun _ _ => rfl)) pa_nil)) (nomark _))))) (pss_one (ps_ret pe_bl)) pss_nil)
      (pss_cons (ps_set (i := 4) scLeads.nd rfl (.inl rfl) (pv 1))
      (pss_cons (ps_for PassesOwn.never rfl (pi_str (pv 3)) (pg_name (i := 5) scLeads.nd rfl (.inl rfl))
        (pss_cons (ps_if (pt_cmpR op_notIn_sign (pv 5) pe_str (by rfl)) (pss_one (ps_ret pe_bl)) pss_nil)
        (pss_one (ps_set (i := 4) scLeads.nd rfl (.inl rfl) (pe_call C3.G hr (by rfl) C3.m C3.kp C3.b .nil pass0 (pa_cons (pv 0) (pa_cons (pv 4) (pa_cons (pv 5) pa_nil))))))))
      (pss_one (ps_ret (pe_and (pe_cmpR op_eq (pv 4) (pv 2) (nomark _)) (pe_one (pe_cmpR op_eq (pe_call C2.G hr (by rfl) C2.m C2.kp C2.b .nil pass0 (pa_cons (pv 0) (pa_cons (pv 1) (pa_cons (pv 3) pa_nil)))) (pv 2) (nomark _))))))))), ?_⟩
    refine ⟨_, rfl, _, rfl, _, rfl, p, a, b, r, u, n, x, y, rfl, SqT.of S.P, S.A.sq, S.B.sq, S.pr, S.pu, S.h36, hx, hy, S.path hx hy, fun H1 pw s1 hl hk hw => ?_⟩
    have S1 := S.keep s1
    refine ⟨_, rfl, _, .ty "str", _, _, true, rfl, .ty "str", .base (.str _), kit_ty (by decide +kernel), true, rfl, iteF ?_⟩
    refine ⟨_, rfl, _, rfl, by rw [txt_len]; exact Nat.le_of_lt (small1000 (by have := S.h36; omega)), _, rfl, p, _, _, _, rfl, rfl, SqT.of S1.P, atI_nat (j := 0) rfl, a, _, rfl, .inr S1.A.sq, _, _, rfl, rfl, _, rfl, ?_⟩
    rw [txt_len, vL_len, S.pr.len, decide_eq_false (show ¬ ((n : Nat) : Int) ≤ ((pw.length : Nat) : Int) by omega)]
    refine iteF ?_
    refine ⟨_, rfl, ?_⟩
    refine ⟨_, rfl, txt pw, rfl, for_it walk_str (fun i σ H' => ∃ v5 : Option V, σ = [some (.ref p), some (vN x), some (vN y), some (.str (txt pw)), some (vN (walkW n r u x (pw.take i))), v5] ∧ H' = H1)
      ⟨none, rfl, rfl⟩ (fun _ _ _ _ _ => trivial) ?_ ?_⟩
    · rintro i v σ H2 H3 hi ⟨v5, rfl, rfl⟩ ⟨rfl, cc, hc, rfl⟩
      obtain ⟨hiw, rfl⟩ := txt_get hc
      have hk4 : g pw i < 4 := hk _ (g_mem hiw)
      refine ⟨_, rfl, _, _, rfl, rfl, _, rfl, (?_)⟩
      have hin : code (g pw i) ∈ ("rlud" : Str).cps.toList := by
        rw [rlud_eq]
        have : g pw i = 0 ∨ g pw i = 1 ∨ g pw i = 2 ∨ g pw i = 3 := by omega
        rcases this with e | e | e | e <;> rw [e] <;> decide
      rw [decide_eq_true hin]
      refine iteF ⟨_, rfl, _, rfl, _, rfl, p, a, b, r, u, n, _, g pw i, rfl, SqT.of S1.P, S1.A, S1.B, S.pr, S.pu, walkW_lt S.pr S.pu _ hx, hk4, ?_⟩
      refine ⟨some (.str ⟨#[code (g pw i)]⟩), ?_, rfl⟩
      rw [walkW_take hiw]
      rfl
    · rintro σ H2 ⟨v5, rfl, rfl⟩
      rw [txt_size, List.take_length, hw]
      refine ⟨_, rfl, _, rfl, rfl, true, by rw [decide_eq_true rfl], iteT ?_⟩
      refine ⟨_, rfl, _, rfl, _, rfl, p, a, b, r, u, n, x, pw, rfl, SqT.of S1.P, S1.A.sq, S1.B.sq, S.pr, S.pu, S.h36, hx, hk, fun H3 s3 => ?_⟩
      rw [hw]
      refine ⟨_, rfl, rfl, ?_⟩
      show Q (.bl (decide (vN y = vN y))) H3
      rw [decide_eq_true rfl]
      exact q H3 (s1.trans s3)
/-! ### _law_is_sheet -/
def spIsSheet (K : PySem.W.Frag) : Sp := fun vs H Q _ => ∃ (p a b : Addr) (r u : List Nat) (n : Nat), vs = [.ref p, vN n] ∧ ShAt K H p a b r u n ∧ ∀ H' : Hp, Same H H' → Q (.bl true) H'
theorem scIsSheet : FnScope ["_law_found", "_law_many", "_law_line", "_law_square"] ["_law_found", "_law_many"] (defScope sIsSheet) := ⟨rfl, rfl, rfl, by decide +kernel, rfl, by decide +kernel, by decide +kernel⟩
theorem canI : ∀ ns : List Int, PyData.canLayAll0 (ns.map .int) = true
  | [] => rfl
  | n :: ns => by
    show (PyData.canLay0 (.int n) && PyData.canLayAll0 (ns.map .int)) = true
    rw [canI ns]
    rfl
theorem shapedI (ns : List Int) : SeqAt.shaped (.list (ns.map .int)) = true := by
  unfold SeqAt.shaped
  have h1 : (PyData.list (ns.map .int)).canLay0 = true := canI ns
  have h2 : (PyData.list (ns.map .int)).depth ≤ 64 := by simp [PyData.depth, PySem.W.depth_ints]
  rw [h1, decide_eq_true h2]
  rfl
theorem eqvI (ns : List Int) : PyData.eqv (.list (ns.map .int)) (.list (ns.map .int)) = true := SeqAt.eqv_refl _ (canI ns)
theorem rise_pm {n : Nat} {l r : List Nat} (p : Pm n r) (h : l.Perm r) (hs : l.Pairwise (· < ·)) : l = List.range n :=
  rise_ext hs (range_rise n) fun x => by
    rw [h.mem_iff, List.mem_range]
    exact ⟨fun q => p.lt x q, fun q => p.mem q⟩
theorem all_true : ∀ bs : List Bool, (∀ b ∈ bs, b = true) → bs.all id = true
  | [], _ => rfl
  | b :: bs, h => by
    rw [List.all_cons, h b List.mem_cons_self, all_true bs fun c hc => h c (List.mem_cons_of_mem _ hc)]
    rfl
theorem ok_isSheet {f f1 f2 : Addr} {fd fd1 fd2 : FuncData} {k : Nat} (F : Fun K "_law_is_sheet" "_law_is_sheet" sIsSheet f fd) (T : Blt mg) (C1 : Cal P w K mg base CX0 k "_law_whole" ["_law_found"] spWhole f1 fd1)
    (C2 : Cal P w K mg base CX0 k "_law_met" ["_law_right", "_law_up", "_law_first"] (spMet K) f2 fd2) : FnOk P w K mg base CX0 (k + 1) f fd ["_law_found", "_law_many"] (spIsSheet K) := by
  refine F.ok scIsSheet (fun vs H Q E h => ?_) (fun cdv A outer s H vs Q E hr h => ?_)
  · obtain ⟨p, a, b, r, u, n, rfl, _⟩ := h
    rfl
  · obtain ⟨p, a, b, r, u, n, rfl, S, q⟩ := h
    have hu64 := hr.units
    refine ⟨_, pss_cons (ps_if (PW.pt (pw_or (pt_not (pt_val (pe_callB call_isi (by rfl) T.isinstance (by decide +kernel) (pa_cons (pv 0) (pa_cons (pe_bltn (v := .ty "tuple") (by rfl) T.tuple (by decide +kernel) rfl) pa_nil)))))
        (pw_or1 (pt_cmpR op_ne (pe_callB call_len_seq (by rfl) T.len PySem.boot_len (pa_cons (pv 0) pa_nil)) pe_int (nomark _))))) (pss_one (ps_ret pe_bl)) pss_nil)
      (pss_cons (ps_for PassesOwn.never rfl (pi_tup (pv 0)) (pg_name (i := 2) scIsSheet.nd rfl (.inl rfl))
        (pss_cons (ps_if (PW.pt (pw_or (pt_not (pt_val (pe_callB call_isi (by rfl) T.isinstance (by decide +kernel) (pa_cons (pv 2) (pa_cons (pe_bltn (v := .ty "tuple") (by rfl) T.tuple (by decide +kernel) rfl) pa_nil)))))
          (pw_or1 (pt_cmpR op_ne (pe_callB call_len_seq (by rfl) T.len PySem.boot_len (pa_cons (pv 2) pa_nil)) (pv 1) (nomark _))))) (pss_one (ps_ret pe_bl)) pss_nil)
        (pss_cons (ps_if (pt_not (pt_val (pe_callB (cr_all rfl) (by rfl) T.all (by decide +kernel) (pa_cons
            (pe_lc (own := [("_law_square", 3)]) (g := gName 3) (by rfl) scIsSheet.nd (pi_tup (pv 2)) (blkOk_by (own := [("_law_square", 3)]) (N := ["_law_found", "_law_many", "_law_line", "_law_square"]) (sc := defScope sIsSheet) (by decide +kernel)) (fun _ _ _ _ _ => pg_name (i := 3) scIsSheet.nd rfl (Or.inl rfl)) (fun _ _ _ _ _ => pts_nil)
              (fun _ _ _ _ _ => pe_call C1.G hr (by rfl) C1.m C1.kp C1.b .nil pass0 (pa_cons (pv 3) pa_nil))) pa_nil)))) (pss_one (ps_ret pe_bl)) pss_nil)
        (pss_one (ps_if (pt_cmpR (op_neD hu64) (pe_callB cr_sortTup (by rfl) T.sorted (by decide +kernel) (pa_cons (pv 2) pa_nil)) (pe_listRg rfl (by rfl) T.list (prg_1 (by rfl) T.range (pv 1))) (nomark _)) (pss_one (ps_ret pe_bl)) pss_nil)))))
      (pss_one (ps_ret (pe_cmpR op_eq (pe_callB call_len_seq (by rfl) T.len PySem.boot_len (pa_cons (pe_call C2.G hr (by rfl) C2.m C2.kp C2.b .nil pass0 (pa_cons (pe_ix ix_tup (pv 0) pe_int (fun _ _ => rfl)) (pa_cons (pe_ix ix_tup (pv 0) pe_int (fun _ _ => rfl)) (pa_cons pe_int pa_nil)))) pa_nil)) (pv 1) (nomark _))))), ?_⟩
    refine ⟨_, rfl, .ref p, .ty "tuple", _, _, true, rfl, .ty "tuple", .base (.tup S.P), kit_ty (by decide +kernel), true, rfl, iteF ?_⟩
    refine ⟨_, rfl, p, _, rfl, .inr (SqT.of S.P), rfl, _, rfl, iteNS rfl ?_⟩
    refine ⟨_, rfl, p, rfl, ⟨_, SqT.of S.P⟩, for_tup (K := K) (a := p) (xs := [.ref a, .ref b]) (fun j σ' H' => ∃ (v2 v3 : Option V), σ' = [some (.ref p), some (vN n), v2, v3] ∧ Same H H')
      ⟨none, none, rfl, Same.refl H⟩ (fun j σ' H' _ ⟨_, _, _, sm⟩ => seT sm (SqT.of S.P)) ?_ ?_⟩
    · rintro j z σ' H1 hz ⟨v2, v3, rfl, sm⟩
      obtain ⟨c, l, rfl, hC, pl⟩ : ∃ (c : Addr) (l : List Nat), z = .ref c ∧ FzT H c (vL l) ∧ Pm n l := by
        have hj : j < 2 := (List.getElem?_eq_some_iff.mp hz).1
        have : j = 0 ∨ j = 1 := by omega
        rcases this with e | e
        · subst e; exact ⟨a, r, (Option.some.inj hz).symm, S.A, S.pr⟩
        · subst e; exact ⟨b, u, (Option.some.inj hz).symm, S.B, S.pu⟩
      have hC1 := hC.keep sm
      obtain ⟨ob, _, hob⟩ := id hC1
      refine ⟨_, rfl, .ref c, .ty "tuple", _, _, true, rfl, .ty "tuple", .fTuple hob, kit_ty (by decide +kernel), true, rfl, iteF ?_⟩
      refine ⟨_, rfl, c, _, rfl, .inr hC1.sq, _, rfl, rfl, _, rfl, ?_⟩
      rw [vL_len, pl.len]
      refine iteNS rfl ?_
      have hln := pl.len
      have h36 := S.h36
      refine ⟨_, rfl, c, rfl, ⟨_, hC1.sq⟩, fun D hD => lc_tup (K := K) (a := c) (xs := vL l) (fun i H' => ∃ bs : List Bool, bs.length = i ∧ (∀ b ∈ bs, b = true) ∧ Same H1 H' ∧ H' D = some (.lst (bs.map V.bl)))
        ⟨[], rfl, fun b hb => absurd hb (by simp), same_new hD, upd_same⟩ (fun i H' _ ⟨_, _, _, sm', _⟩ => seT sm' hC1.sq) ?_ ?_⟩
      · rintro i x H2 hx ⟨bs, rfl, hbs, sm2, hL⟩
        obtain ⟨hi, rfl⟩ := vL_of_get hx
        refine ⟨rfl, ?_⟩
        refine ⟨_, rfl, _, rfl, _, hL, by rw [List.length_map]; exact small1000 (by omega), bs ++ [true], by rw [List.length_append]; rfl, fun b hb => ?_, same_put sm2 hD, by rw [upd_same, List.map_append]; rfl⟩
        rcases List.mem_append.mp hb with z | z
        · exact hbs b z
        · exact List.mem_singleton.mp z
      · rintro H2 ⟨bs, hbl, hbs, sm2, hL⟩
        refine ⟨D, bs, rfl, SqL.of hL, true, by rw [all_true bs hbs], iteF ?_⟩
        refine ⟨_, rfl, c, l.map (fun n : Nat => (n : Int)), rfl, by rw [← vL_int]; exact seT sm2 hC1.sq, fun ns' g2 hperm hsort hg => ?_⟩
        obtain ⟨l', rfl, hlp, hls⟩ := sorted_nat hperm hsort pl.nd
        have el : l' = List.range n := rise_pm pl hlp hls
        subst el
        refine ⟨_, rfl, (n : Int), rfl, rgOk_nat (by omega), fun q1 hq1 => ?_⟩
        have ng := upd_none hq1
        refine ⟨.list ((List.map (fun n : Nat => (n : Int)) (List.range n)).map .int), .list ((List.map (fun n : Nat => (n : Int)) (List.range n)).map .int), .lst (SqL.of (by rw [upd_ne ng.1.symm]; exact upd_same)) (dp_ints _), .lst (SqL.of (by rw [upd_same, rgV_nat, vL_int])) (dp_ints _), shapedI _, shapedI _, _, rfl, ?_⟩
        rw [eqvI]
        refine iteF ?_
        exact ⟨_, _, rfl, same_put (same_put (sm.trans sm2) ((sm.trans sm2).free hg)) ((sm.trans sm2).free ng.2)⟩
    · rintro σ' H1 ⟨v2, v3, rfl, sm⟩
      have S1 := S.keep sm
      refine ⟨_, rfl, p, _, _, _, rfl, rfl, SqT.of S1.P, atI_nat (j := 0) rfl, _, rfl, p, _, _, _, rfl, rfl, SqT.of S1.P, atI_nat (j := 1) rfl, a, b, r, u, n, 0, rfl, .inr S1.A.sq, .inr S1.B.sq, S.pr, S.pu, S.h1, S.h36, fun ms H2 m hnd hms hml s2 hm hM => ?_⟩
      refine ⟨m, _, rfl, .inl (SqL.of hM), _, rfl, rfl, ?_⟩
      have e : ms.length = n := by
        have e1 : ms.length ≤ n := len_of_lt hnd fun x hx => ((hms x).mp hx).lt S.pr S.pu S.h1
        have e2 := pigeon (List.range n) ms List.nodup_range fun x hx => (hms x).mpr (S.con x (List.mem_range.mp hx))
        rw [List.length_range] at e2
        omega
      rw [vL_len, e]
      show Q (.bl (decide (vN n = vN n))) H2
      rw [decide_eq_true rfl]
      exact q H2 (sm.trans s2)
/-! ### _law_apart -/
def spApart (K : PySem.W.Frag) : Sp := fun vs H Q _ => ∃ (a b : Addr) (r u : List Nat) (n : Nat), vs = [.ref a, .ref b] ∧ SqL K H a (vL r) ∧ SqL K H b (vL u) ∧ Pm n r ∧ Pm n u ∧ 1 ≤ n ∧ n ≤ 36 ∧ (∃ x, x < n ∧ ¬ Reach r u 0 x) ∧
  ∀ (H' : Hp) (x : Nat), Same H H' → x < n → ¬ Reach r u 0 x → (∀ y, y < x → Reach r u 0 y) → Q (vN x) H'
theorem scApart : FnScope ["_law_right", "_law_up", "_law_lacking", "e"] ["_law_right", "_law_up"] (defScope sApart) := ⟨rfl, rfl, rfl, by decide +kernel, rfl, by decide +kernel, by decide +kernel⟩
theorem ok_apart {f f1 fI C : Addr} {fd fd1 : FuncData} {k : Nat} (F : Fun K "_law_apart" "_law_apart" sApart f fd) (C1 : Cal P w K mg base (L2.CX P w) k "sheet_of" ["right", "up"] (spSheet K C) f1 fd1) (X : Exn K mg C fI) (XF : XfC K C) (te : PySem.W.exmOne K (.ref C) (.ref C) = some true) :
    FnOk P w K mg base CX0 (k + 1) f fd ["_law_right", "_law_up"] (spApart K) := by
  refine F.ok scApart (fun vs H Q E h => ?_) (fun cdv A outer s H vs Q E hr h => ?_)
  · obtain ⟨a, b, r, u, n, rfl, _⟩ := h
    rfl
  · obtain ⟨a, b, r, u, n, rfl, hA, hB, pr, pu, h1, h36, ⟨x0, hx0, hn0⟩, q⟩ := h
    refine ⟨_, pss_cons (ps_set (i := 2) scApart.nd rfl (.inl rfl) pe_non)
      (pss_cons (ps_try_as (i := 3) (tb := fun W => tDrop (tCallS (spSheet K C) (WE W) (tCons (tVar 0) (tCons (tVar 1) tNil)))) (ts := fun a cls d => tAsg (tXf a cls d C "square" (tVar 3)) (gName 2)) (Wout := fun _ _ _ _ => False) rfl rfl scApart.nd rfl rfl ⟨rfl, by decide, Or.inl X.m⟩ takes0
          (fun W pn xe tk _ => pss_one (ps_expr (by exact (pe_callS C1.G hr rfl C1.m C1.kp C1.b (fun σ => passAt tk σ) (by exact (pa_cons (pv 0) (pa_cons (pv 1) pa_nil)))))))
          (fun a oe cls d pn hz hf => pss_one (ps_set (i := 2) scApart.nd rfl (Or.inl rfl) (by exact (pe_xf XF X.no hz hf (pv 3))))))
      (pss_one (ps_ret (pv 2)))), ?_⟩
    refine ⟨_, rfl, _, rfl, a, b, r, u, n, rfl, hA, hB, pr, pu, h1, h36, fun hw => absurd (hw x0 hx0) hn0, fun x hx hnx hlt H1 d s1 hd => ?_⟩
    refine ⟨true, te, fun _ e he => ?_, fun z => Bool.noConfusion z⟩
    refine ⟨_, rfl, rfl, rfl, d, _, _, rfl, hd, rfl, ?_⟩
    exact ⟨_, rfl, q H1 x s1 hx hnx hlt⟩
end
end Sq

namespace Sq
open L2 PySem PySem.Spec PyProof.Rows
/-- a dict by squares -/
structure PV (kvs : List (Key × V)) (ws : List Nat) (f : Nat → V) : Prop where
  len : kvs.length ≤ ws.length
  val : ∀ y : Nat, valV kvs (.inl (y : Int)) = if y ∈ ws then some (f y) else none
theorem PV.put {kvs : List (Key × V)} {ws : List Nat} {f : Nat → V} (p : PV kvs ws f) {z : Nat} (hz : z ∉ ws) : PV (putK kvs (.inl (z : Int)) (f z)) (ws ++ [z]) f := by
  have e : valV kvs (.inl (z : Int)) = none := by rw [p.val, if_neg hz]
  rw [putK_new _ e]
  refine ⟨?_, fun y => ?_⟩
  · rw [List.length_append, List.length_append]
    have := p.len
    simp only [List.length_singleton]
    omega
  · rw [valV_snoc _ _ _ _ e]
    by_cases c : y = z
    · subst c
      rw [if_pos rfl, if_pos (List.mem_append_right _ (List.mem_singleton.mpr rfl))]
    · rw [if_neg (fun t => c (by have q := Sum.inl.inj t; omega)), p.val]
      by_cases d : y ∈ ws
      · rw [if_pos d, if_pos (List.mem_append_left _ d)]
      · rw [if_neg d, if_neg (fun t => by
          rcases List.mem_append.mp t with t | t
          · exact d t
          · exact c (List.mem_singleton.mp t))]
theorem take_snoc {l : List Nat} {i : Nat} (h : i < l.length) : l.take (i + 1) = l.take i ++ [g l i] := by
  rw [List.take_add_one, get_g h]
  rfl
theorem take_not {l : List Nat} (hn : l.Nodup) {i : Nat} (h : i < l.length) : g l i ∉ l.take i := fun z => by
  obtain ⟨m, hm, e⟩ := mem_g z
  rw [List.length_take] at hm
  have e2 : g (l.take i) m = g l m := g_get (by rw [List.getElem?_take, if_pos (by omega), get_g (by omega)])
  rw [e2] at e
  have := nd_g hn (by omega) h e
  omega
section
variable {mg : Str → Option Value} {base : Heap} {P : Program} {w : World} {K : PySem.W.Frag}
/-! ### _law_among -/
def spAmong (K : PySem.W.Frag) : Sp := fun vs H Q _ => ∃ (a b c : Addr) (r u ms : List Nat) (n : Nat), vs = [.ref a, .ref b, .ref c] ∧ SqL K H a (vL r) ∧ SqL K H b (vL u) ∧ SqL K H c (vL ms) ∧ Pm n r ∧ Pm n u ∧ 1 ≤ n ∧ n ≤ 36 ∧ ms = cls n r u 0 ∧
  ∀ (H' : Hp) (p t1 t2 : Addr), Same H H' → H p = none → H' p = some (.tup [.ref t1, .ref t2]) → H' t1 = some (.tup (vL (am r ms))) → H' t2 = some (.tup (vL (am u ms))) → Q (.ref p) H'
theorem scAmong : FnScope ["_law_right", "_law_up", "_law_met_here", "_law_place", "_law_k", "_law_square", "_law_one"] ["_law_right", "_law_up", "_law_met_here"] (defScope sAmong) := ⟨rfl, rfl, rfl, by decide +kernel, rfl, by decide +kernel, by decide +kernel⟩
theorem ok_among {f : Addr} {fd : FuncData} {k : Nat} (F : Fun K "_law_among" "_law_among" sAmong f fd) (T : Blt mg) : FnOk P w K mg base CX0 (k + 1) f fd ["_law_right", "_law_up", "_law_met_here"] (spAmong K) := by
  refine F.ok scAmong (fun vs H Q E h => ?_) (fun cdv A outer s H vs Q E hr h => ?_)
  · obtain ⟨a, b, c, r, u, ms, n, rfl, _⟩ := h
    rfl
  · obtain ⟨a, b, c, r, u, ms, n, rfl, hA, hB, hC, pr, pu, h1, h36, ems, q⟩ := h
    have hu := hu_of hr
    have hnd : ms.Nodup := by rw [ems]; exact cls_nd
    have hmm : ∀ x, x ∈ ms ↔ x < n ∧ Reach r u 0 x := fun x => by rw [ems]; exact mem_cls
    have hlt : ∀ x ∈ ms, x < n := fun x hx => ((hmm x).mp hx).1
    have hml : ms.length ≤ n := len_of_lt hnd hlt
    refine ⟨_, pss_cons (ps_set (i := 3) scAmong.nd rfl (Or.inr rfl) pe_dnewK)
      (pss_cons (ps_for PassesOwn.never rfl (pi_enum (by rfl) T.enumerate (pa_cons (pv 2) pa_nil)) (pg_tup rfl (pgs_cons (pg_name (i := 4) scAmong.nd rfl (.inl rfl)) (pgs_cons (pg_name (i := 5) scAmong.nd rfl (.inl rfl)) pgs_nil)))
        (pss_one (ps_dput hu (pv 3) (pv 5) (pv 4) rfl)))
      (pss_cons (ps_set (i := 6) scAmong.nd rfl (.inl rfl) (pe_callTy call_tuple_of (by rfl) T.tuple (by decide +kernel) (pa_cons
        (pe_lc (own := [("_law_square", 5)]) (g := gName 5) (by rfl) scAmong.nd (pi_list (pv 2)) (blkOk_by (own := [("_law_square", 5)]) (N := ["_law_right", "_law_up", "_law_met_here", "_law_place", "_law_k", "_law_square", "_law_one"]) (sc := defScope sAmong) (by decide +kernel)) (fun _ _ _ _ _ => pg_name (i := 5) scAmong.nd rfl (Or.inl rfl)) (fun _ _ _ _ _ => pts_nil)
          (fun _ _ _ _ _ => pe_dget hu (pv 3) (pe_ix (r := rIxL K) ix_list (pv 0) (pv 5) (fun _ _ => rfl)) (fun _ _ => rfl))) pa_nil)))
      (pss_one (ps_ret (pe_tup (pa_cons (pv 6) (pa_cons (pe_callTy call_tuple_of (by rfl) T.tuple (by decide +kernel) (pa_cons
        (pe_lc (own := [("_law_square", 5)]) (g := gName 5) (by rfl) scAmong.nd (pi_list (pv 2)) (blkOk_by (own := [("_law_square", 5)]) (N := ["_law_right", "_law_up", "_law_met_here", "_law_place", "_law_k", "_law_square", "_law_one"]) (sc := defScope sAmong) (by decide +kernel)) (fun _ _ _ _ _ => pg_name (i := 5) scAmong.nd rfl (Or.inl rfl)) (fun _ _ _ _ _ => pts_nil)
          (fun _ _ _ _ _ => pe_dget hu (pv 3) (pe_ix (r := rIxL K) ix_list (pv 1) (pv 5) (fun _ _ => rfl)) (fun _ _ => rfl))) pa_nil)) pa_nil))))))), ?_⟩
    intro d hd
    refine ⟨_, rfl, c, _, rfl, (same_new hd).seq hC, for_it walk_enum (fun i σ H' => ∃ (kvs : List (Key × V)) (v4 v5 : Option V), σ = [some (.ref a), some (.ref b), some (.ref c), some (.ref d), v4, v5, none] ∧ PV kvs (ms.take i) (fun y => vN (ms.idxOf y)) ∧ Same H H' ∧ H' d = some (.dK kvs))
      ⟨[], none, none, rfl, ⟨Nat.le_refl _, fun y => rfl⟩, same_new hd, upd_same⟩ (fun i σ H' _ ⟨_, _, _, _, _, sm, _⟩ => sm.seq hC) ?_ ?_⟩
    · rintro i x σ H1 H2 hi ⟨kvs, v4, v5, rfl, D, sm, hD⟩ ⟨t, y, z, rfl, ht, rfl, hy, hz⟩
      rw [vL_len] at hi
      have ey : vN i = y := Option.some.inj hy
      obtain ⟨_, rfl⟩ := vL_of_get hz
      subst ey
      have dt : d ≠ t := ne_of_none hD ht
      refine ⟨t, [vN i, vN (g ms i)], rfl, SqT.of upd_same, rfl, _, _, rfl, _, _, rfl, rfl, ?_⟩
      have D' := D.put (take_not hnd hi)
      rw [idxm_g hnd hi, ← take_snoc hi] at D'
      have hl := D.len
      rw [List.length_take] at hl
      refine ⟨_, rfl, _, rfl, _, rfl, d, _, rfl, DPut.k (k := Sum.inl ((g ms i : Nat) : Int)) (by rw [upd_ne dt]; exact hD) (small1000 (by omega)), ?_⟩
      exact ⟨_, _, _, rfl, D', same_put (same_put sm (sm.free ht)) hd, upd_same⟩
    · rintro σ H1 ⟨kvs, v4, v5, rfl, D, sm, hD⟩
      rw [vL_len, List.take_length] at D
      have look : ∀ {H' : Hp} {ro : List Nat}, Pm n ro → (∀ x ∈ ms, g ro x ∈ ms) → Same H1 H' → ∀ {x : Nat}, x ∈ ms → DGet H' d (vN (g ro x)) (some (vN (ms.idxOf (g ro x)))) := fun {H' ro} po hc s1 {x} hx => by
        have hg := DGet.k (k := Sum.inl ((g ro x : Nat) : Int)) (s1 _ _ hD)
        rw [D.val, if_pos (hc x hx)] at hg
        exact hg
      have cr : ∀ x ∈ ms, g r x ∈ ms := fun x hx => (hmm _).mpr ⟨pr.glt (hlt x hx), .rt ((hmm x).mp hx).2⟩
      have cu : ∀ x ∈ ms, g u x ∈ ms := fun x hx => (hmm _).mpr ⟨pu.glt (hlt x hx), .up ((hmm x).mp hx).2⟩
      have am_take : ∀ {ro : List Nat} {i : Nat}, i < ms.length → vL ((am ro ms).take i) ++ [vN (ms.idxOf (g ro (g ms i)))] = vL ((am ro ms).take (i + 1)) := fun {ro i} hi => by
        rw [take_snoc (by rw [am_len]; exact hi), g_am hi, vL_snoc]
      -- place[right[square]] for each
      refine ⟨_, rfl, c, rfl, ⟨_, sm.seq hC⟩, fun D1 hD1 => lc_list (K := K) (a := c) (xs := vL ms) (fun i H' => Same H1 H' ∧ H' D1 = some (.lst (vL ((am r ms).take i))))
        ⟨same_new hD1, upd_same⟩ (fun i H' _ ⟨s1, _⟩ => (sm.trans s1).seq hC) ?_ ?_⟩
      · rintro i x H2 hx ⟨s1, hL⟩
        obtain ⟨hi, rfl⟩ := vL_of_get hx
        refine ⟨rfl, ?_⟩
        refine ⟨_, rfl, _, rfl, _, rfl, a, _, _, _, rfl, rfl, (sm.trans s1).seq hA, vL_at (by rw [pr.len]; exact hlt _ (g_mem hi)), d, _, rfl, look pr cr s1 (g_mem hi), ?_⟩
        refine ⟨_, hL, szL (by rw [List.length_take, am_len]; omega), same_put s1 hD1, by rw [upd_same, am_take hi]⟩
      rintro H2 ⟨s1, hL⟩
      rw [vL_len, ← am_len (r := r), List.take_length] at hL
      refine ⟨D1, _, rfl, .inl ⟨SqL.of hL, fun t1 ht1 => ?_⟩⟩
      have s2 : Same H1 (upd H2 t1 (.tup (vL (am r ms)))) := same_put s1 (s1.free ht1)
      -- place[up[square]] for each
      refine ⟨_, rfl, _, rfl, c, rfl, ⟨_, (sm.trans s2).seq hC⟩, fun D2 hD2 => lc_list (K := K) (a := c) (xs := vL ms) (fun i H' => Same (upd H2 t1 (.tup (vL (am r ms)))) H' ∧ H' D2 = some (.lst (vL ((am u ms).take i))))
        ⟨same_new hD2, upd_same⟩ (fun i H' _ ⟨s3, _⟩ => (sm.trans (s2.trans s3)).seq hC) ?_ ?_⟩
      · rintro i x H3 hx ⟨s3, hL3⟩
        obtain ⟨hi, rfl⟩ := vL_of_get hx
        refine ⟨rfl, ?_⟩
        refine ⟨_, rfl, _, rfl, _, rfl, b, _, _, _, rfl, rfl, (sm.trans (s2.trans s3)).seq hB, vL_at (by rw [pu.len]; exact hlt _ (g_mem hi)), d, _, rfl, look pu cu (s2.trans s3) (g_mem hi), ?_⟩
        refine ⟨_, hL3, szL (by rw [List.length_take, am_len]; omega), same_put s3 hD2, by rw [upd_same, am_take hi]⟩
      rintro H3 ⟨s3, hL3⟩
      rw [vL_len, ← am_len (r := u), List.take_length] at hL3
      refine ⟨D2, _, rfl, .inl ⟨SqL.of hL3, fun t2 ht2 => ?_⟩⟩
      refine ⟨(by show 2 ≤ sizeLine; decide), fun p hp => ?_⟩
      have np := upd_none hp
      have sf : Same H (upd H3 t2 (.tup (vL (am u ms)))) := same_put (sm.trans (s2.trans s3)) ((sm.trans (s2.trans s3)).free ht2)
      have h1' : H3 t1 = some (.tup (vL (am r ms))) := s3 _ _ upd_same
      refine q _ p t1 t2 (same_put sf (sf.free hp)) (sf.free hp) upd_same ?_ ?_
      · rw [upd_ne (ne_of_none (by rw [upd_ne (ne_of_none h1' ht2)]; exact h1') hp), upd_ne (ne_of_none h1' ht2)]
        exact h1'
      · rw [upd_ne np.1.symm, upd_same]
/-! ### _law_sheet -/
def spLSheet (K : PySem.W.Frag) : Sp := fun vs H Q _ => ∃ (s : Addr) (zs : List Int) (a n : Nat), vs = [.ref s, vN a, vN n] ∧ SqL K H s (zs.map V.int) ∧ 1 ≤ n ∧ n ≤ 36 ∧
  ∀ (H' : Hp) (p t1 t2 : Addr) (m : Nat) (r u : List Nat), Same H H' → H p = none → H' p = some (.tup [.ref t1, .ref t2]) → H' t1 = some (.tup (vL r)) → H' t2 = some (.tup (vL u)) → ShOk m r u → m ≤ n → Q (.ref p) H'
theorem scLSheet : FnScope ["_law_script", "_law_at", "_law_many", "_law_right", "_law_up"] ["_law_script", "_law_at", "_law_many"] (defScope sLSheet) := ⟨rfl, rfl, rfl, by decide +kernel, rfl, by decide +kernel, by decide +kernel⟩
theorem ok_lsheet {f f1 f2 f3 : Addr} {fd fd1 fd2 fd3 : FuncData} {k : Nat} (F : Fun K "_law_sheet" "_law_sheet" sLSheet f fd) (T : Blt mg) (C1 : Cal P w K mg base CX0 k "_law_lines" ["_law_script", "_law_at", "_law_many"] (spLines K) f1 fd1)
    (C2 : Cal P w K mg base CX0 k "_law_among" ["_law_right", "_law_up", "_law_met_here"] (spAmong K) f2 fd2) (C3 : Cal P w K mg base CX0 k "_law_met" ["_law_right", "_law_up", "_law_first"] (spMet K) f3 fd3) :
    FnOk P w K mg base CX0 (k + 1) f fd ["_law_script", "_law_at", "_law_many"] (spLSheet K) := by
  refine F.ok scLSheet (fun vs H Q E h => ?_) (fun cdv A outer s H vs Q E hr h => ?_)
  · obtain ⟨s, zs, a, n, rfl, _⟩ := h
    rfl
  · obtain ⟨s, zs, a, n, rfl, hS, h1, h36, q⟩ := h
    refine ⟨_, pss_cons (ps_asg (pe_call C1.G hr (by rfl) C1.m C1.kp C1.b .nil pass0 (pa_cons (pv 0) (pa_cons (pv 1) (pa_cons (pv 2) pa_nil)))) (pg_unl rfl (pgs_cons (pg_name (i := 3) scLSheet.nd rfl (.inl rfl)) (pgs_cons (pg_name (i := 4) scLSheet.nd rfl (.inl rfl)) pgs_nil))))
      (pss_one (ps_ret (pe_call C2.G hr (by rfl) C2.m C2.kp C2.b .nil pass0 (pa_cons (pv 3) (pa_cons (pv 4) (pa_cons (pe_callB cr_sortedI (by rfl) T.sorted (by decide +kernel) (pa_cons (pe_call C3.G hr (by rfl) C3.m C3.kp C3.b .nil pass0 (pa_cons (pv 3) (pa_cons (pv 4) (pa_cons pe_int pa_nil)))) pa_nil)) pa_nil)))))), ?_⟩
    refine ⟨_, rfl, _, rfl, _, rfl, s, zs, a, n, rfl, hS, h1, h36, fun H1 p l1 l2 r u s1 hp hP hL1 hL2 pr pu => ?_⟩
    refine ⟨p, _, rfl, SqL.of hP, rfl, _, _, rfl, _, _, rfl, rfl, ?_⟩
    refine ⟨_, rfl, _, rfl, _, rfl, _, rfl, l1, l2, r, u, n, 0, rfl, .inl (SqL.of hL1), .inl (SqL.of hL2), pr, pu, by omega, h36, fun ms H2 m hnd hms hml s2 hm hM => ?_⟩
    refine ⟨m, ms.map (fun n : Nat => (n : Int)), rfl, SqL.of (by rw [hM, vL_int]), fun ns' g2 hperm hsort hg => ?_⟩
    obtain ⟨l, rfl, hlp, hls⟩ := sorted_nat hperm hsort hnd
    have el : l = cls n r u 0 := rise_perm hlp hls hms pr pu (by omega)
    have s3 : Same H1 (upd H2 g2 (.lst ((l.map fun n : Nat => (n : Int)).map V.int))) := same_put s2 (s2.free hg)
    refine ⟨l1, l2, g2, r, u, l, n, rfl, SqL.of (s3 _ _ hL1), SqL.of (s3 _ _ hL2), SqL.of (by rw [upd_same, vL_int]), pr, pu, h1, h36, el, fun H3 p3 t1 t2 s4 hp3 hP3 hT1 hT2 => ?_⟩
    have sh := among_ok pr pu h1 el
    have hlen : l.length ≤ n := len_of_lt (by rw [el]; exact cls_nd) fun x hx => by rw [el] at hx; exact (mem_cls.mp hx).1
    exact q H3 p3 t1 t2 l.length _ _ (s1.trans (s3.trans s4)) ((s1.trans s3).free hp3) hP3 hT1 hT2 sh hlen
end
end Sq

namespace Sq
open L2 PySem PySem.Spec PyProof.Rows
theorem cut_part (l : List Nat) (o m : Nat) (h : o + m ≤ l.length) : cutV (vL l) (some (o : Int)) (some ((o : Int) + (m : Int))) = vL (part l o m) := by
  unfold cutV part
  rw [show (o : Int) + (m : Int) = ((o + m : Nat) : Int) by omega, vL_len, HT.sIx_nat, HT.sIx_nat]
  rw [show min o l.length = o by omega, show min (o + m) l.length = o + m by omega, show o + m - o = m by omega]
  unfold vL
  rw [List.map_take]; rw [List.map_drop]
theorem zeros_len (n : Nat) : (List.replicate n 0).length = n := List.length_replicate
theorem RowsAt.keepP {H H' : Hp} {p : Addr} {ps : List Addr} {gs : List (List Nat)} (s : Same H H') (h : RowsAt H p ps gs) : RowsAt H' p ps gs := h.mono fun q l _ e => s _ _ e
/-- a drawn sheet at p -/
structure DrAt (K : PySem.W.Frag) (H : Hp) (p a b : Addr) (r u : List Nat) (m : Nat) : Prop where
  P : SqT K H p [.ref a, .ref b]
  A : SqT K H a (vL r)
  B : SqT K H b (vL u)
  S : ShOk m r u
theorem DrAt.keep {K : PySem.W.Frag} {H H' : Hp} {p a b : Addr} {r u : List Nat} {m : Nat} (h : DrAt K H p a b r u m) (e : Same H H') : DrAt K H' p a b r u m := ⟨seT e h.P, seT e h.A, seT e h.B, h.S⟩
/-- the first or the second -/
def sel {α : Type} (i : Nat) (x y : α) : α := if i = 0 then x else y
theorem sel0 {α : Type} (x y : α) : sel 0 x y = x := rfl
theorem sel1 {α : Type} (x y : α) : sel 1 x y = y := rfl
def off (m1 m2 i : Nat) : Nat := if i = 0 then 0 else if i = 1 then m1 else m1 + m2
theorem off_next {m1 m2 i : Nat} (h : i < 2) : off m1 m2 i + sel i m1 m2 = off m1 m2 (i + 1) := by
  have : i = 0 ∨ i = 1 := by omega
  rcases this with rfl | rfl
  · show 0 + m1 = m1
    omega
  · rfl
theorem off_le {m1 m2 i : Nat} (h : i < 2) : off m1 m2 i + sel i m1 m2 ≤ m1 + m2 := by
  have : i = 0 ∨ i = 1 := by omega
  rcases this with rfl | rfl
  · show 0 + m1 ≤ m1 + m2
    omega
  · exact Nat.le_refl _
theorem rho_sel {m1 m2 : Nat} {r1 r2 : List Nat} (l1 : r1.length = m1) (l2 : r2.length = m2) {i k : Nat} (h : i < 2) (hk : k < sel i m1 m2) : g (rho m1 r1 r2) (off m1 m2 i + k) = off m1 m2 i + g (sel i r1 r2) k := by
  have : i = 0 ∨ i = 1 := by omega
  rcases this with rfl | rfl
  · show g (rho m1 r1 r2) (0 + k) = 0 + g r1 k
    have hk' : k < m1 := hk
    rw [Nat.zero_add, Nat.zero_add, g_rho1 (by omega)]
  · show g (rho m1 r1 r2) (m1 + k) = m1 + g r2 k
    have hk' : k < m2 := hk
    rw [g_rho2 (by omega) l1]
/-- all but ra and ua as it was -/
def SB (ra ua : Addr) (H H' : Hp) : Prop := ∀ b o, b ≠ ra → b ≠ ua → H b = some o → H' b = some o
theorem SB.refl (ra ua : Addr) (H : Hp) : SB ra ua H H := fun _ _ _ _ h => h
theorem SB.new {ra ua p : Addr} {H H' : Hp} {o : HO} (s : SB ra ua H H') (h : H' p = none) : SB ra ua H (upd H' p o) := fun b u h1 h2 e => by
  have q := s b u h1 h2 e
  rw [upd_ne (ne_of_none q h)]
  exact q
theorem SB.ra {ra ua : Addr} {H H' : Hp} {o : HO} (s : SB ra ua H H') : SB ra ua H (upd H' ra o) := fun b u h1 h2 e => by
  rw [upd_ne h1]
  exact s b u h1 h2 e
theorem SB.ua {ra ua : Addr} {H H' : Hp} {o : HO} (s : SB ra ua H H') : SB ra ua H (upd H' ua o) := fun b u h1 h2 e => by
  rw [upd_ne h2]
  exact s b u h1 h2 e
theorem RowsAt.monoM {H H' : Hp} {p : Addr} : ∀ {ps : List Addr} {gs : List (List Nat)}, (∀ q ∈ ps, ∀ l, q ≠ p → H q = some (.lst (vL l)) → H' q = some (.lst (vL l))) → RowsAt H p ps gs → RowsAt H' p ps gs
  | [], [], _, _ => trivial
  | q :: ps, l :: gs, k, h => ⟨h.1, k q List.mem_cons_self l h.1 h.2.1, RowsAt.monoM (fun x hx => k x (List.mem_cons_of_mem _ hx)) h.2.2⟩
  | [], _ :: _, _, h => h.elim
  | _ :: _, [], _, h => h.elim
section
variable {mg : Str → Option Value} {base : Heap} {P : Program} {w : World} {K : PySem.W.Frag}
def spBeside (K : PySem.W.Frag) : Sp := fun vs H Q _ => ∃ (s : Addr) (z : Int) (p1 a1 b1 p2 a2 b2 : Addr) (m1 m2 : Nat) (r1 u1 r2 u2 : List Nat), vs = [.ref s, .int z] ∧ SqL K H s [.ref p1, .ref p2] ∧ DrAt K H p1 a1 b1 r1 u1 m1 ∧ DrAt K H p2 a2 b2 r2 u2 m2 ∧ m1 ≤ 18 ∧ m2 ≤ 18 ∧
  ∀ (H' : Hp) (p a b c qa qb : Addr) (R U A B : List Nat), Same H H' → H p = none → H' p = some (.tup [.ref a, .ref b, .ref c]) → H' a = some (.lst (vL R)) → H' b = some (.lst (vL U)) → H' c = some (.lst [.ref qa, .ref qb]) → H' qa = some (.lst (vL A)) → H' qb = some (.lst (vL B)) → Two (m1 + m2) R U A B → Q (.ref p) H'
theorem scBeside : FnScope ["_law_sheets", "_law_number", "_law_one", "_law_many", "_law_names", "_law_k", "_law_right", "_law_up", "_law_parts", "_law_at", "_law_part", "_law_name"] ["_law_sheets", "_law_number"] (defScope sBeside) := ⟨rfl, rfl, rfl, by decide +kernel, rfl, by decide +kernel, by decide +kernel⟩
theorem ok_beside {f f1 : Addr} {fd fd1 : FuncData} {k : Nat} (F : Fun K "_law_beside" "_law_beside" sBeside f fd) (T : Blt mg) (C1 : Cal P w K mg base CX0 k "_law_picked" ["_law_things", "_law_number"] (spPicked K) f1 fd1) :
    FnOk P w K mg base CX0 (k + 1) f fd ["_law_sheets", "_law_number"] (spBeside K) := by
  refine F.ok scBeside (fun vs H Q E h => ?_) (fun cdv A outer s H vs Q E hr h => ?_)
  · obtain ⟨s, z, p1, a1, b1, p2, a2, b2, m1, m2, r1, u1, r2, u2, rfl, _⟩ := h
    rfl
  · obtain ⟨s, z, p1, a1, b1, p2, a2, b2, m1, m2, r1, u1, r2, u2, rfl, hS, D1, D2, h18, h18', q⟩ := h
    have hu := hu_of hr
    have hu64 := hr.units
    refine ⟨_, pss_cons (ps_set (i := 3) scBeside.nd rfl (.inl rfl) (pe_callB (cr_sum rfl) (by rfl) T.sum (by decide +kernel) (pa_cons
        (pe_lc (own := [("_law_one", 2)]) (g := gName 2) (by rfl) scBeside.nd (pi_list (pv 0)) (blkOk_by (own := [("_law_one", 2)]) (N := ["_law_sheets", "_law_number", "_law_one", "_law_many", "_law_names", "_law_k", "_law_right", "_law_up", "_law_parts", "_law_at", "_law_part", "_law_name"]) (sc := defScope sBeside) (by decide +kernel)) (fun _ _ _ _ _ => pg_name (i := 2) scBeside.nd rfl (Or.inl rfl)) (fun _ _ _ _ _ => pts_nil)
          (fun _ _ _ _ _ => pe_callB (r := fun xs H Q => ∃ p ys, xs = [.ref p] ∧ (SqL K H p ys ∨ SqT K H p ys) ∧ Q (.int ys.length) H) call_len_seq (by rfl) T.len PySem.boot_len (pa_cons (pe_ix (r := rIxT K) ix_tup (pv 2) pe_int (fun _ _ => rfl)) pa_nil))) pa_nil)))
      (pss_cons (ps_set (i := 4) scBeside.nd rfl (.inl rfl) (pe_call C1.G hr (by rfl) C1.m C1.kp C1.b .nil pass0 (pa_cons (pe_listRg rfl (by rfl) T.list (prg_1 (by rfl) T.range (pv 3))) (pa_cons (pv 1) pa_nil))))
      (pss_cons (ps_setLc (i := 6) (own := [("_law_k", 5)]) (g := gName 5) (by rfl) scBeside.nd rfl rfl (sw_true rfl rfl rfl (by decide +kernel)) (pi_range1 (by rfl) T.range (pa_cons (pv 3) pa_nil)) (blkOk_by (own := [("_law_k", 5)]) (N := ["_law_sheets", "_law_number", "_law_one", "_law_many", "_law_names", "_law_k", "_law_right", "_law_up", "_law_parts", "_law_at", "_law_part", "_law_name"]) (sc := defScope sBeside) (by decide +kernel)) (fun _ _ _ _ _ => pg_name (i := 5) scBeside.nd rfl (Or.inl rfl)) (fun _ _ _ _ _ => pts_nil) (fun _ _ _ _ _ => pe_int))
      (pss_cons (ps_setLc (i := 7) (own := [("_law_k", 5)]) (g := gName 5) (by rfl) scBeside.nd rfl rfl (sw_true rfl rfl rfl (by decide +kernel)) (pi_range1 (by rfl) T.range (pa_cons (pv 3) pa_nil)) (blkOk_by (own := [("_law_k", 5)]) (N := ["_law_sheets", "_law_number", "_law_one", "_law_many", "_law_names", "_law_k", "_law_right", "_law_up", "_law_parts", "_law_at", "_law_part", "_law_name"]) (sc := defScope sBeside) (by decide +kernel)) (fun _ _ _ _ _ => pg_name (i := 5) scBeside.nd rfl (Or.inl rfl)) (fun _ _ _ _ _ => pts_nil) (fun _ _ _ _ _ => pe_int))
      (pss_cons (ps_set (i := 8) scBeside.nd rfl (.inl rfl) (pe_lst pa_nil))
      (pss_cons (ps_set (i := 9) scBeside.nd rfl (.inl rfl) pe_int)
      (pss_cons (ps_for PassesOwn.never rfl (pi_list (pv 0)) (pg_name (i := 2) scBeside.nd rfl (.inl rfl))
        (pss_cons (ps_set (i := 10) scBeside.nd rfl (.inl rfl) (pe_slice sl_list (pv 4) (po_some (pv 9)) (po_some (pe_op op_add (pv 9) (pe_callB call_len_seq (by rfl) T.len PySem.boot_len (pa_cons (pe_ix ix_tup (pv 2) pe_int (fun _ _ => rfl)) pa_nil))))))
        (pss_cons (ps_set (i := 9) scBeside.nd rfl (.inl rfl) (pe_op op_add (pv 9) (pe_callB call_len_seq (by rfl) T.len PySem.boot_len (pa_cons (pe_ix ix_tup (pv 2) pe_int (fun _ _ => rfl)) pa_nil))))
        (pss_cons (ps_for PassesOwn.never rfl (pi_enum (by rfl) T.enumerate (pa_cons (pv 10) pa_nil)) (pg_tup rfl (pgs_cons (pg_name (i := 5) scBeside.nd rfl (.inl rfl)) (pgs_cons (pg_name (i := 11) scBeside.nd rfl (.inl rfl)) pgs_nil)))
          (pss_cons (ps_asg (pe_ix ix_list (pv 10) (pe_ix ix_tup (pe_ix ix_tup (pv 2) pe_int (fun _ _ => rfl)) (pv 5) (fun _ _ => rfl)) (fun _ _ => rfl)) (pg_sub (pv 6) (pv 11) set_list))
          (pss_one (ps_asg (pe_ix ix_list (pv 10) (pe_ix ix_tup (pe_ix ix_tup (pv 2) pe_int (fun _ _ => rfl)) (pv 5) (fun _ _ => rfl)) (fun _ _ => rfl)) (pg_sub (pv 7) (pv 11) set_list)))))
        (pss_one (ps_expr (pe_bm PySem.F.plainAttrs_list PySem.F.slot_list_append PySem.F.type_list_append mt_append (pv 8) (pa_cons (pe_callB cr_sortedI (by rfl) T.sorted (by decide +kernel) (pa_cons (pv 10) pa_nil)) pa_nil))))))))
      (pss_one (ps_ret (pe_tup (pa_cons (pv 6) (pa_cons (pv 7) (pa_cons (pe_callB (cr_sortRows hu64) (by rfl) T.sorted (by decide +kernel) (pa_cons (pv 8) pa_nil)) pa_nil)))))))))))), ?_⟩
    have hm1 := D1.S.h1
    have hm2 := D2.S.h1
    have lr1 := D1.S.pr.len
    have lu1 := D1.S.pu.len
    have lr2 := D2.S.pr.len
    have lu2 := D2.S.pu.len
    -- many
    refine ⟨_, rfl, s, rfl, ⟨_, hS⟩, fun D hD => lc_list (K := K) (a := s) (xs := [.ref p1, .ref p2]) (fun i H' => Same H H' ∧ H' D = some (.lst (vL ([m1, m2].take i))))
      ⟨same_new hD, upd_same⟩ (fun i H' _ ⟨s1, _⟩ => s1.seq hS) ?_ ?_⟩
    · rintro i x H1 hx ⟨s1, hL⟩
      obtain ⟨p, a, b, r, u, m, rfl, Dx, em⟩ : ∃ (p a b : Addr) (r u : List Nat) (m : Nat), x = .ref p ∧ DrAt K H p a b r u m ∧ ([m1, m2].take i) ++ [m] = [m1, m2].take (i + 1) := by
        have hj : i < 2 := (List.getElem?_eq_some_iff.mp hx).1
        have : i = 0 ∨ i = 1 := by omega
        rcases this with e | e
        · subst e; exact ⟨p1, a1, b1, r1, u1, m1, (Option.some.inj hx).symm, D1, rfl⟩
        · subst e; exact ⟨p2, a2, b2, r2, u2, m2, (Option.some.inj hx).symm, D2, rfl⟩
      have Dy := Dx.keep s1
      refine ⟨rfl, ?_⟩
      refine ⟨_, rfl, p, _, _, _, rfl, rfl, Dy.P, atI_nat (j := 0) rfl, a, _, rfl, .inr Dy.A, ?_⟩
      rw [vL_len, Dx.S.pr.len]
      refine ⟨_, hL, szL (by rw [List.length_take]; show min i 2 ≤ 1000; omega), same_put s1 hD, ?_⟩
      rw [upd_same, ← em, vL_snoc]
    rintro H1 ⟨s1, hL⟩
    refine ⟨D, [(m1 : Int), (m2 : Int)], rfl, SqL.of hL, ?_⟩
    have esum : ([(m1 : Int), (m2 : Int)] : List Int).sum = ((m1 + m2 : Nat) : Int) := by simp
    rw [esum]
    -- names
    refine ⟨_, rfl, ((m1 + m2 : Nat) : Int), rfl, rgOk_nat (by omega), fun q1 hq1 => ?_⟩
    refine ⟨_, rfl, q1, List.range (m1 + m2), z, rfl, SqL.of (by rw [upd_same, rgV_nat]), by rw [List.length_range]; omega, fun H2 na ns s2 hna hperm hNs => ?_⟩
    have pn : Pm (m1 + m2) ns := Pm.of_perm hperm
    have s12 : Same H H2 := s1.trans ((same_new hq1).trans s2)
    -- right, up
    refine ⟨_, rfl, ((m1 + m2 : Nat) : Int), rfl, by omega, by omega, fun ra hra => lc_range (lo := 0) (n := (((m1 + m2 : Nat) : Int)).toNat) (fun i H' => Same H2 H' ∧ H' ra = some (.lst (vL (List.replicate i 0))))
      ⟨same_new hra, upd_same⟩ (fun i H' hi hP => ?_) ?_⟩
    · obtain ⟨s3, hL3⟩ := hP
      refine ⟨rfl, ?_⟩
      exact ⟨_, hL3, szL (by rw [zeros_len]; omega), same_put s3 hra, by rw [upd_same, List.replicate_succ', vL_snoc]; rfl⟩
    rintro H3 ⟨s3, hR3⟩
    refine ⟨_, rfl, ((m1 + m2 : Nat) : Int), rfl, by omega, by omega, fun ua hua => lc_range (lo := 0) (n := (((m1 + m2 : Nat) : Int)).toNat) (fun i H' => Same H3 H' ∧ H' ua = some (.lst (vL (List.replicate i 0))))
      ⟨same_new hua, upd_same⟩ (fun i H' hi hP => ?_) ?_⟩
    · obtain ⟨s4, hL4⟩ := hP
      refine ⟨rfl, ?_⟩
      exact ⟨_, hL4, szL (by rw [zeros_len]; omega), same_put s4 hua, by rw [upd_same, List.replicate_succ', vL_snoc]; rfl⟩
    rintro H4 ⟨s4, hU4⟩
    have eN : (((m1 + m2 : Nat) : Int)).toNat = m1 + m2 := by omega
    rw [eN] at hR3 hU4
    -- parts = [], at = 0
    refine ⟨Nat.zero_le _, fun pt hpt => ?_⟩
    have hra0 : H ra = none := s12.free hra
    have hua0 : H ua = none := (s12.trans s3).free hua
    have hpt0 : H pt = none := (s12.trans (s3.trans s4)).free hpt
    have hN4 : H4 na = some (.lst (vL ns)) := s4 _ _ (s3 _ _ hNs)
    have hR4 := s4 _ _ hR3
    have nra : na ≠ ra := ne_of_none hNs hra
    have nua : na ≠ ua := ne_of_none (s3 _ _ hNs) hua
    have npt : na ≠ pt := ne_of_none hN4 hpt
    have rua : ra ≠ ua := ne_of_none hR3 hua
    have rpt : ra ≠ pt := ne_of_none hR4 hpt
    have upt : ua ≠ pt := ne_of_none hU4 hpt
    refine ⟨_, rfl, s, rfl, ⟨_, (same_put (s12.trans (s3.trans s4)) hpt0).seq hS⟩, for_list (K := K) (a := s) (xs := [.ref p1, .ref p2]) (fun i σ H' => ∃ (R U : List Nat) (ps : List Addr) (v2 v5 v10 v11 : Option V), σ = [some (.ref s), some (.int z), v2, some (vN (m1 + m2)), some (.ref na), v5, some (.ref ra), some (.ref ua), some (.ref pt), some (vN (off m1 m2 i)), v10, v11] ∧
        Same H H' ∧ H' na = some (.lst (vL ns)) ∧ H' ra = some (.lst (vL R)) ∧ H' ua = some (.lst (vL U)) ∧ H' pt = some (.lst (ps.map V.ref)) ∧ RowsAt H' pt ps (([srt (m1 + m2) (part ns 0 m1), srt (m1 + m2) (part ns m1 m2)] : List (List Nat)).take i) ∧ (∀ q ∈ ps, q ≠ ra ∧ q ≠ ua) ∧
        R.length = m1 + m2 ∧ U.length = m1 + m2 ∧ (∀ j, j < off m1 m2 i → g R (g ns j) = g ns (g (rho m1 r1 r2) j)) ∧ ∀ j, j < off m1 m2 i → g U (g ns j) = g ns (g (rho m1 u1 u2) j))
      ⟨List.replicate (m1 + m2) 0, List.replicate (m1 + m2) 0, [], none, none, none, none, rfl, same_put (s12.trans (s3.trans s4)) hpt0, by rw [upd_ne npt]; exact hN4, by rw [upd_ne rpt]; exact hR4, by rw [upd_ne upt]; exact hU4, upd_same, trivial, fun q hq => absurd hq (by simp), zeros_len _, zeros_len _, fun j hj => absurd hj (Nat.not_lt_zero j), fun j hj => absurd hj (Nat.not_lt_zero j)⟩
      (fun i σ H' _ ⟨_, _, _, _, _, _, _, _, sm, _⟩ => sm.seq hS) ?_ ?_⟩
    · rintro i x σ H5 hx ⟨R, U, ps, v2, v5, v10, v11, rfl, sm, hN, hR, hU, hP, hRows, hps, lR, lU, cR, cU⟩
      have hi : i < 2 := (List.getElem?_eq_some_iff.mp hx).1
      obtain ⟨p, a, b, rfl, Dx⟩ : ∃ (p a b : Addr), x = .ref p ∧ DrAt K H p a b (sel i r1 r2) (sel i u1 u2) (sel i m1 m2) := by
        have : i = 0 ∨ i = 1 := by omega
        rcases this with e | e
        · subst e; exact ⟨p1, a1, b1, (Option.some.inj hx).symm, D1⟩
        · subst e; exact ⟨p2, a2, b2, (Option.some.inj hx).symm, D2⟩
      have Dy := Dx.keep sm
      have ole := off_le (m1 := m1) (m2 := m2) hi
      have onx := off_next (m1 := m1) (m2 := m2) hi
      have lrx := Dx.S.pr.len
      have lux := Dx.S.pu.len
      -- part = names[at:at + len(one[0])]
      refine ⟨_, rfl, _, rfl, _, rfl, _, rfl, _, rfl, p, _, _, _, rfl, rfl, Dy.P, atI_nat (j := 0) rfl, a, _, rfl, .inr Dy.A, _, _, rfl, rfl, _, rfl, na, _, rfl, SqL.of hN, fun pp hpp => ?_⟩
      have ecut := cut_part ns (off m1 m2 i) (sel i m1 m2) (by rw [pn.len]; exact ole)
      rw [vL_len, lrx, ecut]
      have npp : na ≠ pp := ne_of_none hN hpp
      have rpp : ra ≠ pp := ne_of_none hR hpp
      have upp : ua ≠ pp := ne_of_none hU hpp
      have ppp : pt ≠ pp := ne_of_none hP hpp
      have Dz := Dx.keep (same_put (o := .lst (vL (part ns (off m1 m2 i) (sel i m1 m2)))) sm (sm.free hpp))
      have pl := part_len (m := sel i m1 m2) pn ole
      -- at = at + len(one[0])
      refine ⟨_, rfl, _, rfl, p, _, _, _, rfl, rfl, Dz.P, atI_nat (j := 0) rfl, a, _, rfl, .inr Dz.A, _, _, rfl, rfl, ?_⟩
      rw [vL_len, lrx]
      -- the inner loop
      have hPP : upd H5 pp (.lst (vL (part ns (off m1 m2 i) (sel i m1 m2)))) pp = some (.lst (vL (part ns (off m1 m2 i) (sel i m1 m2)))) := upd_same
      refine ⟨_, rfl, pp, _, rfl, SqL.of hPP, for_it walk_enum (fun k σ H' => ∃ (R U : List Nat) (v5 v11 : Option V), σ = [some (.ref s), some (.int z), some (.ref p), some (vN (m1 + m2)), some (.ref na), v5, some (.ref ra), some (.ref ua), some (.ref pt), some (.int (((off m1 m2 i : Nat) : Int) + ((sel i m1 m2 : Nat) : Int))), some (.ref pp), v11] ∧
          SB ra ua (upd H5 pp (.lst (vL (part ns (off m1 m2 i) (sel i m1 m2))))) H' ∧ H' ra = some (.lst (vL R)) ∧ H' ua = some (.lst (vL U)) ∧ R.length = m1 + m2 ∧ U.length = m1 + m2 ∧ (∀ j, j < off m1 m2 i + k → g R (g ns j) = g ns (g (rho m1 r1 r2) j)) ∧ ∀ j, j < off m1 m2 i + k → g U (g ns j) = g ns (g (rho m1 u1 u2) j))
        ⟨R, U, v5, v11, rfl, SB.refl _ _ _, by rw [upd_ne rpp]; exact hR, by rw [upd_ne upp]; exact hU, lR, lU, cR, cU⟩ (fun k σ H' _ ⟨_, _, _, _, _, sb, _⟩ => SqL.of (sb _ _ rpp.symm upp.symm hPP)) ?_ ?_⟩
      · rintro k x σ H6 H7 hk ⟨R, U, v5, v11, rfl, sb, hR, hU, lR, lU, cR, cU⟩ ⟨t, y, zz, rfl, ht, rfl, hy, hz⟩
        rw [vL_len, pl] at hk
        have ey : vN k = y := Option.some.inj hy
        obtain ⟨_, rfl⟩ := vL_of_get hz
        subst ey
        rw [g_part pn ole hk]
        have hP6 := sb _ _ rpp.symm upp.symm hPP
        have sH6 : Same H H6 := fun b' o' hb' => sb b' o' (ne_of_none hb' hra0) (ne_of_none hb' hua0) (by rw [upd_ne (ne_of_none (sm _ _ hb') hpp)]; exact sm _ _ hb')
        have sH7 : Same H (upd H6 t (.tup [vN k, vN (g ns (off m1 m2 i + k))])) := same_put sH6 (sH6.free ht)
        have D7 := Dx.keep sH7
        have hP7 : upd H6 t (.tup [vN k, vN (g ns (off m1 m2 i + k))]) pp = some (.lst (vL (part ns (off m1 m2 i) (sel i m1 m2)))) := by rw [upd_ne (ne_of_none hP6 ht)]; exact hP6
        have hR7 : upd H6 t (.tup [vN k, vN (g ns (off m1 m2 i + k))]) ra = some (.lst (vL R)) := by rw [upd_ne (ne_of_none hR ht)]; exact hR
        have hU7 : upd H6 t (.tup [vN k, vN (g ns (off m1 m2 i + k))]) ua = some (.lst (vL U)) := by rw [upd_ne (ne_of_none hU ht)]; exact hU
        have hkN : off m1 m2 i + k < m1 + m2 := by omega
        have gr := Dx.S.pr.glt hk
        have gu := Dx.S.pu.glt hk
        have hnm : g ns (off m1 m2 i + k) < m1 + m2 := pn.glt hkN
        refine ⟨t, [vN k, vN (g ns (off m1 m2 i + k))], rfl, SqT.of upd_same, rfl, _, _, rfl, _, _, rfl, rfl, ?_⟩
        refine ⟨_, rfl, _, rfl, p, _, _, _, rfl, rfl, D7.P, atI_nat (j := 0) rfl, _, rfl, a, _, _, _, rfl, rfl, D7.A, vL_at (by rw [lrx]; exact hk), pp, _, _, _, rfl, rfl, SqL.of hP7, vL_at (by rw [pl]; exact gr), ?_⟩
        refine ⟨_, rfl, _, rfl, ra, _, _, g ns (off m1 m2 i + k), rfl, rfl, hR7, ixn (by rw [vL_len, lR]; exact hnm), ?_⟩
        have nR := cj_more (v := g (part ns (off m1 m2 i) (sel i m1 m2)) (g (sel i r1 r2) k)) pn lR hkN cR (by rw [g_part pn ole gr, rho_sel lr1 lr2 hi hk])
        have nU := cj_more (v := g (part ns (off m1 m2 i) (sel i m1 m2)) (g (sel i u1 u2) k)) pn lU hkN cU (by rw [g_part pn ole gu, rho_sel lu1 lu2 hi hk])
        rw [vL_set]
        have rt : ra ≠ t := ne_of_none hR ht
        have sH8 : Same H (upd (upd H6 t (.tup [vN k, vN (g ns (off m1 m2 i + k))])) ra (.lst (vL (R.set (g ns (off m1 m2 i + k)) (g (part ns (off m1 m2 i) (sel i m1 m2)) (g (sel i r1 r2) k)))))) := same_put sH7 hra0
        have D8 := Dx.keep sH8
        refine ⟨_, rfl, _, rfl, p, _, _, _, rfl, rfl, D8.P, atI_nat (j := 1) rfl, _, rfl, b, _, _, _, rfl, rfl, D8.B, vL_at (by rw [lux]; exact hk), pp, _, _, _, rfl, rfl, SqL.of (by rw [upd_ne rpp.symm]; exact hP7), vL_at (by rw [pl]; exact gu), ?_⟩
        refine ⟨_, rfl, _, rfl, ua, _, _, g ns (off m1 m2 i + k), rfl, rfl, by rw [upd_ne rua.symm]; exact hU7, ixn (by rw [vL_len, lU]; exact hnm), ?_⟩
        rw [vL_set]
        exact ⟨_, _, _, _, rfl, ((sb.new ht).ra).ua, by rw [upd_ne rua, upd_same], upd_same, nR.1, nU.1, nR.2, nU.2⟩
      · rintro σ H6 ⟨R, U, v5, v11, rfl, sb, hR, hU, lR, lU, cR, cU⟩
        rw [vL_len, pl, onx] at cR cU
        have sH6 : Same H H6 := fun b' o' hb' => sb b' o' (ne_of_none hb' hra0) (ne_of_none hb' hua0) (by rw [upd_ne (ne_of_none (sm _ _ hb') hpp)]; exact sm _ _ hb')
        have hP6 : H6 pt = some (.lst (ps.map V.ref)) := sb _ _ rpt.symm upt.symm (by rw [upd_ne ppp]; exact hP)
        have hN6 : H6 na = some (.lst (vL ns)) := sb _ _ nra nua (by rw [upd_ne npp]; exact hN)
        have hpp6 := sb _ _ rpp.symm upp.symm hPP
        refine ⟨_, rfl, .inl ⟨rfl, _, SqL.of hP6⟩, _, rfl, pp, (part ns (off m1 m2 i) (sel i m1 m2)).map (fun n : Nat => (n : Int)), rfl, SqL.of (by rw [hpp6, vL_int]), fun ns' g2 hpm hsort hg => ?_⟩
        obtain ⟨l, rfl, hlp, hls⟩ := sorted_nat hpm hsort (part_nd pn ole)
        have el : l = srt (m1 + m2) (part ns (off m1 m2 i) (sel i m1 m2)) := srt_of (part_lt pn ole) hlp hls
        have ptg : pt ≠ g2 := ne_of_none hP6 hg
        have rg : ra ≠ g2 := ne_of_none hR hg
        have ug : ua ≠ g2 := ne_of_none hU hg
        have ng : na ≠ g2 := ne_of_none hN6 hg
        have hpl := hRows.len
        have hP7 : upd H6 g2 (.lst ((l.map fun n : Nat => (n : Int)).map V.int)) pt = some (.lst (ps.map V.ref)) := by rw [upd_ne ptg]; exact hP6
        refine ⟨pt, _, _, rfl, rfl, hP7, ?_, ?_⟩
        · rw [List.length_map, hpl, List.length_take]
          exact small1000 (by show min i 2 ≤ 1000; omega)
        refine ⟨R, U, ps ++ [g2], some (.ref p), v5, some (.ref pp), v11, ?_, same_put (same_put sH6 (sH6.free hg)) hpt0, ?_, ?_, ?_, ?_, ?_, ?_, lR, lU, cR, cU⟩
        · rw [← onx]
          show _ = [some (V.ref s), some (V.int z), _, some (vN (m1 + m2)), some (V.ref na), _, some (V.ref ra), some (V.ref ua), some (V.ref pt), some (V.int (((off m1 m2 i + sel i m1 m2 : Nat)) : Int)), _, _]
          rw [show (((off m1 m2 i + sel i m1 m2 : Nat)) : Int) = ((off m1 m2 i : Nat) : Int) + ((sel i m1 m2 : Nat) : Int) by omega]
        · rw [upd_ne npt, upd_ne ng]; exact hN6
        · rw [upd_ne rpt, upd_ne rg]; exact hR
        · rw [upd_ne upt, upd_ne ug]; exact hU
        · rw [upd_same, List.map_append]; rfl
        · have etk : ([srt (m1 + m2) (part ns 0 m1), srt (m1 + m2) (part ns m1 m2)] : List (List Nat)).take (i + 1) = ([srt (m1 + m2) (part ns 0 m1), srt (m1 + m2) (part ns m1 m2)] : List (List Nat)).take i ++ [l] := by
            rw [el]
            have : i = 0 ∨ i = 1 := by omega
            rcases this with e | e <;> subst e <;> rfl
          rw [etk]
          refine RowsAt.snoc ptg.symm (by rw [upd_ne ptg.symm, upd_same, vL_int]) (hRows.monoM fun x hx l' hne h => ?_)
          have h5 : upd H5 pp (.lst (vL (part ns (off m1 m2 i) (sel i m1 m2)))) x = some (.lst (vL l')) := by rw [upd_ne (ne_of_none h hpp)]; exact h
          have h6 := sb _ _ (hps x hx).1 (hps x hx).2 h5
          rw [upd_ne hne, upd_ne (ne_of_none h6 hg)]
          exact h6
        · intro x hx
          rcases List.mem_append.mp hx with c | c
          · exact hps x c
          · rw [List.mem_singleton.mp c]
            exact ⟨rg.symm, ug.symm⟩
    · rintro σ H5 ⟨R, U, ps, v2, v5, v10, v11, rfl, sm, hN, hR, hU, hP, hRows, hps, lR, lU, cR, cU⟩
      have hpl := hRows.len
      obtain ⟨x1, x2, rfl⟩ : ∃ x1 x2, ps = [x1, x2] := by
        match ps, hpl with
        | [x1, x2], _ => exact ⟨x1, x2, rfl⟩
      have h1x := hRows.2.1
      have h2x := hRows.2.2.2.1
      have two := beside_two pn D1.S D2.S ⟨lR, cR⟩ ⟨lU, cU⟩
      refine ⟨_, rfl, _, rfl, _, rfl, pt, [(x1, (srt (m1 + m2) (part ns 0 m1)).map fun n : Nat => (n : Int)), (x2, (srt (m1 + m2) (part ns m1 m2)).map fun n : Nat => (n : Int))], rfl, SqL.of hP, ?_, fun so hso => ?_⟩
      · intro y hy
        have hy' : y = (x1, (srt (m1 + m2) (part ns 0 m1)).map fun n : Nat => (n : Int)) ∨ y = (x2, (srt (m1 + m2) (part ns m1 m2)).map fun n : Nat => (n : Int)) := by simpa using hy
        rcases hy' with rfl | rfl
        · exact SqL.of (by rw [h1x, vL_int])
        · exact SqL.of (by rw [h2x, vL_int])
      rw [sort_two]
      refine ⟨by show 3 ≤ sizeLine; decide, fun pf hpf => ?_⟩
      have sfin : ∀ {o1 o2 : HO}, Same H (upd (upd H5 so o1) pf o2) := fun {o1 o2} => same_put (same_put sm (sm.free hso)) (sm.free (upd_none hpf).2)
      have nf := upd_none hpf
      have keep : ∀ {x : Addr} {o o1 o2 : HO}, H5 x = some o → upd (upd H5 so o1) pf o2 x = some o := fun {x o o1 o2} hx => by
        rw [upd_ne (ne_of_none hx nf.2), upd_ne (ne_of_none hx hso)]
        exact hx
      rcases two with ⟨z0, zn, tw⟩ | ⟨z0, zn, tw⟩
      · obtain ⟨X', y, Y', ex, ey, hy⟩ := first_zero tw.sa z0 zn tw.bne
        have hle : rowLe (x1, (srt (m1 + m2) (part ns 0 m1)).map fun n : Nat => (n : Int)) (x2, (srt (m1 + m2) (part ns m1 m2)).map fun n : Nat => (n : Int)) = true := by
          unfold rowLe
          rw [ex, ey]
          refine decide_eq_true ?_
          show ((0 : Nat) : Int) :: _ ≤ ((y : Nat) : Int) :: _
          rw [List.cons_le_cons_iff]
          exact .inl (by omega)
        rw [if_pos hle]
        exact q _ pf ra ua so x1 x2 R U _ _ sfin (sm.free nf.2) upd_same (keep hR) (keep hU) (by rw [upd_ne nf.1.symm, upd_same]; rfl) (keep h1x) (keep h2x) tw
      · obtain ⟨X', y, Y', ex, ey, hy⟩ := first_zero tw.sa z0 zn tw.bne
        have hle : ¬ rowLe (x1, (srt (m1 + m2) (part ns 0 m1)).map fun n : Nat => (n : Int)) (x2, (srt (m1 + m2) (part ns m1 m2)).map fun n : Nat => (n : Int)) = true := by
          unfold rowLe
          rw [ex, ey]
          intro hd
          have hd' : ((y : Nat) : Int) :: (Y'.map fun n : Nat => (n : Int)) ≤ ((0 : Nat) : Int) :: (X'.map fun n : Nat => (n : Int)) := of_decide_eq_true hd
          rw [List.cons_le_cons_iff] at hd'
          rcases hd' with h | h
          · omega
          · omega
        rw [if_neg hle]
        exact q _ pf ra ua so x2 x1 R U _ _ sfin (sm.free nf.2) upd_same (keep hR) (keep hU) (by rw [upd_ne nf.1.symm, upd_same]; rfl) (keep h2x) (keep h1x) tw
end
end Sq

namespace Sq
open L2 PySem PySem.Spec PyProof.Rows
/-- rows as data -/
def dRows (gs : List (List Nat)) : PyData := .list (gs.map fun l => .list ((l.map fun n : Nat => (n : Int)).map .int))
theorem dp_row {K : PySem.W.Frag} {H : Hp} {a : Addr} {l : List Nat} (h : SqL K H a (vL l)) : Dp K H (.ref a) (.list ((l.map fun n : Nat => (n : Int)).map .int)) := .lst (by rw [← vL_int]; exact h) (dp_ints _)
theorem dp_rows {K : PySem.W.Frag} {H : Hp} {p : Addr} : ∀ {ps : List Addr} {gs : List (List Nat)}, RowsAt H p ps gs → DpAll K H (ps.map V.ref) (gs.map fun l => .list ((l.map fun n : Nat => (n : Int)).map .int))
  | [], [], _ => .nil
  | q :: ps, l :: gs, h => .cons (dp_row (SqL.of h.2.1)) (dp_rows h.2.2)
  | [], _ :: _, h => h.elim
  | _ :: _, [], h => h.elim
theorem canR : ∀ gs : List (List Nat), PyData.canLayAll0 (gs.map fun l => PyData.list ((l.map fun n : Nat => (n : Int)).map .int)) = true
  | [] => rfl
  | l :: gs => by
    show (PyData.canLay0 (.list ((l.map fun n : Nat => (n : Int)).map .int)) && PyData.canLayAll0 _) = true
    rw [canR gs, show PyData.canLay0 (.list ((l.map fun n : Nat => (n : Int)).map .int)) = true from canI _]
    rfl
theorem depR : ∀ gs : List (List Nat), PyData.depthAll (gs.map fun l => PyData.list ((l.map fun n : Nat => (n : Int)).map .int)) ≤ 1
  | [] => by simp only [List.map_nil, PyData.depthAll]; omega
  | l :: gs => by
    rw [List.map_cons]; rw [PyData.depthAll]
    have ih := depR gs
    have h1 : (PyData.list ((l.map fun n : Nat => (n : Int)).map .int)).depth ≤ 1 := by
      have e := PySem.W.depth_ints (l.map fun n : Nat => (n : Int))
      rw [PyData.depth, e]
      omega
    omega
theorem shapedR (gs : List (List Nat)) : SeqAt.shaped (dRows gs) = true := by
  unfold SeqAt.shaped
  have h1 : (dRows gs).canLay0 = true := canR gs
  have h2 : (dRows gs).depth ≤ 64 := by
    unfold dRows
    rw [PyData.depth]
    have := depR gs
    omega
  rw [h1, decide_eq_true h2]
  rfl
theorem eqvR (gs : List (List Nat)) : PyData.eqv (dRows gs) (dRows gs) = true := SeqAt.eqv_refl _ (canR gs)
theorem ixn_of {n j : Nat} {z : Int} (e : z = (j : Int)) (h : j < n) : ixN n z = some j := by
  rw [e]
  exact ixn h
theorem sel_get {l1 l2 : Addr} {kd : Nat} (h : kd < 2) : ([V.ref l1, V.ref l2] : List V)[kd]? = some (.ref (sel kd l1 l2)) := by
  have : kd = 0 ∨ kd = 1 := by omega
  rcases this with rfl | rfl <;> rfl
/-- one of two rows exchanged -/
theorem exch_two {H : Hp} {l1 l2 x ln : Addr} {R U X : List Nat} {kd : Nat} (h : kd < 2) (h1 : H l1 = some (.lst (vL R))) (h2 : H l2 = some (.lst (vL U))) (hx : H x = some (.lst (vL X))) (n1 : l1 ≠ ln) (n2 : l2 ≠ ln) (nx : x ≠ ln) {o : HO} :
    ∃ y1 y2, ([V.ref l1, V.ref l2] : List V).set kd (.ref x) = [.ref y1, .ref y2] ∧ y1 ≠ ln ∧ y2 ≠ ln ∧ upd H ln o y1 = some (.lst (vL (sel kd X R))) ∧ upd H ln o y2 = some (.lst (vL (sel kd U X))) := by
  have : kd = 0 ∨ kd = 1 := by omega
  rcases this with rfl | rfl
  · exact ⟨x, l2, rfl, nx, n2, by rw [upd_ne nx]; exact hx, by rw [upd_ne n2]; exact h2⟩
  · exact ⟨l1, x, rfl, n1, nx, by rw [upd_ne n1]; exact h1, by rw [upd_ne nx]; exact hx⟩
theorem sel_row {H : Hp} {l1 l2 : Addr} {R U : List Nat} {kd : Nat} (h : kd < 2) (h1 : H l1 = some (.lst (vL R))) (h2 : H l2 = some (.lst (vL U))) : H (sel kd l1 l2) = some (.lst (vL (sel kd R U))) := by
  have : kd = 0 ∨ kd = 1 := by omega
  rcases this with rfl | rfl
  · exact h1
  · exact h2
theorem join_sel {N : Nat} {R U A B : List Nat} (t : Two N R U A B) {av bv kd : Nat} (h : kd < 2) (ha : av ∈ A) (hb : bv ∈ B) :
    Pm N (sel kd (sw (sel kd R U) av bv) R) ∧ Pm N (sel kd U (sw (sel kd R U) av bv)) ∧ (∀ x, x < N → Reach (sel kd (sw (sel kd R U) av bv) R) (sel kd U (sw (sel kd R U) av bv)) 0 x) ∧ sel kd (sel kd (sw (sel kd R U) av bv) R) (sel kd U (sw (sel kd R U) av bv)) = sw (sel kd R U) av bv := by
  have an := t.alt ha
  have bn := t.blt hb
  have : kd = 0 ∨ kd = 1 := by omega
  rcases this with rfl | rfl
  · exact ⟨t.pr.sw an bn, t.pu, fun x hx => t.join ha hb hx, rfl⟩
  · exact ⟨t.pr, t.pu.sw an bn, fun x hx => t.joinU ha hb hx, rfl⟩
/-- exchanged once more, both rows are as before -/
theorem back_sel {R U : List Nat} {av bv kd : Nat} (h : kd < 2) (ha : av < (sel kd R U).length) (hb : bv < (sel kd R U).length) :
    sel kd (sw (sw (sel kd R U) av bv) av bv) (sel kd (sw (sel kd R U) av bv) R) = R ∧ sel kd (sel kd U (sw (sel kd R U) av bv)) (sw (sw (sel kd R U) av bv) av bv) = U := by
  rw [sw_sw ha hb]
  have : kd = 0 ∨ kd = 1 := by omega
  rcases this with rfl | rfl
  · exact ⟨rfl, rfl⟩
  · exact ⟨rfl, rfl⟩
end Sq

namespace Sq
open L2 PySem PySem.Spec PyProof.Rows
section
variable {mg : Str → Option Value} {base : Heap} {P : Program} {w : World} {K : PySem.W.Frag}
def spLaw (K : PySem.W.Frag) : Sp := fun vs H Q _ => ∃ (s : Addr) (zs : List Int), vs = [.ref s] ∧ SqL K H s (zs.map V.int) ∧ ∀ H', Q (.bl true) H'
theorem scLaw : FnScope ["_law_script", "_law_first", "_law_parts", "_law_right", "_law_up", "_law_named", "_law_due", "_law_lacking", "_law_cell_here", "_law_pair", "_law_lines_here", "_law_kind", "_law_sewn", "_law_many", "_law_k", "_law_one"] ["_law_script"] (defScope sLaw) := ⟨rfl, rfl, rfl, by decide +kernel, rfl, by decide +kernel, by decide +kernel⟩
theorem ok_law {f f1 f2 f3 f4 f5 f6 f7 f8 f9 f10 C : Addr} {fd fd1 fd2 fd3 fd4 fd5 fd6 fd7 fd8 fd9 fd10 : FuncData} {k : Nat} (F : Fun K "law" "law" sLaw f fd) (T : Blt mg)
    (C1 : Cal P w K mg base CX0 k "_law_cell" ["_law_script", "_law_k"] (spCell K) f1 fd1) (C2 : Cal P w K mg base CX0 k "_law_sheet" ["_law_script", "_law_at", "_law_many"] (spLSheet K) f2 fd2) (C3 : Cal P w K mg base CX0 k "_law_beside" ["_law_sheets", "_law_number"] (spBeside K) f3 fd3)
    (C4 : Cal P w K mg base CX0 k "_law_apart" ["_law_right", "_law_up"] (spApart K) f4 fd4) (C5 : Cal P w K mg base CX0 k "_law_whole" ["_law_found"] spWhole f5 fd5) (C6 : Cal P w K mg base CX0 k "_law_exchanged" ["_law_line", "_law_one", "_law_other"] (spExch K) f6 fd6)
    (C7 : Cal P w K mg base (L2.CX P w) k "sheet_of" ["right", "up"] (spSheet K C) f7 fd7) (C8 : Cal P w K mg base CX0 k "_law_is_sheet" ["_law_found", "_law_many"] (spIsSheet K) f8 fd8) (C9 : Cal P w K mg base CX0 k "groups" ["right", "up"] (spGroups K) f9 fd9)
    (C10 : Cal P w K mg base CX0 k "_law_leads" ["_law_sheet_here", "_law_one", "_law_other"] (spLeads K) f10 fd10) : FnOk P w K mg base CX0 (k + 1) f fd ["_law_script"] (spLaw K) := by
  refine F.ok scLaw (fun vs H Q E h => ?_) (fun cdv A outer s H vs Q E hr h => ?_)
  · obtain ⟨a, ns, rfl, _⟩ := h
    rfl
  · obtain ⟨a, zs, rfl, hS, q⟩ := h
    have hu64 := hr.units
    refine ⟨_, pss_cons (ps_set (i := 1) scLaw.nd rfl (.inl rfl) (pe_call C1.G hr (by rfl) C1.m C1.kp C1.b .nil pass0 (pa_cons (pv 0) (pa_cons pe_int pa_nil))))
      (pss_cons (ps_set (i := 2) scLaw.nd rfl (.inl rfl) (pe_lst (pa_cons (pe_call C2.G hr (by rfl) C2.m C2.kp C2.b .nil pass0 (pa_cons (pv 0) (pa_cons pe_int (pa_cons (pe_op op_add pe_int (pe_op op_mod (pv 1) pe_int)) pa_nil)))) (pa_cons (pe_call C2.G hr (by rfl) C2.m C2.kp C2.b .nil pass0 (pa_cons (pv 0) (pa_cons pe_int (pa_cons (pe_op op_add pe_int (pe_op op_mod (pe_op op_fdiv (pv 1) pe_int) pe_int)) pa_nil)))) pa_nil))))
      (pss_cons (ps_asg (pe_call C3.G hr (by rfl) C3.m C3.kp C3.b .nil pass0 (pa_cons (pv 2) (pa_cons (pe_call C1.G hr (by rfl) C1.m C1.kp C1.b .nil pass0 (pa_cons (pv 0) (pa_cons pe_int pa_nil))) pa_nil))) (pg_tup rfl (pgs_cons (pg_name (i := 3) scLaw.nd rfl (.inl rfl)) (pgs_cons (pg_name (i := 4) scLaw.nd rfl (.inl rfl)) (pgs_cons (pg_name (i := 5) scLaw.nd rfl (.inl rfl)) pgs_nil)))))
      (pss_cons (ps_set (i := 6) scLaw.nd rfl (.inl rfl) (pe_ix ix_list (pe_ix ix_list (pv 5) pe_int (fun _ _ => rfl)) pe_int (fun _ _ => rfl)))
      (pss_cons (ps_set (i := 7) scLaw.nd rfl (.inl rfl) (pe_call C4.G hr (by rfl) C4.m C4.kp C4.b .nil pass0 (pa_cons (pe_callTy call_list_of (by rfl) T.list (by decide +kernel) (pa_cons (pv 3) pa_nil)) (pa_cons (pe_callTy call_list_of (by rfl) T.list (by decide +kernel) (pa_cons (pv 4) pa_nil)) pa_nil))))
      (pss_cons (ps_if (PW.pt (pw_or (pt_not (pt_val (pe_call C5.G hr (by rfl) C5.m C5.kp C5.b .nil pass0 (pa_cons (pv 7) pa_nil)))) (pw_or1 (pt_cmpR op_ne (pv 7) (pv 6) (nomark _))))) (pss_one (ps_ret pe_bl)) pss_nil)
      (pss_cons (ps_set (i := 8) scLaw.nd rfl (.inl rfl) (pe_call C1.G hr (by rfl) C1.m C1.kp C1.b .nil pass0 (pa_cons (pv 0) (pa_cons pe_int pa_nil))))
      (pss_cons (ps_set (i := 9) scLaw.nd rfl (.inl rfl) (pe_tup (pa_cons (pe_ix ix_list (pe_ix ix_list (pv 5) pe_int (fun _ _ => rfl)) (pe_op op_mod (pv 8) (pe_callB call_len_seq (by rfl) T.len PySem.boot_len (pa_cons (pe_ix ix_list (pv 5) pe_int (fun _ _ => rfl)) pa_nil))) (fun _ _ => rfl))
          (pa_cons (pe_ix ix_list (pe_ix ix_list (pv 5) pe_int (fun _ _ => rfl)) (pe_op op_mod (pe_op op_fdiv (pv 8) pe_int) (pe_callB call_len_seq (by rfl) T.len PySem.boot_len (pa_cons (pe_ix ix_list (pv 5) pe_int (fun _ _ => rfl)) pa_nil))) (fun _ _ => rfl)) pa_nil))))
      (pss_cons (ps_set (i := 10) scLaw.nd rfl (.inl rfl) (pe_lst (pa_cons (pe_callTy call_list_of (by rfl) T.list (by decide +kernel) (pa_cons (pv 3) pa_nil)) (pa_cons (pe_callTy call_list_of (by rfl) T.list (by decide +kernel) (pa_cons (pv 4) pa_nil)) pa_nil))))
      (pss_cons (ps_set (i := 11) scLaw.nd rfl (.inl rfl) (pe_op op_mod (pe_op op_fdiv (pv 8) pe_int) pe_int))
      (pss_cons (ps_asg (pe_call C6.G hr (by rfl) C6.m C6.kp C6.b .nil pass0 (pa_cons (pe_ix ix_list (pv 10) (pv 11) (fun _ _ => rfl)) (pa_cons (pe_ix ix_tup (pv 9) pe_int (fun _ _ => rfl)) (pa_cons (pe_ix ix_tup (pv 9) pe_int (fun _ _ => rfl)) pa_nil)))) (pg_sub (pv 10) (pv 11) set_list))
      (pss_cons (ps_set (i := 12) scLaw.nd rfl (.inl rfl) (pe_call C7.G hr (by rfl) C7.m C7.kp C7.b .nil passL (pa_cons (pe_ix ix_list (pv 10) pe_int (fun _ _ => rfl)) (pa_cons (pe_ix ix_list (pv 10) pe_int (fun _ _ => rfl)) pa_nil))))
      (pss_cons (ps_set (i := 13) scLaw.nd rfl (.inl rfl) (pe_callB call_len_seq (by rfl) T.len PySem.boot_len (pa_cons (pv 3) pa_nil)))
      (pss_cons (ps_if (PW.pt (pw_or (pt_not (pt_val (pe_call C8.G hr (by rfl) C8.m C8.kp C8.b .nil pass0 (pa_cons (pv 12) (pa_cons (pv 13) pa_nil)))))
          (pw_or1 (pt_cmpR (op_neD hu64) (pe_call C9.G hr (by rfl) C9.m C9.kp C9.b .nil pass0 (pa_cons (pe_ix ix_list (pv 10) pe_int (fun _ _ => rfl)) (pa_cons (pe_ix ix_list (pv 10) pe_int (fun _ _ => rfl)) pa_nil))) (pe_lst (pa_cons (pe_listRg rfl (by rfl) T.list (prg_1 (by rfl) T.range (pv 13))) pa_nil)) (nomark _))))) (pss_one (ps_ret pe_bl)) pss_nil)
      (pss_cons (ps_for PassesOwn.never rfl (pi_range1 (by rfl) T.range (pa_cons pe_int pa_nil)) (pg_name (i := 14) scLaw.nd rfl (.inl rfl))
        (pss_cons (ps_set (i := 15) scLaw.nd rfl (.inl rfl) (pe_op op_mod (pe_call C1.G hr (by rfl) C1.m C1.kp C1.b .nil pass0 (pa_cons (pv 0) (pa_cons (pe_op op_add pe_int (pe_op op_mul pe_int (pv 14))) pa_nil))) (pv 13)))
        (pss_one (ps_if (pt_not (pt_val (pe_call C10.G hr (by rfl) C10.m C10.kp C10.b .nil pass0 (pa_cons (pv 12) (pa_cons (pv 15) (pa_cons (pe_op op_mod (pe_op op_fdiv (pe_call C1.G hr (by rfl) C1.m C1.kp C1.b .nil pass0 (pa_cons (pv 0) (pa_cons (pe_op op_add pe_int (pe_op op_mul pe_int (pv 14))) pa_nil))) pe_int) (pv 13)) pa_nil)))))) (pss_one (ps_ret pe_bl)) pss_nil))))
      (pss_cons (ps_asg (pe_call C6.G hr (by rfl) C6.m C6.kp C6.b .nil pass0 (pa_cons (pe_ix ix_list (pv 10) (pv 11) (fun _ _ => rfl)) (pa_cons (pe_ix ix_tup (pv 9) pe_int (fun _ _ => rfl)) (pa_cons (pe_ix ix_tup (pv 9) pe_int (fun _ _ => rfl)) pa_nil)))) (pg_sub (pv 10) (pv 11) set_list))
      (pss_one (ps_ret (pe_and (pe_cmpR op_eq (pe_call C4.G hr (by rfl) C4.m C4.kp C4.b .nil pass0 (pa_cons (pe_ix ix_list (pv 10) pe_int (fun _ _ => rfl)) (pa_cons (pe_ix ix_list (pv 10) pe_int (fun _ _ => rfl)) pa_nil))) (pv 6) (nomark _))
        (pe_one (pe_cmpR (op_eqD hu64) (pe_call C9.G hr (by rfl) C9.m C9.kp C9.b .nil pass0 (pa_cons (pe_ix ix_list (pv 10) pe_int (fun _ _ => rfl)) (pa_cons (pe_ix ix_list (pv 10) pe_int (fun _ _ => rfl)) pa_nil))) (pv 5) (nomark _))))))))))))))))))))), ?_⟩
    -- first
    refine ⟨_, rfl, a, zs, 0, rfl, hS, by omega, fun z0 => ?_⟩
    -- the two sheets
    obtain ⟨e1, he1, ee1⟩ := rest_at z0 (n := 18) (by omega)
    obtain ⟨e2, he2, ee2⟩ := rest_at (z0 / 18) (n := 18) (by omega)
    refine ⟨_, rfl, _, rfl, _, _, rfl, rfl, (by show (0 : Int) < 18; decide), _, _, rfl, rfl, a, zs, 3, 1 + e1, ?_, hS, by omega, by omega, fun H1 p1 t11 t12 m1 r1 u1 s1 hp1 hP1 hT11 hT12 S1 hm1 => ?_⟩
    · show [V.ref a, V.int 3, V.int (1 + z0 % 18)] = [V.ref a, vN 3, vN (1 + e1)]
      rw [show z0 % 18 = (e1 : Int) from ee1, show (1 : Int) + (e1 : Int) = ((1 + e1 : Nat) : Int) by omega]
      rfl
    refine ⟨_, rfl, _, rfl, _, _, rfl, rfl, ⟨by decide, by decide⟩, _, _, rfl, rfl, (by show (0 : Int) < 18; decide), _, _, rfl, rfl, a, zs, 23, 1 + e2, ?_, s1.seq hS, by omega, by omega, fun H2 p2 t21 t22 m2 r2 u2 s2 hp2 hP2 hT21 hT22 S2 hm2 => ?_⟩
    · show [V.ref a, V.int 23, V.int (1 + z0 / 18 % 18)] = [V.ref a, vN 23, vN (1 + e2)]
      rw [show z0 / 18 % 18 = (e2 : Int) from ee2, show (1 : Int) + (e2 : Int) = ((1 + e2 : Nat) : Int) by omega]
      rfl
    refine ⟨by show 2 ≤ sizeLine; decide, fun pl hpl => ?_⟩
    have s3 : Same H (upd H2 pl (.lst [.ref p1, .ref p2])) := same_put (s1.trans s2) ((s1.trans s2).free hpl)
    -- side by side
    refine ⟨_, rfl, _, rfl, a, zs, 1, rfl, s3.seq hS, by omega, fun z1 => ?_⟩
    have D1 : DrAt K (upd H2 pl (.lst [.ref p1, .ref p2])) p1 t11 t12 r1 u1 m1 := DrAt.keep ⟨SqT.of (s2 _ _ hP1), SqT.of (s2 _ _ hT11), SqT.of (s2 _ _ hT12), S1⟩ (same_new hpl)
    have D2 : DrAt K (upd H2 pl (.lst [.ref p1, .ref p2])) p2 t21 t22 r2 u2 m2 := DrAt.keep ⟨SqT.of hP2, SqT.of hT21, SqT.of hT22, S2⟩ (same_new hpl)
    refine ⟨pl, z1, p1, t11, t12, p2, t21, t22, m1, m2, r1, u1, r2, u2, rfl, SqL.of upd_same, D1, D2, by omega, by omega, fun H4 pb ra ua nm qa qb R U A B s4 hpb hPb hRa hUa hNm hQa hQb tw => ?_⟩
    have sH4 := s3.trans s4
    have hm1' := S1.h1
    have hm2' := S2.h1
    generalize hN : m1 + m2 = N at tw
    have hN1 : 1 ≤ N := by omega
    have hN36 : N ≤ 36 := by omega
    refine ⟨pb, _, rfl, SqT.of hPb, rfl, _, _, rfl, _, _, rfl, _, _, rfl, rfl, ?_⟩
    have hBl : 0 < B.length := List.length_pos_iff.mpr tw.bne
    have hAl : 0 < A.length := List.length_pos_of_mem tw.a0
    -- due
    refine ⟨_, rfl, nm, _, _, _, rfl, rfl, SqL.of hNm, atI_nat (j := 1) rfl, qb, _, _, _, rfl, rfl, SqL.of hQb, vL_at (k := 0) hBl, ?_⟩
    -- lacking
    refine ⟨_, rfl, ra, _, rfl, .inl (SqL.of hRa), fun w1 hw1 => ?_⟩
    have k1 : Same H4 (upd H4 w1 (.lst (vL R))) := same_new hw1
    refine ⟨_, rfl, ua, _, rfl, .inl (SqL.of (k1 _ _ hUa)), fun w2 hw2 => ?_⟩
    have nw := upd_none hw2
    have k2 : Same H4 (upd (upd H4 w1 (.lst (vL R))) w2 (.lst (vL U))) := same_put k1 nw.2
    refine ⟨w1, w2, R, U, N, rfl, SqL.of (by rw [upd_ne nw.1.symm, upd_same]), SqL.of upd_same, tw.pr, tw.pu, hN1, hN36, tw.apart, fun H5 x s5 hx hnx hlt => ?_⟩
    have ex : x = g B 0 := tw.lacks hx hnx hlt
    subst ex
    have k5 : Same H4 H5 := k2.trans s5
    have sH5 := sH4.trans k5
    refine ⟨_, rfl, _, rfl, true, rfl, iteF ?_⟩
    refine ⟨_, rfl, _, rfl, rfl, _, rfl, iteNS rfl ?_⟩
    -- cell_here
    refine ⟨_, rfl, a, zs, 2, rfl, sH5.seq hS, by omega, fun c => ?_⟩
    -- pair
    obtain ⟨i1, hi1, ei1⟩ := rest_at c hAl
    obtain ⟨i2, hi2, ei2⟩ := rest_at (c / 18) hBl
    have hNm5 := k5 _ _ hNm
    have hQa5 := k5 _ _ hQa
    have hQb5 := k5 _ _ hQb
    refine ⟨_, rfl, nm, _, _, _, rfl, rfl, SqL.of hNm5, atI_nat (j := 0) rfl, _, rfl, _, rfl, nm, _, _, _, rfl, rfl, SqL.of hNm5, atI_nat (j := 0) rfl, qa, _, rfl, .inl (SqL.of hQa5), _, _, rfl, rfl, (by rw [vL_len]; omega), qa, _, _, _, rfl, rfl, SqL.of hQa5, at_of (j := i1) (by rw [vL_len]; exact ei1) (vL_g hi1), ?_⟩
    refine ⟨_, rfl, nm, _, _, _, rfl, rfl, SqL.of hNm5, atI_nat (j := 1) rfl, _, rfl, _, _, rfl, rfl, ⟨by decide, by decide⟩, _, rfl, nm, _, _, _, rfl, rfl, SqL.of hNm5, atI_nat (j := 1) rfl, qb, _, rfl, .inl (SqL.of hQb5), _, _, rfl, rfl, (by rw [vL_len]; omega), qb, _, _, _, rfl, rfl, SqL.of hQb5, at_of (j := i2) (by rw [vL_len]; exact ei2) (vL_g hi2), ?_⟩
    have haA : g A i1 ∈ A := g_mem hi1
    have hbB : g B i2 ∈ B := g_mem hi2
    generalize hga : g A i1 = av at haA
    generalize hgb : g B i2 = bv at hbB
    have han := tw.alt haA
    have hbn := tw.blt hbB
    refine ⟨by show 2 ≤ sizeLine; decide, fun pr hpr => ?_⟩
    have k6 : Same H4 (upd H5 pr (.tup [vN av, vN bv])) := same_put k5 (k5.free hpr)
    have hPr6 : upd H5 pr (.tup [vN av, vN bv]) pr = some (.tup [vN av, vN bv]) := upd_same
    -- lines_here
    refine ⟨_, rfl, ra, _, rfl, .inl (SqL.of (k6 _ _ hRa)), fun l1 hl1 => ?_⟩
    have j1 : Same (upd H5 pr (.tup [vN av, vN bv])) (upd (upd H5 pr (.tup [vN av, vN bv])) l1 (.lst (vL R))) := same_new hl1
    refine ⟨_, rfl, ua, _, rfl, .inl (SqL.of (j1 _ _ (k6 _ _ hUa))), fun l2 hl2 => ?_⟩
    have nl := upd_none hl2
    have j2 : Same (upd H5 pr (.tup [vN av, vN bv])) (upd (upd (upd H5 pr (.tup [vN av, vN bv])) l1 (.lst (vL R))) l2 (.lst (vL U))) := same_put j1 nl.2
    refine ⟨by show 2 ≤ sizeLine; decide, fun ln hln => ?_⟩
    have nn := upd_none hln
    have nn1 := upd_none nn.2
    have hl1' : upd (upd (upd (upd H5 pr (.tup [vN av, vN bv])) l1 (.lst (vL R))) l2 (.lst (vL U))) ln (.lst [.ref l1, .ref l2]) l1 = some (.lst (vL R)) := by rw [upd_ne nn1.1.symm, upd_ne nl.1.symm, upd_same]
    have hl2' : upd (upd (upd (upd H5 pr (.tup [vN av, vN bv])) l1 (.lst (vL R))) l2 (.lst (vL U))) ln (.lst [.ref l1, .ref l2]) l2 = some (.lst (vL U)) := by rw [upd_ne nn.1.symm, upd_same]
    have hln' : upd (upd (upd (upd H5 pr (.tup [vN av, vN bv])) l1 (.lst (vL R))) l2 (.lst (vL U))) ln (.lst [.ref l1, .ref l2]) ln = some (.lst [.ref l1, .ref l2]) := upd_same
    have j3 : Same (upd H5 pr (.tup [vN av, vN bv])) (upd (upd (upd (upd H5 pr (.tup [vN av, vN bv])) l1 (.lst (vL R))) l2 (.lst (vL U))) ln (.lst [.ref l1, .ref l2])) := same_put j2 nn1.2
    have ln6 : (upd H5 pr (.tup [vN av, vN bv])) ln = none := nn1.2
    generalize hH6 : upd H5 pr (.tup [vN av, vN bv]) = H6 at *
    generalize hH7 : upd (upd (upd H6 l1 (.lst (vL R))) l2 (.lst (vL U))) ln (.lst [.ref l1, .ref l2]) = H7 at *
    -- kind
    obtain ⟨kd, hkd, ekd⟩ := rest_at (c / 324) (n := 2) (by omega)
    refine ⟨_, rfl, _, _, rfl, rfl, ⟨by decide, by decide⟩, _, _, rfl, rfl, (by show (0 : Int) < 2; decide), ?_⟩
    -- the exchange
    have lR := tw.pr.len
    have lU := tw.pu.len
    have lsel : (sel kd R U).length = N := by
      have : kd = 0 ∨ kd = 1 := by omega
      rcases this with rfl | rfl
      · exact lR
      · exact lU
    refine ⟨_, rfl, _, rfl, ln, _, _, _, rfl, rfl, SqL.of hln', at_of (j := kd) ekd (sel_get hkd), _, rfl, pr, _, _, _, rfl, rfl, SqT.of (j3 _ _ hPr6), atI_nat (j := 0) rfl, _, rfl, pr, _, _, _, rfl, rfl, SqT.of (j3 _ _ hPr6), atI_nat (j := 1) rfl,
      sel kd l1 l2, sel kd R U, av, bv, rfl, SqL.of (sel_row hkd hl1' hl2'), by omega, by omega, fun H8 y s8 hy hY => ?_⟩
    have hln8 := s8 _ _ hln'
    have lny : y ≠ ln := (ne_of_none hln' hy).symm
    refine ⟨_, rfl, _, rfl, ln, _, _, kd, rfl, rfl, hln8, ixn_of ekd hkd, ?_⟩
    obtain ⟨y1, y2, ey, ny1, ny2, hy1, hy2⟩ := exch_two (o := .lst (([V.ref l1, V.ref l2] : List V).set kd (.ref y))) hkd (s8 _ _ hl1') (s8 _ _ hl2') hY nn1.1.symm nn.1.symm lny
    rw [ey] at hy1 hy2
    rw [ey]
    obtain ⟨pr', pu', con, eX⟩ := join_sel tw hkd haA hbB
    obtain ⟨bk1, bk2⟩ := back_sel (R := R) (U := U) (av := av) (bv := bv) hkd (by omega) (by omega)
    have lX : (sw (sel kd R U) av bv).length = N := by rw [sw_len]; exact lsel
    generalize hX : sw (sel kd R U) av bv = X at *
    generalize hR' : sel kd X R = R' at *
    generalize hU' : sel kd U X = U' at *
    have k9 : Same H6 (upd H8 ln (.lst [.ref y1, .ref y2])) := same_put (j3.trans s8) ln6
    have hln9 : upd H8 ln (.lst [.ref y1, .ref y2]) ln = some (.lst [.ref y1, .ref y2]) := upd_same
    have hPr9 := k9 _ _ hPr6
    have k49 : Same H4 (upd H8 ln (.lst [.ref y1, .ref y2])) := k6.trans k9
    generalize hH9 : upd H8 ln (.lst [.ref y1, .ref y2]) = H9 at *
    -- the sheet
    refine ⟨_, rfl, ln, _, _, _, rfl, rfl, SqL.of hln9, atI_nat (j := 0) rfl, _, rfl, ln, _, _, _, rfl, rfl, SqL.of hln9, atI_nat (j := 1) rfl, y1, y2, R', U', N, rfl, SqL.of hy1, SqL.of hy2, pr', pu', hN1, hN36, fun _ H10 p t1 t2 s10 hp hP hA hB => ?_, fun x hx hnx _ => absurd (con x hx) hnx⟩
    have Sh : ShAt K H10 p t1 t2 R' U' N := ⟨hP, hA, hB, pr', pu', hN1, hN36, con⟩
    -- many
    refine ⟨_, rfl, ra, _, rfl, .inl (SqL.of (s10 _ _ (k49 _ _ hRa))), ?_⟩
    rw [vL_len, lR]
    -- a sheet, and the groups of it
    refine ⟨_, rfl, _, rfl, p, t1, t2, R', U', N, rfl, Sh, fun H11 s11 => ⟨true, rfl, iteF ?_⟩⟩
    have s911 := s10.trans s11
    refine ⟨_, rfl, ln, _, _, _, rfl, rfl, SqL.of (s911 _ _ hln9), atI_nat (j := 0) rfl, _, rfl, ln, _, _, _, rfl, rfl, SqL.of (s911 _ _ hln9), atI_nat (j := 1) rfl, y1, y2, R', U', N, rfl, SqL.of (s911 _ _ hy1), SqL.of (s911 _ _ hy2), pr', pu', hN1, hN36, fun H12 gp ps s12 hgp hGp hRows => ?_⟩
    rw [gr_whole con N hN1 (Nat.le_refl _)] at hRows
    refine ⟨_, rfl, (N : Int), rfl, rgOk_nat (by omega), fun q1 hq1 => ⟨by show 1 ≤ sizeLine; decide, fun q2 hq2 => ?_⟩⟩
    have nq := upd_none hq2
    have s13 : Same H12 (upd (upd H12 q1 (.lst (rgV 0 (N : Int)))) q2 (.lst [.ref q1])) := same_put (same_new hq1) nq.2
    refine ⟨dRows [List.range N], dRows [List.range N], .lst (SqL.of (s13 _ _ hGp)) (dp_rows (hRows.mono fun _ _ _ h => s13 _ _ h)), .lst (SqL.of upd_same) (.cons (dp_row (SqL.of (by rw [upd_ne nq.1.symm, upd_same, rgV_nat]))) .nil), shapedR _, shapedR _, _, rfl, ?_⟩
    rw [eqvR]
    refine iteF ?_
    have s913 := (s911.trans s12).trans s13
    have s1013 := (s11.trans s12).trans s13
    generalize hH13 : upd (upd H12 q1 (.lst (rgV 0 (N : Int)))) q2 (.lst [.ref q1]) = H13 at *
    -- the leads
    have S13 := Sh.keep s1013
    have sH13 : Same H H13 := sH4.trans (k49.trans s913)
    refine ⟨8, rfl, by decide, by decide, for_range (lo := 0) (n := (8 : Int).toNat) (fun t σ H' => ∃ (v14 v15 : Option V), σ = [some (.ref a), some (.int z0), some (.ref pl), some (.ref ra), some (.ref ua), some (.ref nm), some (vN (g B 0)), some (vN (g B 0)), some (.int c), some (.ref pr), some (.ref ln), some (.int (c / 324 % 2)), some (.ref p), some (vN N), v14, v15] ∧ Same H13 H')
      ⟨none, none, rfl, Same.refl _⟩ ?_ ?_⟩
    · rintro t σ H14 ht ⟨v14, v15, rfl, s14⟩
      have hS14 := s14.seq (sH13.seq hS)
      refine ⟨_, rfl, _, rfl, _, _, rfl, rfl, .inl ⟨by decide, by decide⟩, _, _, rfl, rfl, a, zs, _, rfl, hS14, ?_, fun z1 => ?_⟩
      · omega
      obtain ⟨j1, hj1, ej1⟩ := rest_at z1 (n := N) (by omega)
      refine ⟨_, rfl, _, _, rfl, rfl, (by omega), ?_⟩
      refine ⟨_, rfl, _, rfl, _, rfl, _, rfl, _, _, rfl, rfl, .inl ⟨by decide, by decide⟩, _, _, rfl, rfl, a, zs, _, rfl, hS14, ?_, fun z2 => ?_⟩
      · omega
      obtain ⟨j2, hj2, ej2⟩ := rest_at (z2 / 5) (n := N) (by omega)
      refine ⟨_, _, rfl, rfl, ⟨by decide, by decide⟩, _, rfl, _, _, rfl, rfl, (by omega), ?_⟩
      refine ⟨p, t1, t2, R', U', N, j1, j2, ?_, S13.keep s14, hj1, hj2, fun H15 s15 => ⟨true, rfl, iteF ?_⟩⟩
      · show [V.ref p, V.int (z1 % (N : Int)), V.int (z2 / 5 % (N : Int))] = [V.ref p, V.int (j1 : Int), V.int (j2 : Int)]
        rw [ej1, ej2]
      exact ⟨_, _, rfl, s14.trans s15⟩
    · rintro σ H14 ⟨v14, v15, rfl, s14⟩
      have s914 := s913.trans s14
      have hln14 := s914 _ _ hln9
      have hy1' := s914 _ _ hy1
      have hy2' := s914 _ _ hy2
      -- the exchange back
      refine ⟨_, rfl, _, rfl, ln, _, _, _, rfl, rfl, SqL.of hln14, at_of (j := kd) ekd (sel_get hkd), _, rfl, pr, _, _, _, rfl, rfl, SqT.of (s914 _ _ hPr9), atI_nat (j := 0) rfl, _, rfl, pr, _, _, _, rfl, rfl, SqT.of (s914 _ _ hPr9), atI_nat (j := 1) rfl,
        sel kd y1 y2, X, av, bv, rfl, SqL.of (by rw [sel_row hkd hy1' hy2', eX]), by omega, by omega, fun H15 x' s15 hx' hX' => ?_⟩
      have hln15 := s15 _ _ hln14
      have lnx : x' ≠ ln := (ne_of_none hln14 hx').symm
      refine ⟨_, rfl, _, rfl, ln, _, _, kd, rfl, rfl, hln15, ixn_of ekd hkd, ?_⟩
      obtain ⟨x1, x2, exx, nx1, nx2, hx1, hx2⟩ := exch_two (o := .lst (([V.ref y1, V.ref y2] : List V).set kd (.ref x'))) hkd (s15 _ _ hy1') (s15 _ _ hy2') hX' ny1 ny2 lnx
      rw [exx, bk1] at hx1
      rw [exx, bk2] at hx2
      rw [exx]
      have k416 : Same H4 (upd H15 ln (.lst [.ref x1, .ref x2])) := k6.trans (same_put ((k9.trans s914).trans s15) ln6)
      have hln16 : upd H15 ln (.lst [.ref x1, .ref x2]) ln = some (.lst [.ref x1, .ref x2]) := upd_same
      generalize hH16 : upd H15 ln (.lst [.ref x1, .ref x2]) = H16 at *
      -- apart again
      refine ⟨_, rfl, ln, _, _, _, rfl, rfl, SqL.of hln16, atI_nat (j := 0) rfl, _, rfl, ln, _, _, _, rfl, rfl, SqL.of hln16, atI_nat (j := 1) rfl, x1, x2, R, U, N, rfl, SqL.of hx1, SqL.of hx2, tw.pr, tw.pu, hN1, hN36, tw.apart, fun H17 x s17 hx hnx hlt => ?_⟩
      have ex := tw.lacks hx hnx hlt
      subst ex
      refine ⟨_, rfl, rfl, true, by rw [decide_eq_true rfl], iteT ?_⟩
      refine ⟨_, rfl, ln, _, _, _, rfl, rfl, SqL.of (s17 _ _ hln16), atI_nat (j := 0) rfl, _, rfl, ln, _, _, _, rfl, rfl, SqL.of (s17 _ _ hln16), atI_nat (j := 1) rfl, x1, x2, R, U, N, rfl, SqL.of (s17 _ _ hx1), SqL.of (s17 _ _ hx2), tw.pr, tw.pu, hN1, hN36, fun H18 gp' ps' s18 hgp' hGp' hRows' => ?_⟩
      rw [tw.gr] at hRows'
      have k418 := (k416.trans s17).trans s18
      refine ⟨_, rfl, dRows [A, B], dRows [A, B], .lst (SqL.of hGp') (dp_rows hRows'), .lst (SqL.of (k418 _ _ hNm)) (.cons (dp_row (SqL.of (k418 _ _ hQa))) (.cons (dp_row (SqL.of (k418 _ _ hQb))) .nil)), shapedR _, shapedR _, ?_⟩
      rw [eqvR]
      exact q _
end
end Sq

/-! What the top has written, the promises joined, the end. -/
namespace Sq
open L2 PySem PySem.Spec PyProof.Rows
section
variable {mg : Str → Option Value} {base : Heap} {P : Program} {w : World} {K : PySem.W.Frag}
theorem Cal.up {CX : CXT} {j k : Nat} {x : Str} {ps : List Str} {sp : Sp} {f : Addr} {fd : FuncData} (c : Cal P w K mg base CX j x ps sp f fd) (h : j ≤ k) : Cal P w K mg base CX k x ps sp f fd := ⟨c.G.mono h, c.m, c.kp, c.b⟩
/-- the class that an error is of is one that «except» of it takes -/
theorem exm_own {S : Addr} (h1 : PySem.W.subIn K (.ref S) (.type "BaseException") = some true) (h2 : PySem.W.isClsIn K S = true) (h3 : PySem.W.typeIn K (.ref S) = some (.type "type")) (h4 : PySem.W.subIn K (.ref S) (.ref S) = some true) : PySem.W.exmOne K (.ref S) (.ref S) = some true := by
  have some_cls : (PySem.W.clsIn K S).isSome = true := h2
  simp [PySem.W.exmOne, PySem.W.kitCls, h1, some_cls, h3, h4]
/-- one def of the text, as the top has left it -/
structure Df (K : PySem.W.Frag) (x qual : Str) (st : Stmt) (f : Addr) (fd : FuncData) : Prop where
  a : PySem.W.nsIn K mainGlobals x = some (some (.ref f))
  F : Fun K x qual st f fd
  k : PySem.W.keepIn K (.ref f) = true
end
section
variable {P : Program} {w : World} {K : PySem.W.Frag} {h : Heap} {mg : Str → Option Value}
theorem all_mk {fa C fI SE : Addr} {tM : Tok}
    {nm q : Str} {N : Addr} {sn : List Str} {bs sub : List Value} {ab : Bool} {col : Option Bool} {dd : Option Addr} {m0 m1 m2 m3 m5 : Option Value}
    {f_isSq f_check f_met f_sheet f_size f_back f_groups f_ckSq f_steps f_gone f_path f_cell f_whole f_lines f_lmet f_among f_lsheet f_picked f_beside f_isSheet f_lstep f_apart f_leads f_exch f_law : Addr}
    {od_isSq an_isSq od_check an_check od_met an_met od_sheet an_sheet od_size an_size od_back an_back od_groups an_groups od_ckSq an_ckSq od_steps an_steps od_gone an_gone od_path an_path od_cell an_cell od_whole an_whole od_lines an_lines od_lmet an_lmet od_among an_among od_lsheet an_lsheet od_picked an_picked od_beside an_beside od_isSheet an_isSheet od_lstep an_lstep od_apart an_apart od_leads an_leads od_exch an_exch od_law an_law od_I an_I : Option Addr}
    {sl_isSq sl_check sl_met sl_sheet sl_size sl_back sl_groups sl_ckSq sl_steps sl_gone sl_path sl_cell sl_whole sl_lines sl_lmet sl_among sl_lsheet sl_picked sl_beside sl_isSheet sl_lstep sl_apart sl_leads sl_exch sl_law sl_I : Array (Option Value)}
    {oc_isSq kV_isSq dc_isSq pm_isSq cd_isSq ct_isSq oc_check kV_check dc_check pm_check cd_check ct_check oc_met kV_met dc_met pm_met cd_met ct_met oc_sheet kV_sheet dc_sheet pm_sheet cd_sheet ct_sheet oc_size kV_size dc_size pm_size cd_size ct_size oc_back kV_back dc_back pm_back cd_back ct_back oc_groups kV_groups dc_groups pm_groups cd_groups ct_groups oc_ckSq kV_ckSq dc_ckSq pm_ckSq cd_ckSq ct_ckSq oc_steps kV_steps dc_steps pm_steps cd_steps ct_steps oc_gone kV_gone dc_gone pm_gone cd_gone ct_gone oc_path kV_path dc_path pm_path cd_path ct_path oc_cell kV_cell dc_cell pm_cell cd_cell ct_cell oc_whole kV_whole dc_whole pm_whole cd_whole ct_whole oc_lines kV_lines dc_lines pm_lines cd_lines ct_lines oc_lmet kV_lmet dc_lmet pm_lmet cd_lmet ct_lmet oc_among kV_among dc_among pm_among cd_among ct_among oc_lsheet kV_lsheet dc_lsheet pm_lsheet cd_lsheet ct_lsheet oc_picked kV_picked dc_picked pm_picked cd_picked ct_picked oc_beside kV_beside dc_beside pm_beside cd_beside ct_beside oc_isSheet kV_isSheet dc_isSheet pm_isSheet cd_isSheet ct_isSheet oc_lstep kV_lstep dc_lstep pm_lstep cd_lstep ct_lstep oc_apart kV_apart dc_apart pm_apart cd_apart ct_apart oc_leads kV_leads dc_leads pm_leads cd_leads ct_leads oc_exch kV_exch dc_exch pm_exch cd_exch ct_exch oc_law kV_law dc_law pm_law cd_law ct_law oc_I kV_I dc_I pm_I cd_I ct_I : Value} (X0 : K.In h) (G : h.Ns mainGlobals mg) (hfa : mg "law" = some (.ref fa))
    (a_isSq : PySem.W.nsIn K mainGlobals "is_square" = some (some (.ref f_isSq)))
    (l_isSq : K.lookup f_isSq = some ⟨oc_isSq, od_isSq, .func (PySem.W.fnOf "is_square" "is_square" (defArgs sIsSq) (defBody sIsSq) (defScope sIsSq) .none kV_isSq dc_isSq pm_isSq an_isSq cd_isSq ct_isSq), sl_isSq⟩)
    (c_isSq : PySem.W.codeIn K cd_isSq "is_square" = true)
    (k_isSq : PySem.W.keepIn K (.ref f_isSq) = true)
    (a_check : PySem.W.nsIn K mainGlobals "check_rows" = some (some (.ref f_check)))
    (l_check : K.lookup f_check = some ⟨oc_check, od_check, .func (PySem.W.fnOf "check_rows" "check_rows" (defArgs sCheck) (defBody sCheck) (defScope sCheck) .none kV_check dc_check pm_check an_check cd_check ct_check), sl_check⟩)
    (c_check : PySem.W.codeIn K cd_check "check_rows" = true)
    (k_check : PySem.W.keepIn K (.ref f_check) = true)
    (a_met : PySem.W.nsIn K mainGlobals "met_from" = some (some (.ref f_met)))
    (l_met : K.lookup f_met = some ⟨oc_met, od_met, .func (PySem.W.fnOf "met_from" "met_from" (defArgs sMet) (defBody sMet) (defScope sMet) .none kV_met dc_met pm_met an_met cd_met ct_met), sl_met⟩)
    (c_met : PySem.W.codeIn K cd_met "met_from" = true)
    (k_met : PySem.W.keepIn K (.ref f_met) = true)
    (a_sheet : PySem.W.nsIn K mainGlobals "sheet_of" = some (some (.ref f_sheet)))
    (l_sheet : K.lookup f_sheet = some ⟨oc_sheet, od_sheet, .func (PySem.W.fnOf "sheet_of" "sheet_of" (defArgs sSheet) (defBody sSheet) (defScope sSheet) .none kV_sheet dc_sheet pm_sheet an_sheet cd_sheet ct_sheet), sl_sheet⟩)
    (c_sheet : PySem.W.codeIn K cd_sheet "sheet_of" = true)
    (k_sheet : PySem.W.keepIn K (.ref f_sheet) = true)
    (a_size : PySem.W.nsIn K mainGlobals "size" = some (some (.ref f_size)))
    (l_size : K.lookup f_size = some ⟨oc_size, od_size, .func (PySem.W.fnOf "size" "size" (defArgs sSize) (defBody sSize) (defScope sSize) .none kV_size dc_size pm_size an_size cd_size ct_size), sl_size⟩)
    (c_size : PySem.W.codeIn K cd_size "size" = true)
    (k_size : PySem.W.keepIn K (.ref f_size) = true)
    (a_back : PySem.W.nsIn K mainGlobals "back_row" = some (some (.ref f_back)))
    (l_back : K.lookup f_back = some ⟨oc_back, od_back, .func (PySem.W.fnOf "back_row" "back_row" (defArgs sBack) (defBody sBack) (defScope sBack) .none kV_back dc_back pm_back an_back cd_back ct_back), sl_back⟩)
    (c_back : PySem.W.codeIn K cd_back "back_row" = true)
    (k_back : PySem.W.keepIn K (.ref f_back) = true)
    (a_groups : PySem.W.nsIn K mainGlobals "groups" = some (some (.ref f_groups)))
    (l_groups : K.lookup f_groups = some ⟨oc_groups, od_groups, .func (PySem.W.fnOf "groups" "groups" (defArgs sGroups) (defBody sGroups) (defScope sGroups) .none kV_groups dc_groups pm_groups an_groups cd_groups ct_groups), sl_groups⟩)
    (c_groups : PySem.W.codeIn K cd_groups "groups" = true)
    (k_groups : PySem.W.keepIn K (.ref f_groups) = true)
    (a_ckSq : PySem.W.nsIn K mainGlobals "check_square" = some (some (.ref f_ckSq)))
    (l_ckSq : K.lookup f_ckSq = some ⟨oc_ckSq, od_ckSq, .func (PySem.W.fnOf "check_square" "check_square" (defArgs sCkSq) (defBody sCkSq) (defScope sCkSq) .none kV_ckSq dc_ckSq pm_ckSq an_ckSq cd_ckSq ct_ckSq), sl_ckSq⟩)
    (c_ckSq : PySem.W.codeIn K cd_ckSq "check_square" = true)
    (k_ckSq : PySem.W.keepIn K (.ref f_ckSq) = true)
    (a_steps : PySem.W.nsIn K mainGlobals "steps_of" = some (some (.ref f_steps)))
    (l_steps : K.lookup f_steps = some ⟨oc_steps, od_steps, .func (PySem.W.fnOf "steps_of" "steps_of" (defArgs sSteps) (defBody sSteps) (defScope sSteps) .none kV_steps dc_steps pm_steps an_steps cd_steps ct_steps), sl_steps⟩)
    (c_steps : PySem.W.codeIn K cd_steps "steps_of" = true)
    (k_steps : PySem.W.keepIn K (.ref f_steps) = true)
    (a_gone : PySem.W.nsIn K mainGlobals "gone" = some (some (.ref f_gone)))
    (l_gone : K.lookup f_gone = some ⟨oc_gone, od_gone, .func (PySem.W.fnOf "gone" "gone" (defArgs sGone) (defBody sGone) (defScope sGone) .none kV_gone dc_gone pm_gone an_gone cd_gone ct_gone), sl_gone⟩)
    (c_gone : PySem.W.codeIn K cd_gone "gone" = true)
    (k_gone : PySem.W.keepIn K (.ref f_gone) = true)
    (a_path : PySem.W.nsIn K mainGlobals "path_between" = some (some (.ref f_path)))
    (l_path : K.lookup f_path = some ⟨oc_path, od_path, .func (PySem.W.fnOf "path_between" "path_between" (defArgs sPath) (defBody sPath) (defScope sPath) .none kV_path dc_path pm_path an_path cd_path ct_path), sl_path⟩)
    (c_path : PySem.W.codeIn K cd_path "path_between" = true)
    (k_path : PySem.W.keepIn K (.ref f_path) = true)
    (a_cell : PySem.W.nsIn K mainGlobals "_law_cell" = some (some (.ref f_cell)))
    (l_cell : K.lookup f_cell = some ⟨oc_cell, od_cell, .func (PySem.W.fnOf "_law_cell" "_law_cell" (defArgs sCell) (defBody sCell) (defScope sCell) .none kV_cell dc_cell pm_cell an_cell cd_cell ct_cell), sl_cell⟩)
    (c_cell : PySem.W.codeIn K cd_cell "_law_cell" = true)
    (k_cell : PySem.W.keepIn K (.ref f_cell) = true)
    (a_whole : PySem.W.nsIn K mainGlobals "_law_whole" = some (some (.ref f_whole)))
    (l_whole : K.lookup f_whole = some ⟨oc_whole, od_whole, .func (PySem.W.fnOf "_law_whole" "_law_whole" (defArgs sWhole) (defBody sWhole) (defScope sWhole) .none kV_whole dc_whole pm_whole an_whole cd_whole ct_whole), sl_whole⟩)
    (c_whole : PySem.W.codeIn K cd_whole "_law_whole" = true)
    (k_whole : PySem.W.keepIn K (.ref f_whole) = true)
    (a_lines : PySem.W.nsIn K mainGlobals "_law_lines" = some (some (.ref f_lines)))
    (l_lines : K.lookup f_lines = some ⟨oc_lines, od_lines, .func (PySem.W.fnOf "_law_lines" "_law_lines" (defArgs sLines) (defBody sLines) (defScope sLines) .none kV_lines dc_lines pm_lines an_lines cd_lines ct_lines), sl_lines⟩)
    (c_lines : PySem.W.codeIn K cd_lines "_law_lines" = true)
    (k_lines : PySem.W.keepIn K (.ref f_lines) = true)
    (a_lmet : PySem.W.nsIn K mainGlobals "_law_met" = some (some (.ref f_lmet)))
    (l_lmet : K.lookup f_lmet = some ⟨oc_lmet, od_lmet, .func (PySem.W.fnOf "_law_met" "_law_met" (defArgs sLMet) (defBody sLMet) (defScope sLMet) .none kV_lmet dc_lmet pm_lmet an_lmet cd_lmet ct_lmet), sl_lmet⟩)
    (c_lmet : PySem.W.codeIn K cd_lmet "_law_met" = true)
    (k_lmet : PySem.W.keepIn K (.ref f_lmet) = true)
    (a_among : PySem.W.nsIn K mainGlobals "_law_among" = some (some (.ref f_among)))
    (l_among : K.lookup f_among = some ⟨oc_among, od_among, .func (PySem.W.fnOf "_law_among" "_law_among" (defArgs sAmong) (defBody sAmong) (defScope sAmong) .none kV_among dc_among pm_among an_among cd_among ct_among), sl_among⟩)
    (c_among : PySem.W.codeIn K cd_among "_law_among" = true)
    (k_among : PySem.W.keepIn K (.ref f_among) = true)
    (a_lsheet : PySem.W.nsIn K mainGlobals "_law_sheet" = some (some (.ref f_lsheet)))
    (l_lsheet : K.lookup f_lsheet = some ⟨oc_lsheet, od_lsheet, .func (PySem.W.fnOf "_law_sheet" "_law_sheet" (defArgs sLSheet) (defBody sLSheet) (defScope sLSheet) .none kV_lsheet dc_lsheet pm_lsheet an_lsheet cd_lsheet ct_lsheet), sl_lsheet⟩)
    (c_lsheet : PySem.W.codeIn K cd_lsheet "_law_sheet" = true)
    (k_lsheet : PySem.W.keepIn K (.ref f_lsheet) = true)
    (a_picked : PySem.W.nsIn K mainGlobals "_law_picked" = some (some (.ref f_picked)))
    (l_picked : K.lookup f_picked = some ⟨oc_picked, od_picked, .func (PySem.W.fnOf "_law_picked" "_law_picked" (defArgs sPicked) (defBody sPicked) (defScope sPicked) .none kV_picked dc_picked pm_picked an_picked cd_picked ct_picked), sl_picked⟩)
    (c_picked : PySem.W.codeIn K cd_picked "_law_picked" = true)
    (k_picked : PySem.W.keepIn K (.ref f_picked) = true)
    (a_beside : PySem.W.nsIn K mainGlobals "_law_beside" = some (some (.ref f_beside)))
    (l_beside : K.lookup f_beside = some ⟨oc_beside, od_beside, .func (PySem.W.fnOf "_law_beside" "_law_beside" (defArgs sBeside) (defBody sBeside) (defScope sBeside) .none kV_beside dc_beside pm_beside an_beside cd_beside ct_beside), sl_beside⟩)
    (c_beside : PySem.W.codeIn K cd_beside "_law_beside" = true)
    (k_beside : PySem.W.keepIn K (.ref f_beside) = true)
    (a_isSheet : PySem.W.nsIn K mainGlobals "_law_is_sheet" = some (some (.ref f_isSheet)))
    (l_isSheet : K.lookup f_isSheet = some ⟨oc_isSheet, od_isSheet, .func (PySem.W.fnOf "_law_is_sheet" "_law_is_sheet" (defArgs sIsSheet) (defBody sIsSheet) (defScope sIsSheet) .none kV_isSheet dc_isSheet pm_isSheet an_isSheet cd_isSheet ct_isSheet), sl_isSheet⟩)
    (c_isSheet : PySem.W.codeIn K cd_isSheet "_law_is_sheet" = true)
    (k_isSheet : PySem.W.keepIn K (.ref f_isSheet) = true)
    (a_lstep : PySem.W.nsIn K mainGlobals "_law_step" = some (some (.ref f_lstep)))
    (l_lstep : K.lookup f_lstep = some ⟨oc_lstep, od_lstep, .func (PySem.W.fnOf "_law_step" "_law_step" (defArgs sLStep) (defBody sLStep) (defScope sLStep) .none kV_lstep dc_lstep pm_lstep an_lstep cd_lstep ct_lstep), sl_lstep⟩)
    (c_lstep : PySem.W.codeIn K cd_lstep "_law_step" = true)
    (k_lstep : PySem.W.keepIn K (.ref f_lstep) = true)
    (a_apart : PySem.W.nsIn K mainGlobals "_law_apart" = some (some (.ref f_apart)))
    (l_apart : K.lookup f_apart = some ⟨oc_apart, od_apart, .func (PySem.W.fnOf "_law_apart" "_law_apart" (defArgs sApart) (defBody sApart) (defScope sApart) .none kV_apart dc_apart pm_apart an_apart cd_apart ct_apart), sl_apart⟩)
    (c_apart : PySem.W.codeIn K cd_apart "_law_apart" = true)
    (k_apart : PySem.W.keepIn K (.ref f_apart) = true)
    (a_leads : PySem.W.nsIn K mainGlobals "_law_leads" = some (some (.ref f_leads)))
    (l_leads : K.lookup f_leads = some ⟨oc_leads, od_leads, .func (PySem.W.fnOf "_law_leads" "_law_leads" (defArgs sLeads) (defBody sLeads) (defScope sLeads) .none kV_leads dc_leads pm_leads an_leads cd_leads ct_leads), sl_leads⟩)
    (c_leads : PySem.W.codeIn K cd_leads "_law_leads" = true)
    (k_leads : PySem.W.keepIn K (.ref f_leads) = true)
    (a_exch : PySem.W.nsIn K mainGlobals "_law_exchanged" = some (some (.ref f_exch)))
    (l_exch : K.lookup f_exch = some ⟨oc_exch, od_exch, .func (PySem.W.fnOf "_law_exchanged" "_law_exchanged" (defArgs sExch) (defBody sExch) (defScope sExch) .none kV_exch dc_exch pm_exch an_exch cd_exch ct_exch), sl_exch⟩)
    (c_exch : PySem.W.codeIn K cd_exch "_law_exchanged" = true)
    (k_exch : PySem.W.keepIn K (.ref f_exch) = true)
    (a_law : PySem.W.nsIn K mainGlobals "law" = some (some (.ref f_law)))
    (l_law : K.lookup f_law = some ⟨oc_law, od_law, .func (PySem.W.fnOf "law" "law" (defArgs sLaw) (defBody sLaw) (defScope sLaw) .none kV_law dc_law pm_law an_law cd_law ct_law), sl_law⟩)
    (c_law : PySem.W.codeIn K cd_law "law" = true)
    (k_law : PySem.W.keepIn K (.ref f_law) = true)
    (z_len : PySem.W.nsIn K mainGlobals "len" = some none)
    (z_isinstance : PySem.W.nsIn K mainGlobals "isinstance" = some none)
    (z_int : PySem.W.nsIn K mainGlobals "int" = some none)
    (z_bool : PySem.W.nsIn K mainGlobals "bool" = some none)
    (z_range : PySem.W.nsIn K mainGlobals "range" = some none)
    (z_tuple : PySem.W.nsIn K mainGlobals "tuple" = some none)
    (z_list : PySem.W.nsIn K mainGlobals "list" = some none)
    (z_enumerate : PySem.W.nsIn K mainGlobals "enumerate" = some none)
    (z_sorted : PySem.W.nsIn K mainGlobals "sorted" = some none)
    (z_sum : PySem.W.nsIn K mainGlobals "sum" = some none)
    (z_all : PySem.W.nsIn K mainGlobals "all" = some none)
    (z_str : PySem.W.nsIn K mainGlobals "str" = some none)
    (aM : PySem.W.nsIn K mainGlobals "MOST_SQUARES" = some (some (.int 36 tM)))
    (aC : PySem.W.nsIn K mainGlobals "NotTogether" = some (some (.ref C)))
    (xL : K.lookup C = some (excClassObj nm q C N bs [.ref SE, .type "ValueError", .type "Exception", .type "BaseException", .type "object"] true sn sub ab col dd m0 m1 m2 m3 m5 "ValueError.__new__"))
    (sa : PySem.W.findIn K (.ref C) "__setattr__" = some (some (.builtin "object.__setattr__")))
    (ga : PySem.W.findIn K (.ref C) "__getattribute__" = some (some (.builtin "BaseException.__getattribute__")))
    (gg : PySem.W.findIn K (.ref C) "__getattr__" = some none)
    (nb : PySem.W.findIn K (.ref C) "square" = some none)
    (aI : PySem.W.findIn K (.ref C) "__init__" = some (some (.ref fI)))
    (tI : PySem.W.typeIn K (.ref fI) = some (.type "function"))
    (lI : K.lookup fI = some ⟨oc_I, od_I, .func (PySem.W.fnOf "__init__" "NotTogether.__init__" (defArgs sInit) (defBody sInit) (defScope sInit) .none kV_I dc_I pm_I an_I cd_I ct_I), sl_I⟩)
    (cI : PySem.W.codeIn K cd_I "NotTogether.__init__" = true)
    (kI : PySem.W.keepIn K (.ref fI) = true)
    (kC : PySem.W.keepIn K (.ref C) = true)
    (eC : PySem.W.subIn K (.ref C) (.type "BaseException") = some true)
    (tC : PySem.W.typeIn K (.ref C) = some (.type "type"))
    (hC : PySem.W.hasDictIn K C = true)
    (iC : PySem.W.isClsIn K C = true)
    (sC : PySem.W.subIn K (.ref C) (.ref C) = some true) :
    ∃ fd : FuncData, (∀ (s : Shared) (v : Value), BindsTo s fd ⟨[v], []⟩ [("_law_script", v)]) ∧ ∀ base : Heap, K.In base → base.Ns mainGlobals mg → FnOk P w K mg base CX0 5 fa fd ["_law_script"] (spLaw K) := by
  have e := hfa.symm.trans (PySem.W.mg_of X0 G a_law)
  cases e
  have T : Blt mg := ⟨PySem.W.mg_none_of X0 G z_len, PySem.W.mg_none_of X0 G z_isinstance, PySem.W.mg_none_of X0 G z_int, PySem.W.mg_none_of X0 G z_bool, PySem.W.mg_none_of X0 G z_range, PySem.W.mg_none_of X0 G z_tuple, PySem.W.mg_none_of X0 G z_list, PySem.W.mg_none_of X0 G z_enumerate, PySem.W.mg_none_of X0 G z_sorted, PySem.W.mg_none_of X0 G z_sum, PySem.W.mg_none_of X0 G z_all, PySem.W.mg_none_of X0 G z_str⟩
  have hM := PySem.W.mg_of X0 G aM
  have oC : OexC K C := ⟨⟨nm, q, N, bs, _, sn, sub, ab, col, dd, m0, m1, m2, m3, m5, xL, by rfl⟩, sa, eC, tC, kC⟩
  have X : Exn K mg C fI := ⟨oC, aI, tI, nb, PySem.W.mg_of X0 G aC⟩
  have XF : XfC K C := ⟨ga, gg, eC, hC⟩
  have te := exm_own eC iC tC sC
  have FI := fun_mk (st := sInit) lI cI kI
  have bI := FI.binds (ps := ["self", "square"]) fun _ _ _ _ _ _ us hl => match us, hl with | [_, _], _ => rfl
  have F_isSq := fun_mk (st := sIsSq) l_isSq c_isSq k_isSq
  have b_isSq := F_isSq.binds (ps := ["square", "many"]) fun _ _ _ _ _ _ us hl => match us, hl with | [_, _], _ => rfl
  have F_check := fun_mk (st := sCheck) l_check c_check k_check
  have b_check := F_check.binds (ps := ["right", "up"]) fun _ _ _ _ _ _ us hl => match us, hl with | [_, _], _ => rfl
  have F_met := fun_mk (st := sMet) l_met c_met k_met
  have b_met := F_met.binds (ps := ["right", "up", "first"]) fun _ _ _ _ _ _ us hl => match us, hl with | [_, _, _], _ => rfl
  have F_sheet := fun_mk (st := sSheet) l_sheet c_sheet k_sheet
  have b_sheet := F_sheet.binds (ps := ["right", "up"]) fun _ _ _ _ _ _ us hl => match us, hl with | [_, _], _ => rfl
  have F_size := fun_mk (st := sSize) l_size c_size k_size
  have b_size := F_size.binds (ps := ["sheet"]) fun _ _ _ _ _ _ us hl => match us, hl with | [_], _ => rfl
  have F_back := fun_mk (st := sBack) l_back c_back k_back
  have b_back := F_back.binds (ps := ["row"]) fun _ _ _ _ _ _ us hl => match us, hl with | [_], _ => rfl
  have F_groups := fun_mk (st := sGroups) l_groups c_groups k_groups
  have b_groups := F_groups.binds (ps := ["right", "up"]) fun _ _ _ _ _ _ us hl => match us, hl with | [_, _], _ => rfl
  have F_ckSq := fun_mk (st := sCkSq) l_ckSq c_ckSq k_ckSq
  have b_ckSq := F_ckSq.binds (ps := ["sheet", "square"]) fun _ _ _ _ _ _ us hl => match us, hl with | [_, _], _ => rfl
  have F_steps := fun_mk (st := sSteps) l_steps c_steps k_steps
  have b_steps := F_steps.binds (ps := ["sheet"]) fun _ _ _ _ _ _ us hl => match us, hl with | [_], _ => rfl
  have F_gone := fun_mk (st := sGone) l_gone c_gone k_gone
  have b_gone := F_gone.binds (ps := ["sheet", "square", "path"]) fun _ _ _ _ _ _ us hl => match us, hl with | [_, _, _], _ => rfl
  have F_path := fun_mk (st := sPath) l_path c_path k_path
  have b_path := F_path.binds (ps := ["sheet", "one", "other"]) fun _ _ _ _ _ _ us hl => match us, hl with | [_, _, _], _ => rfl
  have F_cell := fun_mk (st := sCell) l_cell c_cell k_cell
  have b_cell := F_cell.binds (ps := ["_law_script", "_law_k"]) fun _ _ _ _ _ _ us hl => match us, hl with | [_, _], _ => rfl
  have F_whole := fun_mk (st := sWhole) l_whole c_whole k_whole
  have b_whole := F_whole.binds (ps := ["_law_found"]) fun _ _ _ _ _ _ us hl => match us, hl with | [_], _ => rfl
  have F_lines := fun_mk (st := sLines) l_lines c_lines k_lines
  have b_lines := F_lines.binds (ps := ["_law_script", "_law_at", "_law_many"]) fun _ _ _ _ _ _ us hl => match us, hl with | [_, _, _], _ => rfl
  have F_lmet := fun_mk (st := sLMet) l_lmet c_lmet k_lmet
  have b_lmet := F_lmet.binds (ps := ["_law_right", "_law_up", "_law_first"]) fun _ _ _ _ _ _ us hl => match us, hl with | [_, _, _], _ => rfl
  have F_among := fun_mk (st := sAmong) l_among c_among k_among
  have b_among := F_among.binds (ps := ["_law_right", "_law_up", "_law_met_here"]) fun _ _ _ _ _ _ us hl => match us, hl with | [_, _, _], _ => rfl
  have F_lsheet := fun_mk (st := sLSheet) l_lsheet c_lsheet k_lsheet
  have b_lsheet := F_lsheet.binds (ps := ["_law_script", "_law_at", "_law_many"]) fun _ _ _ _ _ _ us hl => match us, hl with | [_, _, _], _ => rfl
  have F_picked := fun_mk (st := sPicked) l_picked c_picked k_picked
  have b_picked := F_picked.binds (ps := ["_law_things", "_law_number"]) fun _ _ _ _ _ _ us hl => match us, hl with | [_, _], _ => rfl
  have F_beside := fun_mk (st := sBeside) l_beside c_beside k_beside
  have b_beside := F_beside.binds (ps := ["_law_sheets", "_law_number"]) fun _ _ _ _ _ _ us hl => match us, hl with | [_, _], _ => rfl
  have F_isSheet := fun_mk (st := sIsSheet) l_isSheet c_isSheet k_isSheet
  have b_isSheet := F_isSheet.binds (ps := ["_law_found", "_law_many"]) fun _ _ _ _ _ _ us hl => match us, hl with | [_, _], _ => rfl
  have F_lstep := fun_mk (st := sLStep) l_lstep c_lstep k_lstep
  have b_lstep := F_lstep.binds (ps := ["_law_sheet_here", "_law_square", "_law_letter"]) fun _ _ _ _ _ _ us hl => match us, hl with | [_, _, _], _ => rfl
  have F_apart := fun_mk (st := sApart) l_apart c_apart k_apart
  have b_apart := F_apart.binds (ps := ["_law_right", "_law_up"]) fun _ _ _ _ _ _ us hl => match us, hl with | [_, _], _ => rfl
  have F_leads := fun_mk (st := sLeads) l_leads c_leads k_leads
  have b_leads := F_leads.binds (ps := ["_law_sheet_here", "_law_one", "_law_other"]) fun _ _ _ _ _ _ us hl => match us, hl with | [_, _, _], _ => rfl
  have F_exch := fun_mk (st := sExch) l_exch c_exch k_exch
  have b_exch := F_exch.binds (ps := ["_law_line", "_law_one", "_law_other"]) fun _ _ _ _ _ _ us hl => match us, hl with | [_, _, _], _ => rfl
  have F_law := fun_mk (st := sLaw) l_law c_law k_law
  refine ⟨PySem.W.fnOf "law" "law" (defArgs sLaw) (defBody sLaw) (defScope sLaw) .none kV_law dc_law pm_law an_law cd_law ct_law, fun s v => .of_eq rfl, fun base _ _ => ?_⟩
  have gI : FnOk P w K mg base CX0 1 fI _ ["self", "square"] (spInit K C) := ok_init (C := C) (k := 0) FI
  have C_isSq : Cal P w K mg base CX0 1 "is_square" ["square", "many"] spIsSq f_isSq _ := ⟨ok_isSq (k := 0) F_isSq T, PySem.W.mg_of X0 G a_isSq, k_isSq, b_isSq⟩
  have C_size : Cal P w K mg base CX0 1 "size" ["sheet"] (spSize K) f_size _ := ⟨ok_size (k := 0) F_size T, PySem.W.mg_of X0 G a_size, k_size, b_size⟩
  have C_back : Cal P w K mg base CX0 1 "back_row" ["row"] (spBack K) f_back _ := ⟨ok_back (k := 0) F_back T, PySem.W.mg_of X0 G a_back, k_back, b_back⟩
  have C_met : Cal P w K mg base CX0 2 "met_from" ["right", "up", "first"] (spMet K) f_met _ := ⟨ok_met (k := 1) F_met T, PySem.W.mg_of X0 G a_met, k_met, b_met⟩
  have C_check : Cal P w K mg base CX0 2 "check_rows" ["right", "up"] (spCheck K) f_check _ := ⟨ok_check (k := 1) F_check T (C_isSq.up (k := 1) (by decide)) ⟨_, hM⟩, PySem.W.mg_of X0 G a_check, k_check, b_check⟩
  have C_ckSq : Cal P w K mg base CX0 2 "check_square" ["sheet", "square"] (spCkSq K) f_ckSq _ := ⟨ok_ckSq (k := 1) F_ckSq (C_isSq.up (k := 1) (by decide)) (C_size.up (k := 1) (by decide)), PySem.W.mg_of X0 G a_ckSq, k_ckSq, b_ckSq⟩
  have C_steps : Cal P w K mg base CX0 2 "steps_of" ["sheet"] (spSteps K) f_steps _ := ⟨ok_steps (k := 1) F_steps (C_back.up (k := 1) (by decide)), PySem.W.mg_of X0 G a_steps, k_steps, b_steps⟩
  have C_groups : Cal P w K mg base CX0 4 "groups" ["right", "up"] (spGroups K) f_groups _ := ⟨ok_groups (k := 3) F_groups T (C_check.up (k := 3) (by decide)) (C_met.up (k := 3) (by decide)), PySem.W.mg_of X0 G a_groups, k_groups, b_groups⟩
  have C_gone : Cal P w K mg base CX0 3 "gone" ["sheet", "square", "path"] (spGone K) f_gone _ := ⟨ok_gone (k := 2) F_gone (C_ckSq.up (k := 2) (by decide)) (C_steps.up (k := 2) (by decide)), PySem.W.mg_of X0 G a_gone, k_gone, b_gone⟩
  have C_path : Cal P w K mg base CX0 3 "path_between" ["sheet", "one", "other"] (spPath K) f_path _ := ⟨ok_path (k := 2) F_path (C_ckSq.up (k := 2) (by decide)) (C_steps.up (k := 2) (by decide)), PySem.W.mg_of X0 G a_path, k_path, b_path⟩
  have C_cell : Cal P w K mg base CX0 2 "_law_cell" ["_law_script", "_law_k"] (spCell K) f_cell _ := ⟨ok_cell (k := 1) F_cell T, PySem.W.mg_of X0 G a_cell, k_cell, b_cell⟩
  have C_whole : Cal P w K mg base CX0 3 "_law_whole" ["_law_found"] spWhole f_whole _ := ⟨ok_whole (k := 2) F_whole T, PySem.W.mg_of X0 G a_whole, k_whole, b_whole⟩
  have C_lines : Cal P w K mg base CX0 3 "_law_lines" ["_law_script", "_law_at", "_law_many"] (spLines K) f_lines _ := ⟨ok_lines (k := 2) F_lines T (C_cell.up (k := 2) (by decide)), PySem.W.mg_of X0 G a_lines, k_lines, b_lines⟩
  have C_lmet : Cal P w K mg base CX0 3 "_law_met" ["_law_right", "_law_up", "_law_first"] (spMet K) f_lmet _ := ⟨ok_lmet (k := 2) F_lmet T, PySem.W.mg_of X0 G a_lmet, k_lmet, b_lmet⟩
  have C_among : Cal P w K mg base CX0 3 "_law_among" ["_law_right", "_law_up", "_law_met_here"] (spAmong K) f_among _ := ⟨ok_among (k := 2) F_among T, PySem.W.mg_of X0 G a_among, k_among, b_among⟩
  have C_lsheet : Cal P w K mg base CX0 4 "_law_sheet" ["_law_script", "_law_at", "_law_many"] (spLSheet K) f_lsheet _ := ⟨ok_lsheet (k := 3) F_lsheet T (C_lines.up (k := 3) (by decide)) (C_among.up (k := 3) (by decide)) (C_lmet.up (k := 3) (by decide)), PySem.W.mg_of X0 G a_lsheet, k_lsheet, b_lsheet⟩
  have C_picked : Cal P w K mg base CX0 3 "_law_picked" ["_law_things", "_law_number"] (spPicked K) f_picked _ := ⟨ok_picked (k := 2) F_picked T, PySem.W.mg_of X0 G a_picked, k_picked, b_picked⟩
  have C_beside : Cal P w K mg base CX0 4 "_law_beside" ["_law_sheets", "_law_number"] (spBeside K) f_beside _ := ⟨ok_beside (k := 3) F_beside T (C_picked.up (k := 3) (by decide)), PySem.W.mg_of X0 G a_beside, k_beside, b_beside⟩
  have C_lstep : Cal P w K mg base CX0 3 "_law_step" ["_law_sheet_here", "_law_square", "_law_letter"] (spLStep K) f_lstep _ := ⟨ok_lstep (k := 2) F_lstep , PySem.W.mg_of X0 G a_lstep, k_lstep, b_lstep⟩
  have C_leads : Cal P w K mg base CX0 4 "_law_leads" ["_law_sheet_here", "_law_one", "_law_other"] (spLeads K) f_leads _ := ⟨ok_leads (k := 3) F_leads T (C_path.up (k := 3) (by decide)) (C_gone.up (k := 3) (by decide)) (C_lstep.up (k := 3) (by decide)), PySem.W.mg_of X0 G a_leads, k_leads, b_leads⟩
  have C_isSheet : Cal P w K mg base CX0 4 "_law_is_sheet" ["_law_found", "_law_many"] (spIsSheet K) f_isSheet _ := ⟨ok_isSheet (k := 3) F_isSheet T (C_whole.up (k := 3) (by decide)) (C_lmet.up (k := 3) (by decide)), PySem.W.mg_of X0 G a_isSheet, k_isSheet, b_isSheet⟩
  have C_exch : Cal P w K mg base CX0 4 "_law_exchanged" ["_law_line", "_law_one", "_law_other"] (spExch K) f_exch _ := ⟨ok_exch (k := 3) F_exch T, PySem.W.mg_of X0 G a_exch, k_exch, b_exch⟩
  have C_sheet : Cal P w K mg base (L2.CX P w) 3 "sheet_of" ["right", "up"] (spSheet K C) f_sheet _ := ⟨ok_sheet (C := C) (k := 0) F_sheet T (C_check.up (k := 2) (by decide)) (C_met.up (k := 2) (by decide)) X gI bI, PySem.W.mg_of X0 G a_sheet, k_sheet, b_sheet⟩
  have C_apart : Cal P w K mg base CX0 4 "_law_apart" ["_law_right", "_law_up"] (spApart K) f_apart _ := ⟨ok_apart (k := 3) F_apart (C := C) (C_sheet.up (k := 3) (by decide)) X XF te, PySem.W.mg_of X0 G a_apart, k_apart, b_apart⟩
  exact ok_law (C := C) (k := 4) F_law T (C_cell.up (k := 4) (by decide)) (C_lsheet.up (k := 4) (by decide)) (C_beside.up (k := 4) (by decide)) (C_apart.up (k := 4) (by decide)) (C_whole.up (k := 4) (by decide)) (C_exch.up (k := 4) (by decide)) (C_sheet.up (k := 4) (by decide)) (C_isSheet.up (k := 4) (by decide)) (C_groups.up (k := 4) (by decide)) (C_leads.up (k := 4) (by decide))
end
/-- the law, called: its promise is enough -/
theorem walk {r : PySem.W.OpenLaw} {P1 : Program} {away : List Str} {XP : (Str → Option Value) → Heap → Prop} {YP : World → Heap → Prop} {df : DefRec} {K : Params → PySem.W.Frag} (most : r.most = some 63) (plain : df.params.defaults = []) (here : ∀ (w : World) (h : Heap), YP w h → (K w.params).In h)
    (law : ∀ (w : World) (mg : Str → Option Value) (fa : Addr) (h : Heap), (K w.params).In h → h.Ns mainGlobals mg → mg df.name = some (.ref fa) → ∃ fd : FuncData, (∀ (s : Shared) (u : Value), BindsTo s fd ⟨[u], []⟩ [("_law_script", u)]) ∧ ∀ base : Heap, (K w.params).In base → base.Ns mainGlobals mg → FnOk r.prog w (K w.params) mg base CX0 5 fa fd ["_law_script"] (spLaw (K w.params))) :
    PySem.W.WalkO P1 away XP YP r.row.toRowW df [] (fun f vs => PySem.call f vs) :=
  L2.walk_of (n := 63) (k := 5) (x := "_law_script") (CX := fun _ => CX0) (sp := fun w => spLaw (K w.params)) most (by decide) plain ⟨rfl, by decide, by decide⟩ here law (fun _ _ a ns _ _ hS => ⟨a, ns, rfl, hS, fun _ => rfl⟩) fun _ _ _ _ _ z => z
end Sq

open PySem PyProof.Rows PySem.W in
set_option maxHeartbeats 0 in
theorem PySem.Challenge.cw_squaresheet_k08_whole_sewn_together_holds : PySem.Challenge.rw_squaresheet_k08_whole_sewn_together.Holds := by
  w_on; o_law; k_head
  (case hw => w_witness2)
  k_fill
  refine Sq.walk (r := PySem.Challenge.rw_squaresheet_k08_whole_sewn_together) rfl rfl (fun w h Y => PySem.W.kIn_of Y) ?F
  case F =>
    intro w mg fa h KX G hmg
    refine' Sq.all_mk KX G hmg ?a_isSq ?l_isSq ?c_isSq ?k_isSq ?a_check ?l_check ?c_check ?k_check ?a_met ?l_met ?c_met ?k_met ?a_sheet ?l_sheet ?c_sheet ?k_sheet ?a_size ?l_size ?c_size ?k_size ?a_back ?l_back ?c_back ?k_back ?a_groups ?l_groups ?c_groups ?k_groups ?a_ckSq ?l_ckSq ?c_ckSq ?k_ckSq ?a_steps ?l_steps ?c_steps ?k_steps ?a_gone ?l_gone ?c_gone ?k_gone ?a_path ?l_path ?c_path ?k_path ?a_cell ?l_cell ?c_cell ?k_cell ?a_whole ?l_whole ?c_whole ?k_whole ?a_lines ?l_lines ?c_lines ?k_lines ?a_lmet ?l_lmet ?c_lmet ?k_lmet ?a_among ?l_among ?c_among ?k_among ?a_lsheet ?l_lsheet ?c_lsheet ?k_lsheet ?a_picked ?l_picked ?c_picked ?k_picked ?a_beside ?l_beside ?c_beside ?k_beside ?a_isSheet ?l_isSheet ?c_isSheet ?k_isSheet ?a_lstep ?l_lstep ?c_lstep ?k_lstep ?a_apart ?l_apart ?c_apart ?k_apart ?a_leads ?l_leads ?c_leads ?k_leads ?a_exch ?l_exch ?c_exch ?k_exch ?a_law ?l_law ?c_law ?k_law ?z_len ?z_isinstance ?z_int ?z_bool ?z_range ?z_tuple ?z_list ?z_enumerate ?z_sorted ?z_sum ?z_all ?z_str ?aM ?aC ?xL ?sa ?ga ?gg ?nb ?aI ?tI ?lI ?cI ?kI ?kC ?eC ?tC ?hC ?iC ?sC
    (case a_isSq => k_is)
    (case l_isSq => k_is)
    (case c_isSq => k_is)
    (case k_isSq => k_is)
    (case a_check => k_is)
    (case l_check => k_is)
    (case c_check => k_is)
    (case k_check => k_is)
    (case a_met => k_is)
    (case l_met => k_is)
    (case c_met => k_is)
    (case k_met => k_is)
    (case a_sheet => k_is)
    (case l_sheet => k_is)
    (case c_sheet => k_is)
    (case k_sheet => k_is)
    (case a_size => k_is)
    (case l_size => k_is)
    (case c_size => k_is)
    (case k_size => k_is)
    (case a_back => k_is)
    (case l_back => k_is)
    (case c_back => k_is)
    (case k_back => k_is)
    (case a_groups => k_is)
    (case l_groups => k_is)
    (case c_groups => k_is)
    (case k_groups => k_is)
    (case a_ckSq => k_is)
    (case l_ckSq => k_is)
    (case c_ckSq => k_is)
    (case k_ckSq => k_is)
    (case a_steps => k_is)
    (case l_steps => k_is)
    (case c_steps => k_is)
    (case k_steps => k_is)
    (case a_gone => k_is)
    (case l_gone => k_is)
    (case c_gone => k_is)
    (case k_gone => k_is)
    (case a_path => k_is)
    (case l_path => k_is)
    (case c_path => k_is)
    (case k_path => k_is)
    (case a_cell => k_is)
    (case l_cell => k_is)
    (case c_cell => k_is)
    (case k_cell => k_is)
    (case a_whole => k_is)
    (case l_whole => k_is)
    (case c_whole => k_is)
    (case k_whole => k_is)
    (case a_lines => k_is)
    (case l_lines => k_is)
    (case c_lines => k_is)
    (case k_lines => k_is)
    (case a_lmet => k_is)
    (case l_lmet => k_is)
    (case c_lmet => k_is)
    (case k_lmet => k_is)
    (case a_among => k_is)
    (case l_among => k_is)
    (case c_among => k_is)
    (case k_among => k_is)
    (case a_lsheet => k_is)
    (case l_lsheet => k_is)
    (case c_lsheet => k_is)
    (case k_lsheet => k_is)
    (case a_picked => k_is)
    (case l_picked => k_is)
    (case c_picked => k_is)
    (case k_picked => k_is)
    (case a_beside => k_is)
    (case l_beside => k_is)
    (case c_beside => k_is)
    (case k_beside => k_is)
    (case a_isSheet => k_is)
    (case l_isSheet => k_is)
    (case c_isSheet => k_is)
    (case k_isSheet => k_is)
    (case a_lstep => k_is)
    (case l_lstep => k_is)
    (case c_lstep => k_is)
    (case k_lstep => k_is)
    (case a_apart => k_is)
    (case l_apart => k_is)
    (case c_apart => k_is)
    (case k_apart => k_is)
    (case a_leads => k_is)
    (case l_leads => k_is)
    (case c_leads => k_is)
    (case k_leads => k_is)
    (case a_exch => k_is)
    (case l_exch => k_is)
    (case c_exch => k_is)
    (case k_exch => k_is)
    (case a_law => k_is)
    (case l_law => k_is)
    (case c_law => k_is)
    (case k_law => k_is)
    (case z_len => k_is)
    (case z_isinstance => k_is)
    (case z_int => k_is)
    (case z_bool => k_is)
    (case z_range => k_is)
    (case z_tuple => k_is)
    (case z_list => k_is)
    (case z_enumerate => k_is)
    (case z_sorted => k_is)
    (case z_sum => k_is)
    (case z_all => k_is)
    (case z_str => k_is)
    (case aM => k_is)
    (case aC => k_is)
    (case xL => k_is)
    (case sa => k_is)
    (case ga => k_is)
    (case gg => k_is)
    (case nb => k_is)
    (case aI => k_is)
    (case tI => k_is)
    (case lI => k_is)
    (case cI => k_is)
    (case kI => k_is)
    (case kC => k_is)
    (case eC => k_is)
    (case tC => k_is)
    (case hC => k_is)
    (case iC => k_is)
    (case sC => first | rfl | k_is)
