import PyProof.Rows.All
import Wide.All
import OpenK.AllK
import Wide.FinOn
import HandS.ForMost
import HandS.Nested
import HandS.Lambda
import HandS.Defaults
import HandS.HeadHook1
import HandS.HeadHook2
import HandS.HeadHook3
import HandS.HeadHook4
import HandS.HeadWalk
import KE.KStateDown
import HandS.Head0
import HandS.Head1
import HandS.Head2
import HandS.Codes
import HandS.WordsExc
import HandS.Exc
import HandS.ExcOwn
import KE.GoesEnum
import HandS.Walk
import HandS.IsInst
import HandS.TupAny
import HandS.Style
import HandS.DictComp
import HandS.SetKeys
import HandS.Conv
import HandS.NoneIn
import HandS.Strs
import HandS.TupLen
import KE.KUnpackStar
import HandS.Replace
import HandS.Evl
import KE.KDictDisplayH
import HandS.TryOnly
import HandS.More
import HandS.SortInts
import HandS.WordsDict
import PyProof.CollectStr
import KE.KUnpack
import KE.KRevSl
import PySem.Challenge.RW_swingwords_k65_whole_swings_led_along
set_option Elab.async false
set_option linter.all false
set_option maxRecDepth 100000
set_option maxHeartbeats 0
/-! Words, languages, machines, swings: plain Lean, no program in sight. -/
namespace Sw
abbrev Wd := List Nat
abbrev Lang := Wd → Bool
def Ov (ls w : Wd) : Prop := ∀ c ∈ w, c ∈ ls
theorem Ov.nil {ls : Wd} : Ov ls [] := fun _ h => by cases h
theorem Ov.one {ls : Wd} {c : Nat} (h : c ∈ ls) : Ov ls [c] := fun d hd => by rw [List.mem_singleton.mp hd]; exact h
theorem Ov.app {ls u v : Wd} (a : Ov ls u) (b : Ov ls v) : Ov ls (u ++ v) := fun c hc => (List.mem_append.mp hc).elim (a c) (b c)
theorem Ov.left {ls u v : Wd} (a : Ov ls (u ++ v)) : Ov ls u := fun c hc => a c (List.mem_append.mpr (.inl hc))
theorem Ov.right {ls u v : Wd} (a : Ov ls (u ++ v)) : Ov ls v := fun c hc => a c (List.mem_append.mpr (.inr hc))
theorem Ov.cons {ls v : Wd} {c : Nat} (h : c ∈ ls) (b : Ov ls v) : Ov ls (c :: v) := (Ov.one h).app b
theorem Ov.hd {ls v : Wd} {c : Nat} (a : Ov ls (c :: v)) : c ∈ ls := a c List.mem_cons_self
theorem Ov.tl {ls v : Wd} {c : Nat} (a : Ov ls (c :: v)) : Ov ls v := fun d hd => a d (List.mem_cons_of_mem _ hd)
def pw (y : Wd) : Nat → Wd
  | 0 => []
  | n + 1 => y ++ pw y n
theorem pw_add (y : Wd) (m n : Nat) : pw y (m + n) = pw y m ++ pw y n := by
  induction m with
  | zero => simp [pw]
  | succ m ih => rw [Nat.succ_add]; simp [pw, ih]
theorem pw_succ' (y : Wd) (n : Nat) : pw y (n + 1) = pw y n ++ y := by
  have := pw_add y n 1; simpa [pw] using this
theorem pw_mul (y : Wd) (m n : Nat) : pw (pw y m) n = pw y (m * n) := by
  induction n with
  | zero => simp [pw]
  | succ n ih => rw [pw, ih, Nat.mul_succ, Nat.add_comm, pw_add]
theorem Ov.pw {ls y : Wd} (h : Ov ls y) : ∀ n, Ov ls (pw y n)
  | 0 => .nil
  | n + 1 => h.app (Ov.pw h n)
theorem pw_len (y : Wd) (n : Nat) : (pw y n).length = n * y.length := by
  induction n with
  | zero => simp [pw]
  | succ n ih => rw [pw, List.length_append, ih, Nat.succ_mul, Nat.add_comm]

/-! ### pigeonhole -/
theorem nodup_le {α : Type} [BEq α] [LawfulBEq α] : ∀ (l1 l2 : List α), l1.Nodup → (∀ x ∈ l1, x ∈ l2) → l1.length ≤ l2.length
  | [], _, _, _ => Nat.zero_le _
  | a :: l, l2, hn, hs => by
    have hn' := List.nodup_cons.mp hn
    have ha := hs a List.mem_cons_self
    have := nodup_le l (l2.erase a) hn'.2 fun x hx => by
      have hne : x ≠ a := fun e => hn'.1 (e ▸ hx)
      exact (List.mem_erase_of_ne hne).mpr (hs x (List.mem_cons_of_mem _ hx))
    rw [List.length_erase_of_mem ha] at this
    have := List.length_pos_of_mem ha
    simp only [List.length_cons]; omega
theorem not_nodup {α : Type} {l : List α} (h : ¬ l.Nodup) : ∃ (i j : Nat) (x : α), i < j ∧ l[i]? = some x ∧ l[j]? = some x := by
  apply Classical.byContradiction
  intro hc
  apply h
  unfold List.Nodup
  rw [List.pairwise_iff_getElem]
  intro i j hi hj hij e
  exact hc ⟨i, j, l[i], hij, List.getElem?_eq_getElem hi, by rw [List.getElem?_eq_getElem hj, e]⟩
def lists (n : Nat) : Nat → List (List Nat)
  | 0 => [[]]
  | k + 1 => (lists n k).flatMap fun l => (List.range n).map (· :: l)
theorem mem_lists {n : Nat} : ∀ {k : Nat} {l : List Nat}, l.length = k → (∀ x ∈ l, x < n) → l ∈ lists n k
  | 0, [], _, _ => by simp [lists]
  | k + 1, a :: l, h, hs => by
    rw [lists, List.mem_flatMap]
    exact ⟨l, mem_lists (by simpa using h) fun x hx => hs x (List.mem_cons_of_mem _ hx), List.mem_map.mpr ⟨a, List.mem_range.mpr (hs a List.mem_cons_self), rfl⟩⟩
theorem lists_len (n k : Nat) : (lists n k).length = n ^ k := by
  induction k with
  | zero => rfl
  | succ k ih =>
    rw [lists, List.length_flatMap]
    have : ((lists n k).map fun l => ((List.range n).map (· :: l)).length) = (lists n k).map fun _ => n := by
      apply List.map_congr_left; intro l _; simp
    rw [this, List.map_const', List.sum_replicate_nat, ih, Nat.pow_succ]
/-- a sequence into a finite list comes twice to the same -/
theorem pigeon {α : Type} [BEq α] [LawfulBEq α] (l : List α) (f : Nat → α) (h : ∀ i, f i ∈ l) : ∃ i j, i < j ∧ f i = f j := by
  have hn : ¬ ((List.range (l.length + 1)).map f).Nodup := fun hn => by
    have := nodup_le _ l hn fun x hx => by
      obtain ⟨i, _, rfl⟩ := List.mem_map.mp hx
      exact h i
    rw [List.length_map, List.length_range] at this; omega
  obtain ⟨i, j, x, hij, h1, h2⟩ := not_nodup hn
  rw [List.getElem?_map] at h1 h2
  cases e1 : (List.range (l.length + 1))[i]? with
  | none => rw [e1] at h1; cases h1
  | some a =>
    cases e2 : (List.range (l.length + 1))[j]? with
    | none => rw [e2] at h2; cases h2
    | some b =>
      rw [e1] at h1; rw [e2] at h2
      have ha := (List.getElem?_eq_some_iff.mp e1); have hb := (List.getElem?_eq_some_iff.mp e2)
      obtain ⟨_, ha⟩ := ha; obtain ⟨_, hb⟩ := hb
      rw [List.getElem_range] at ha hb
      subst ha; subst hb
      exact ⟨i, j, hij, (Option.some.inj h1).trans (Option.some.inj h2).symm⟩

/-! ### languages -/
inductive Kd | few | starts | ends | counts | subwords | falling | starfree | turning
deriving DecidableEq
def Nq (ls : Wd) (L : Lang) (u v : Wd) : Prop := ∀ w, Ov ls w → L (u ++ w) = L (v ++ w)
def Sy (ls : Wd) (L : Lang) (p q : Wd) : Prop := ∀ u v, Ov ls u → Ov ls v → L (u ++ (p ++ v)) = L (u ++ (q ++ v))
def Fall (ls : Wd) (L : Lang) : Prop := ∃ u x y, Ov ls u ∧ x ∈ ls ∧ Ov ls y ∧ ¬ Nq ls L (u ++ [x]) u ∧ Nq ls L (u ++ (x :: y)) u
def Left (ls : Wd) (L : Lang) : Prop := ∃ p x y, Ov ls p ∧ Ov ls x ∧ y ∈ ls ∧ ¬ Sy ls L (y :: p) p ∧ Sy ls L (x ++ (y :: p)) p
def Cond (ls : Wd) (L : Lang) : Kd → Prop
  | .few => ∀ d : Bool, ∃ u y v, Ov ls u ∧ Ov ls y ∧ Ov ls v ∧ y ≠ [] ∧ Nq ls L (u ++ y) u ∧ L (u ++ v) = d
  | .starts => ∃ u y v w, Ov ls u ∧ Ov ls y ∧ Ov ls v ∧ Ov ls w ∧ y ≠ [] ∧ Nq ls L (u ++ y) u ∧ L (u ++ v) = true ∧ L (u ++ w) = false
  | .ends => ∃ u v y, Ov ls u ∧ Ov ls v ∧ Ov ls y ∧ y ≠ [] ∧ ¬ Nq ls L u v ∧ Nq ls L (u ++ y) u ∧ Nq ls L (v ++ y) v
  | .counts => ∃ u x y, Ov ls u ∧ x ∈ ls ∧ y ∈ ls ∧ ¬ Nq ls L (u ++ [x, y]) (u ++ [y, x])
  | .subwords => Fall ls L ∨ Left ls L
  | .falling => Fall ls L
  | .starfree => ∃ u w, Ov ls u ∧ Ov ls w ∧ ∀ i, ¬ Nq ls L (u ++ pw w i) (u ++ pw w (i + 1))
  | .turning => ∃ u x, Ov ls u ∧ x ∈ ls ∧ ∀ i, ¬ Nq ls L (u ++ pw [x] (i + 1)) u
def Great (ls : Wd) (L : Lang) : Prop := ∃ ws : List Wd, ws.length = 201 ∧ (∀ w ∈ ws, Ov ls w) ∧ ws.Pairwise fun p q => ¬ Sy ls L p q
section
variable {ls : Wd} {L L' : Lang} {c : Bool}
/-- the same set, or all other words -/
def Twin (ls : Wd) (c : Bool) (L L' : Lang) : Prop := ∀ w, Ov ls w → L' w = (c ^^ L w)
theorem Twin.symm (h : Twin ls c L L') : Twin ls c L' L := fun w hw => by rw [h w hw]; cases c <;> cases L w <;> rfl
theorem Twin.nq (h : Twin ls c L L') {u v : Wd} (hu : Ov ls u) (hv : Ov ls v) : Nq ls L u v ↔ Nq ls L' u v := by
  unfold Nq
  refine forall_congr' fun w => forall_congr' fun hw => ?_
  rw [h _ (hu.app hw), h _ (hv.app hw)]
  cases c <;> cases L (u ++ w) <;> cases L (v ++ w) <;> simp
theorem Twin.sy (h : Twin ls c L L') {p q : Wd} (hp : Ov ls p) (hq : Ov ls q) : Sy ls L p q ↔ Sy ls L' p q := by
  unfold Sy
  refine forall_congr' fun u => forall_congr' fun v => forall_congr' fun hu => forall_congr' fun hv => ?_
  rw [h _ (hu.app (hp.app hv)), h _ (hu.app (hq.app hv))]
  cases c <;> cases L (u ++ (p ++ v)) <;> cases L (u ++ (q ++ v)) <;> simp
theorem Twin.fall (h : Twin ls c L L') : Fall ls L → Fall ls L' := fun ⟨u, x, y, hu, hx, hy, h1, h2⟩ =>
  ⟨u, x, y, hu, hx, hy, fun z => h1 ((h.nq (hu.app (.one hx)) hu).mpr z), (h.nq (hu.app (.cons hx hy)) hu).mp h2⟩
theorem Twin.left (h : Twin ls c L L') : Left ls L → Left ls L' := fun ⟨p, x, y, hp, hx, hy, h1, h2⟩ =>
  ⟨p, x, y, hp, hx, hy, fun z => h1 ((h.sy (.cons hy hp) hp).mpr z), (h.sy (hx.app (.cons hy hp)) hp).mp h2⟩
theorem Twin.cond (h : Twin ls c L L') (k : Kd) : Cond ls L k → Cond ls L' k := by
  cases k with
  | few =>
    intro H d
    obtain ⟨u, y, v, hu, hy, hv, h0, h1, h2⟩ := H (c ^^ d)
    exact ⟨u, y, v, hu, hy, hv, h0, (h.nq (hu.app hy) hu).mp h1, by rw [h _ (hu.app hv), h2]; cases c <;> cases d <;> rfl⟩
  | starts =>
    rintro ⟨u, y, v, w, hu, hy, hv, hw, h0, h1, h2, h3⟩
    have e1 := h _ (hu.app hv); have e2 := h _ (hu.app hw)
    rw [h2] at e1; rw [h3] at e2
    cases c with
    | false => exact ⟨u, y, v, w, hu, hy, hv, hw, h0, (h.nq (hu.app hy) hu).mp h1, e1, e2⟩
    | true => exact ⟨u, y, w, v, hu, hy, hw, hv, h0, (h.nq (hu.app hy) hu).mp h1, e2, e1⟩
  | ends =>
    rintro ⟨u, v, y, hu, hv, hy, h0, h1, h2, h3⟩
    exact ⟨u, v, y, hu, hv, hy, h0, fun z => h1 ((h.nq hu hv).mpr z), (h.nq (hu.app hy) hu).mp h2, (h.nq (hv.app hy) hv).mp h3⟩
  | counts =>
    rintro ⟨u, x, y, hu, hx, hy, h1⟩
    exact ⟨u, x, y, hu, hx, hy, fun z => h1 ((h.nq (hu.app (.cons hx (.one hy))) (hu.app (.cons hy (.one hx)))).mpr z)⟩
  | subwords => exact fun z => z.elim (fun a => .inl (h.fall a)) fun a => .inr (h.left a)
  | falling => exact h.fall
  | starfree =>
    rintro ⟨u, w, hu, hw, h1⟩
    exact ⟨u, w, hu, hw, fun i z => h1 i ((h.nq (hu.app (hw.pw _)) (hu.app (hw.pw _))).mpr z)⟩
  | turning =>
    rintro ⟨u, x, hu, hx, h1⟩
    exact ⟨u, x, hu, hx, fun i z => h1 i ((h.nq (hu.app ((Ov.one hx).pw _)) hu).mpr z)⟩
theorem Twin.great (h : Twin ls c L L') : Great ls L → Great ls L' := fun ⟨ws, h1, h2, h3⟩ =>
  ⟨ws, h1, h2, h3.imp_of_mem fun ha hb n z => n ((h.sy (h2 _ ha) (h2 _ hb)).mpr z)⟩
/-- what is left behind b -/
def Quo (ls : Wd) (b : Wd) (L L' : Lang) : Prop := ∀ w, Ov ls w → L' w = L (b ++ w)
variable {b : Wd}
theorem Quo.nq (h : Quo ls b L L') {u v : Wd} (hu : Ov ls u) (hv : Ov ls v) : Nq ls L (b ++ u) (b ++ v) ↔ Nq ls L' u v := by
  unfold Nq
  refine forall_congr' fun w => forall_congr' fun hw => ?_
  rw [h _ (hu.app hw), h _ (hv.app hw), List.append_assoc, List.append_assoc]
theorem Quo.sy (h : Quo ls b L L') (hb : Ov ls b) {p q : Wd} (hp : Ov ls p) (hq : Ov ls q) (s : Sy ls L p q) : Sy ls L' p q := fun u v hu hv => by
  rw [h _ (hu.app (hp.app hv)), h _ (hu.app (hq.app hv))]
  have := s (b ++ u) v (hb.app hu) hv
  simpa [List.append_assoc] using this
theorem Quo.great (h : Quo ls b L L') (hb : Ov ls b) : Great ls L' → Great ls L := fun ⟨ws, h1, h2, h3⟩ =>
  ⟨ws, h1, h2, h3.imp_of_mem fun ha hc n z => n (h.sy hb (h2 _ ha) (h2 _ hc) z)⟩
theorem Sy.refl {p : Wd} : Sy ls L p p := fun _ _ _ _ => rfl
theorem Sy.trans {p q r : Wd} (a : Sy ls L p q) (c : Sy ls L q r) : Sy ls L p r := fun u v hu hv => (a u v hu hv).trans (c u v hu hv)
theorem Sy.symm {p q : Wd} (a : Sy ls L p q) : Sy ls L q p := fun u v hu hv => (a u v hu hv).symm
theorem Sy.ctx {p q a : Wd} (s : Sy ls L p q) (ha : Ov ls a) : Sy ls L (a ++ p) (a ++ q) := fun u v hu hv => by
  have := s (u ++ a) v (hu.app ha) hv
  simpa [List.append_assoc] using this
/-- finitely many classes of words -/
def FinSy (ls : Wd) (L : Lang) : Prop := ∀ f : Nat → Wd, (∀ i, Ov ls (f i)) → ∃ i j, i < j ∧ Sy ls L (f i) (f j)
theorem left_lift (h : Quo ls b L L') (hb : Ov ls b) (fs : FinSy ls L) : Left ls L' → Left ls L := fun ⟨p, x, y, hp, hx, hy, h1, h2⟩ => by
  have hxy : Ov ls (x ++ [y]) := hx.app (.one hy)
  obtain ⟨i, j, hij, hs⟩ := fs (fun i => pw (x ++ [y]) i ++ p) fun i => (hxy.pw i).app hp
  have hall : ∀ i, Sy ls L' (pw (x ++ [y]) i ++ p) p := fun i => by
    induction i with
    | zero => exact .refl
    | succ i ih =>
      have e : pw (x ++ [y]) (i + 1) ++ p = (x ++ [y]) ++ (pw (x ++ [y]) i ++ p) := by simp [pw, List.append_assoc]
      rw [e]
      refine (ih.ctx hxy).trans ?_
      have e2 : (x ++ [y]) ++ p = x ++ (y :: p) := by simp
      rw [e2]; exact h2
  have hP := (hxy.pw i).app hp
  obtain ⟨k, rfl⟩ : ∃ k, j = k + 1 + i := ⟨j - 1 - i, by omega⟩
  refine ⟨pw (x ++ [y]) i ++ p, pw (x ++ [y]) k ++ x, y, hP, (hxy.pw k).app hx, hy, fun z => h1 ?_, ?_⟩
  · have z' := h.sy hb (.cons hy hP) hP z
    have a1 : Sy ls L' (y :: (pw (x ++ [y]) i ++ p)) (y :: p) := (hall i).ctx (a := [y]) (.one hy)
    exact a1.symm.trans (z'.trans (hall i))
  · have e : (pw (x ++ [y]) k ++ x) ++ (y :: (pw (x ++ [y]) i ++ p)) = pw (x ++ [y]) (k + 1 + i) ++ p := by
      rw [pw_add, pw_succ']; simp [List.append_assoc]
    rw [e]; exact hs.symm
theorem Quo.cond (h : Quo ls b L L') (hb : Ov ls b) (fs : FinSy ls L) (k : Kd) : Cond ls L' k → Cond ls L k := by
  have nl : ∀ {u v : Wd}, Ov ls u → Ov ls v → Nq ls L' u v → Nq ls L (b ++ u) (b ++ v) := fun hu hv z => (h.nq hu hv).mpr z
  have hf : Fall ls L' → Fall ls L := by
    rintro ⟨u, x, y, hu, hx, hy, h1, h2⟩
    refine ⟨b ++ u, x, y, hb.app hu, hx, hy, fun z => h1 ((h.nq (hu.app (.one hx)) hu).mp (by rw [← List.append_assoc]; exact z)), ?_⟩
    rw [List.append_assoc]; exact nl (hu.app (.cons hx hy)) hu h2
  cases k with
  | few =>
    intro H d
    obtain ⟨u, y, v, hu, hy, hv, h0, h1, h2⟩ := H d
    exact ⟨b ++ u, y, v, hb.app hu, hy, hv, h0, by rw [List.append_assoc]; exact nl (hu.app hy) hu h1, by rw [List.append_assoc, ← h _ (hu.app hv)]; exact h2⟩
  | starts =>
    rintro ⟨u, y, v, w, hu, hy, hv, hw, h0, h1, h2, h3⟩
    exact ⟨b ++ u, y, v, w, hb.app hu, hy, hv, hw, h0, by rw [List.append_assoc]; exact nl (hu.app hy) hu h1, by rw [List.append_assoc, ← h _ (hu.app hv)]; exact h2, by rw [List.append_assoc, ← h _ (hu.app hw)]; exact h3⟩
  | ends =>
    rintro ⟨u, v, y, hu, hv, hy, h0, h1, h2, h3⟩
    exact ⟨b ++ u, b ++ v, y, hb.app hu, hb.app hv, hy, h0, fun z => h1 ((h.nq hu hv).mp z), by rw [List.append_assoc]; exact nl (hu.app hy) hu h2, by rw [List.append_assoc]; exact nl (hv.app hy) hv h3⟩
  | counts =>
    rintro ⟨u, x, y, hu, hx, hy, h1⟩
    exact ⟨b ++ u, x, y, hb.app hu, hx, hy, fun z => h1 ((h.nq (hu.app (.cons hx (.one hy))) (hu.app (.cons hy (.one hx)))).mp (by rw [← List.append_assoc, ← List.append_assoc]; exact z))⟩
  | subwords => exact fun z => z.elim (fun a => .inl (hf a)) fun a => .inr (left_lift h hb fs a)
  | falling => exact hf
  | starfree =>
    rintro ⟨u, w, hu, hw, h1⟩
    exact ⟨b ++ u, w, hb.app hu, hw, fun i z => h1 i ((h.nq (hu.app (hw.pw _)) (hu.app (hw.pw _))).mp (by rw [← List.append_assoc, ← List.append_assoc]; exact z))⟩
  | turning =>
    rintro ⟨u, x, hu, hx, h1⟩
    exact ⟨b ++ u, x, hb.app hu, hx, fun i z => h1 i ((h.nq (hu.app ((Ov.one hx).pw _)) hu).mp (by rw [← List.append_assoc]; exact z))⟩
end

/-! ### swings -/
inductive Sg
  | few (u y v s z t : Wd)
  | starts (u y v w : Wd)
  | ends (u v y w : Wd)
  | counts (u x y v : Wd)
  | subwords (right first : Bool) (u x y v : Wd)
  | falling (first : Bool) (u x y v : Wd)
  | starfree (u y v : Wd) (p : Nat)
  | turning (first : Bool) (u y v : Wd)
abbrev W3 := Wd × Wd × Wd
def flipIf (first : Bool) (p : W3 × W3) : W3 × W3 := if first then p else (p.2, p.1)
def Sg.parts : Sg → W3 × W3
  | .few u y v s z t => ((u, y, v), (s, z, t))
  | .starts u y v w => ((u, y, v), (u, y, w))
  | .ends u v y w => ((u, y, w), (v, y, w))
  | .counts u x y v => ((u ++ x ++ y ++ v, [], []), (u ++ y ++ x ++ v, [], []))
  | .subwords right first u x y v => flipIf first ((u, x ++ y, v), if right then (u, x ++ y, x ++ v) else (u ++ y, x ++ y, v))
  | .falling first u x y v => flipIf first ((u, x ++ y, v), (u, x ++ y, x ++ v))
  | .starfree u y v p => ((u, pw y p, v), (u, pw y p, y ++ v))
  | .turning first u y v => flipIf first ((u ++ v, [], []), (u, y, v))
def Sg.kd : Sg → Kd
  | .few .. => .few | .starts .. => .starts | .ends .. => .ends | .counts .. => .counts
  | .subwords .. => .subwords | .falling .. => .falling | .starfree .. => .starfree | .turning .. => .turning
def Wk (ls w : Wd) (m : Nat) : Prop := Ov ls w ∧ w.length ≤ m
/-- well formed, its words of at most m signs -/
def Sg.ok (ls : Wd) (m : Nat) : Sg → Prop
  | .few u y v s z t => Wk ls u m ∧ Wk ls y m ∧ y ≠ [] ∧ Wk ls v m ∧ Wk ls s m ∧ Wk ls z m ∧ z ≠ [] ∧ Wk ls t m
  | .starts u y v w => Wk ls u m ∧ Wk ls y m ∧ y ≠ [] ∧ Wk ls v m ∧ Wk ls w m
  | .ends u v y w => Wk ls u m ∧ Wk ls v m ∧ Wk ls y m ∧ y ≠ [] ∧ Wk ls w m
  | .counts u x y v => Wk ls u m ∧ Wk ls x m ∧ x ≠ [] ∧ Wk ls y m ∧ y ≠ [] ∧ Wk ls v m
  | .subwords _ _ u x y v => Wk ls u m ∧ Wk ls x m ∧ Wk ls y m ∧ y ≠ [] ∧ Wk ls v m
  | .falling _ u x y v => Wk ls u m ∧ Wk ls x m ∧ Wk ls y m ∧ y ≠ [] ∧ Wk ls v m
  | .starfree u y v p => Wk ls u m ∧ Wk ls y m ∧ y ≠ [] ∧ Wk ls v m ∧ 2 ≤ p ∧ p ≤ 60
  | .turning _ u y v => Wk ls u m ∧ Wk ls y m ∧ y ≠ [] ∧ Wk ls v m
def at3 (t : W3) (n : Nat) : Wd := t.1 ++ (pw t.2.1 n ++ t.2.2)
def ShowsL (L : Lang) (g : Sg) : Prop := ∀ n, 1 ≤ n → L (at3 g.parts.1 n) = true ∧ L (at3 g.parts.2 n) = false
def Sg.turn : Sg → Sg
  | .few u y v s z t => .few s z t u y v
  | .starts u y v w => .starts u y w v
  | .ends u v y w => .ends v u y w
  | .counts u x y v => .counts u y x v
  | .subwords r f u x y v => .subwords r (!f) u x y v
  | .falling f u x y v => .falling (!f) u x y v
  | .starfree u y v p => .starfree u y v p
  | .turning f u y v => .turning (!f) u y v
def Sg.lead (b : Wd) : Sg → Sg
  | .few u y v s z t => .few (b ++ u) y v (b ++ s) z t
  | .starts u y v w => .starts (b ++ u) y v w
  | .ends u v y w => .ends (b ++ u) (b ++ v) y w
  | .counts u x y v => .counts (b ++ u) x y v
  | .subwords r f u x y v => .subwords r f (b ++ u) x y v
  | .falling f u x y v => .falling f (b ++ u) x y v
  | .starfree u y v p => .starfree (b ++ u) y v p
  | .turning f u y v => .turning f (b ++ u) y v
theorem Wk.mono {ls w : Wd} {m m' : Nat} (h : Wk ls w m) (hm : m ≤ m') : Wk ls w m' := ⟨h.1, Nat.le_trans h.2 hm⟩
theorem Sg.ok_mono {ls : Wd} {m m' : Nat} {g : Sg} (h : g.ok ls m) (hm : m ≤ m') : g.ok ls m' := by
  have hk : ∀ w, Wk ls w m → Wk ls w m' := fun w h => h.mono hm
  cases g <;> simp only [Sg.ok] at h ⊢ <;> simp_all
theorem flip_not (f : Bool) (p : W3 × W3) : flipIf (!f) p = ((flipIf f p).2, (flipIf f p).1) := by cases f <;> rfl
theorem turn_parts {g : Sg} (h : g.kd ≠ .starfree) : g.turn.parts = (g.parts.2, g.parts.1) := by
  cases g <;> first | rfl | exact flip_not _ _ | exact absurd rfl h
theorem turn_ok {ls : Wd} {m : Nat} {g : Sg} (h : g.ok ls m) : g.turn.ok ls m := by
  cases g <;> simp only [Sg.ok, Sg.turn] at h ⊢ <;> simp [h]
theorem lead_ok {ls b : Wd} {m : Nat} {g : Sg} (hb : Ov ls b) (h : g.ok ls m) : (g.lead b).ok ls (b.length + m) := by
  have hw : ∀ w, Wk ls w m → Wk ls (b ++ w) (b.length + m) := fun w h => ⟨hb.app h.1, by rw [List.length_append]; exact Nat.add_le_add_left h.2 _⟩
  have hk : ∀ w, Wk ls w m → Wk ls w (b.length + m) := fun w h => h.mono (Nat.le_add_left _ _)
  cases g <;> simp only [Sg.ok, Sg.lead] at h ⊢ <;> simp_all
theorem lead_parts (b : Wd) (g : Sg) (n : Nat) : at3 (g.lead b).parts.1 n = b ++ at3 g.parts.1 n ∧ at3 (g.lead b).parts.2 n = b ++ at3 g.parts.2 n := by
  cases g with
  | subwords r f u x y v => cases r <;> cases f <;> simp [Sg.lead, Sg.parts, at3, flipIf, List.append_assoc]
  | falling f u x y v => cases f <;> simp [Sg.lead, Sg.parts, at3, flipIf, List.append_assoc]
  | turning f u y v => cases f <;> simp [Sg.lead, Sg.parts, at3, flipIf, List.append_assoc]
  | _ => simp [Sg.lead, Sg.parts, at3, List.append_assoc]
theorem parts_ov {ls : Wd} {m : Nat} {g : Sg} (h : g.ok ls m) : (Ov ls g.parts.1.1 ∧ Ov ls g.parts.1.2.1 ∧ Ov ls g.parts.1.2.2) ∧ (Ov ls g.parts.2.1 ∧ Ov ls g.parts.2.2.1 ∧ Ov ls g.parts.2.2.2) := by
  cases g with
  | few u y v s z t => obtain ⟨h1, h2, _, h3, h4, h5, _, h6⟩ := h; exact ⟨⟨h1.1, h2.1, h3.1⟩, h4.1, h5.1, h6.1⟩
  | starts u y v w => obtain ⟨h1, h2, _, h3, h4⟩ := h; exact ⟨⟨h1.1, h2.1, h3.1⟩, h1.1, h2.1, h4.1⟩
  | ends u v y w => obtain ⟨h1, h2, h3, _, h4⟩ := h; exact ⟨⟨h1.1, h3.1, h4.1⟩, h2.1, h3.1, h4.1⟩
  | counts u x y v => obtain ⟨h1, h2, _, h3, _, h4⟩ := h; exact ⟨⟨((h1.1.app h2.1).app h3.1).app h4.1, .nil, .nil⟩, ((h1.1.app h3.1).app h2.1).app h4.1, .nil, .nil⟩
  | subwords r f u x y v =>
    obtain ⟨h1, h2, h3, _, h4⟩ := h
    have a := h2.1.app h3.1; have b := h2.1.app h4.1; have c := h1.1.app h3.1
    cases r <;> cases f <;> simp only [Sg.parts, flipIf] <;> simp [a, b, c, h1.1, h4.1]
  | falling f u x y v =>
    obtain ⟨h1, h2, h3, _, h4⟩ := h
    have a := h2.1.app h3.1; have b := h2.1.app h4.1
    cases f <;> simp only [Sg.parts, flipIf] <;> simp [a, b, h1.1, h4.1]
  | starfree u y v p => obtain ⟨h1, h2, _, h3, _⟩ := h; exact ⟨⟨h1.1, h2.1.pw _, h3.1⟩, h1.1, h2.1.pw _, h2.1.app h3.1⟩
  | turning f u y v =>
    obtain ⟨h1, h2, _, h3⟩ := h
    have a := h1.1.app h3.1
    cases f <;> simp only [Sg.parts, flipIf] <;> simp [a, h1.1, h2.1, h3.1, Ov.nil]
theorem at3_ov {ls : Wd} {t : W3} (h : Ov ls t.1 ∧ Ov ls t.2.1 ∧ Ov ls t.2.2) (n : Nat) : Ov ls (at3 t n) := h.1.app ((h.2.1.pw n).app h.2.2)
section
variable {ls b : Wd} {L L' : Lang} {g : Sg} {m : Nat}
theorem shows_same (h : Twin ls false L L') (hg : g.ok ls m) (s : ShowsL L g) : ShowsL L' g := fun n hn => by
  obtain ⟨a, b⟩ := parts_ov hg
  rw [h _ (at3_ov a n), h _ (at3_ov b n), (s n hn).1, (s n hn).2]; exact ⟨rfl, rfl⟩
theorem shows_turn (h : Twin ls true L L') (hg : g.ok ls m) (hk : g.kd ≠ .starfree) (s : ShowsL L g) : ShowsL L' g.turn := fun n hn => by
  obtain ⟨a, b⟩ := parts_ov hg
  rw [turn_parts hk, h _ (at3_ov a n), h _ (at3_ov b n), (s n hn).1, (s n hn).2]; exact ⟨rfl, rfl⟩
theorem shows_not (h : Twin ls true L L') (hg : g.ok ls m) (s : ShowsL L g) : ¬ ShowsL L' g := fun z => by
  have e := (z 1 (Nat.le_refl _)).1
  rw [h _ (at3_ov (parts_ov hg).1 1), (s 1 (Nat.le_refl _)).1] at e; cases e
theorem shows_lead (h : Quo ls b L L') (hg : g.ok ls m) (s : ShowsL L' g) : ShowsL L (g.lead b) := fun n hn => by
  obtain ⟨a, c⟩ := parts_ov hg
  rw [(lead_parts b g n).1, (lead_parts b g n).2, ← h _ (at3_ov a n), ← h _ (at3_ov c n)]; exact s n hn
end
/-- what a swing's search tells -/
inductive Ans
  | great
  | none
  | some (g : Sg)
def Tells (ls : Wd) (L : Lang) (k : Kd) : Ans → Prop
  | .great => (k = .subwords ∨ k = .starfree) ∧ Great ls L
  | .none => ¬ Cond ls L k ∧ ¬ ((k = .subwords ∨ k = .starfree) ∧ Great ls L)
  | .some g => Cond ls L k ∧ ¬ ((k = .subwords ∨ k = .starfree) ∧ Great ls L) ∧ g.kd = k ∧ g.ok ls 3900 ∧ ShowsL L g
end Sw
/-! The text by places; names of kinds, forms of swings. -/
namespace Sw
open PySem PySem.Spec PyProof.Rows L2 LamX NdefX
def top (i : Nat) : Stmt := PySem.Challenge.pw_swingwords_k65_whole_swings_led_along.main.body.getD i (.Pass ⟨0, 0, 0, 0⟩)
abbrev s_is_number : Stmt := top 14
abbrev s_is_letters : Stmt := top 15
abbrev s_need_letters : Stmt := top 16
abbrev s_is_word_to : Stmt := top 17
abbrev s_is_word : Stmt := top 18
abbrev s_need_word : Stmt := top 19
abbrev s_is_stand : Stmt := top 22
abbrev s_Machine_init : Stmt := inClass (top 23) 0
abbrev s_Machine_letters : Stmt := inClass (top 23) 1
abbrev s_Machine_rows : Stmt := inClass (top 23) 2
abbrev s_Machine_behind : Stmt := inClass (top 23) 3
abbrev s_gone_through : Stmt := top 24
abbrev s_classed : Stmt := top 25
abbrev s_least_rows : Stmt := top 26
abbrev s_built : Stmt := top 27
abbrev s_firsts : Stmt := top 28
abbrev s_least : Stmt := top 29
abbrev s_Algebra_init : Stmt := inClass (top 32) 0
abbrev s_Algebra_led_on : Stmt := inClass (top 32) 1
abbrev s_Algebra_len : Stmt := inClass (top 32) 2
abbrev s_Algebra_need_element : Stmt := inClass (top 32) 3
abbrev s_Algebra_letters : Stmt := inClass (top 32) 4
abbrev s_Algebra_words : Stmt := inClass (top 32) 6
abbrev s_Algebra_element : Stmt := inClass (top 32) 7
abbrev s_Algebra_product : Stmt := inClass (top 32) 8
abbrev s_Algebra_times : Stmt := inClass (top 32) 9
abbrev s_next_of : Stmt := top 34
abbrev s_ends_of : Stmt := top 35
abbrev s_walked : Stmt := top 37
abbrev s_all_but : Stmt := top 38
abbrev s_left_behind : Stmt := top 39
abbrev s_may_stand : Stmt := top 45
abbrev s_is_swing : Stmt := top 46
abbrev s_swing_parts : Stmt := top 47
abbrev s_led_about : Stmt := top 48
abbrev s_Walks_init : Stmt := inClass (top 49) 0
abbrev s_Walks_moved : Stmt := inClass (top 49) 1
abbrev s_Walks_word_from : Stmt := inClass (top 49) 2
abbrev s_Walks_round_of : Stmt := inClass (top 49) 3
abbrev s_Walks_ends : Stmt := inClass (top 49) 4
abbrev s_Walks_to_end : Stmt := inClass (top 49) 5
abbrev s_Walks_parting : Stmt := inClass (top 49) 6
abbrev s_Walks_all_stands : Stmt := inClass (top 49) 7
abbrev s_few_swing : Stmt := top 50
abbrev s_starts_swing : Stmt := top 51
abbrev s_ends_swing : Stmt := top 52
abbrev s_counts_swing : Stmt := top 53
abbrev s_falling_swing : Stmt := top 54
abbrev s_led_ahead : Stmt := top 55
abbrev s_on_rounds : Stmt := top 56
abbrev s_word_ahead : Stmt := top 57
abbrev s_stand_apart : Stmt := top 58
abbrev s_subwords_swing : Stmt := top 59
abbrev s_round_by : Stmt := top 60
abbrev s_starfree_swing : Stmt := top 61
abbrev s_turning_swing : Stmt := top 62
abbrev s_swing : Stmt := top 63
abbrev s_walked_to : Stmt := top 66
abbrev s_is_in : Stmt := top 67
abbrev s_shows : Stmt := top 68
abbrev s_q_begun : Stmt := top 70
abbrev s_q_mixed : Stmt := top 71
abbrev s_q_take : Stmt := top 72
abbrev s_q_pick : Stmt := top 73
abbrev s_q_abc : Stmt := top 74
abbrev s_q_token : Stmt := top 75
abbrev s_q_table : Stmt := top 76
abbrev s_q_drawn_table : Stmt := top 77
abbrev s_q_asked : Stmt := top 78
abbrev s_q_turned : Stmt := top 79
abbrev s_q_ahead : Stmt := top 80
abbrev s_law : Stmt := top 81
def S (w : Wd) : Str := ⟨w.toArray⟩
abbrev VS (w : Wd) : V := .str (S w)
def kdN : Kd → Str
  | .few => "few" | .starts => "starts" | .ends => "ends" | .counts => "counts" | .subwords => "subwords" | .falling => "falling" | .starfree => "starfree" | .turning => "turning"
def kds : List Kd := [.few, .starts, .ends, .counts, .subwords, .falling, .starfree, .turning]
def formOf : Kd → Wd
  | .few => [119, 121, 119, 119, 121, 119]
  | .starts => [119, 121, 119, 119]
  | .ends => [119, 119, 121, 119]
  | .counts => [119, 119, 121, 119]
  | .subwords => [115, 116, 119, 119, 121, 119]
  | .falling => [116, 119, 119, 121, 119]
  | .starfree => [119, 121, 119, 112]
  | .turning => [116, 119, 121, 119]
end Sw
/-! What the head is asked of the top. -/
namespace Sw
open PySem PySem.Spec PyProof.Rows L2 LamX NdefX
def D_is_number : He.DefD := ⟨("is_number", none), "is_number", "is_number", defArgs s_is_number, defBody s_is_number, defScope s_is_number, [], []⟩
def D_is_letters : He.DefD := ⟨("is_letters", none), "is_letters", "is_letters", defArgs s_is_letters, defBody s_is_letters, defScope s_is_letters, [], []⟩
def D_need_letters : He.DefD := ⟨("need_letters", none), "need_letters", "need_letters", defArgs s_need_letters, defBody s_need_letters, defScope s_need_letters, [], []⟩
def D_is_word_to : He.DefD := ⟨("is_word_to", none), "is_word_to", "is_word_to", defArgs s_is_word_to, defBody s_is_word_to, defScope s_is_word_to, [], []⟩
def D_is_word : He.DefD := ⟨("is_word", none), "is_word", "is_word", defArgs s_is_word, defBody s_is_word, defScope s_is_word, [], []⟩
def D_need_word : He.DefD := ⟨("need_word", none), "need_word", "need_word", defArgs s_need_word, defBody s_need_word, defScope s_need_word, [], [("most", .int 20000)]⟩
def D_is_stand : He.DefD := ⟨("is_stand", none), "is_stand", "is_stand", defArgs s_is_stand, defBody s_is_stand, defScope s_is_stand, [], []⟩
def D_Machine_init : He.DefD := ⟨("Machine", some "__init__"), "__init__", "Machine.__init__", defArgs s_Machine_init, defBody s_Machine_init, defScope s_Machine_init, [], []⟩
def D_Machine_letters : He.DefD := ⟨("Machine", some "letters"), "letters", "Machine.letters", defArgs s_Machine_letters, defBody s_Machine_letters, defScope s_Machine_letters, [], []⟩
def D_Machine_rows : He.DefD := ⟨("Machine", some "rows"), "rows", "Machine.rows", defArgs s_Machine_rows, defBody s_Machine_rows, defScope s_Machine_rows, [], []⟩
def D_Machine_behind : He.DefD := ⟨("Machine", some "behind"), "behind", "Machine.behind", defArgs s_Machine_behind, defBody s_Machine_behind, defScope s_Machine_behind, [], [("stand", .int 0)]⟩
def D_gone_through : He.DefD := ⟨("gone_through", none), "gone_through", "gone_through", defArgs s_gone_through, defBody s_gone_through, defScope s_gone_through, [], []⟩
def D_classed : He.DefD := ⟨("classed", none), "classed", "classed", defArgs s_classed, defBody s_classed, defScope s_classed, [], []⟩
def D_least_rows : He.DefD := ⟨("least_rows", none), "least_rows", "least_rows", defArgs s_least_rows, defBody s_least_rows, defScope s_least_rows, [], []⟩
def D_built : He.DefD := ⟨("built", none), "built", "built", defArgs s_built, defBody s_built, defScope s_built, [], [("most", .int 60)]⟩
def D_firsts : He.DefD := ⟨("firsts", none), "firsts", "firsts", defArgs s_firsts, defBody s_firsts, defScope s_firsts, [], []⟩
def D_least : He.DefD := ⟨("least", none), "least", "least", defArgs s_least, defBody s_least, defScope s_least, [], []⟩
def D_Algebra_init : He.DefD := ⟨("Algebra", some "__init__"), "__init__", "Algebra.__init__", defArgs s_Algebra_init, defBody s_Algebra_init, defScope s_Algebra_init, [], []⟩
def D_Algebra_led_on : He.DefD := ⟨("Algebra", some "led_on"), "led_on", "Algebra.led_on", defArgs s_Algebra_led_on, defBody s_Algebra_led_on, defScope s_Algebra_led_on, [], []⟩
def D_Algebra_len : He.DefD := ⟨("Algebra", some "__len__"), "__len__", "Algebra.__len__", defArgs s_Algebra_len, defBody s_Algebra_len, defScope s_Algebra_len, [], []⟩
def D_Algebra_need_element : He.DefD := ⟨("Algebra", some "need_element"), "need_element", "Algebra.need_element", defArgs s_Algebra_need_element, defBody s_Algebra_need_element, defScope s_Algebra_need_element, [], []⟩
def D_Algebra_letters : He.DefD := ⟨("Algebra", some "letters"), "letters", "Algebra.letters", defArgs s_Algebra_letters, defBody s_Algebra_letters, defScope s_Algebra_letters, [], []⟩
def D_Algebra_words : He.DefD := ⟨("Algebra", some "words"), "words", "Algebra.words", defArgs s_Algebra_words, defBody s_Algebra_words, defScope s_Algebra_words, [], []⟩
def D_Algebra_element : He.DefD := ⟨("Algebra", some "element"), "element", "Algebra.element", defArgs s_Algebra_element, defBody s_Algebra_element, defScope s_Algebra_element, [], []⟩
def D_Algebra_product : He.DefD := ⟨("Algebra", some "product"), "product", "Algebra.product", defArgs s_Algebra_product, defBody s_Algebra_product, defScope s_Algebra_product, [], []⟩
def D_Algebra_times : He.DefD := ⟨("Algebra", some "times"), "times", "Algebra.times", defArgs s_Algebra_times, defBody s_Algebra_times, defScope s_Algebra_times, [], []⟩
def D_next_of : He.DefD := ⟨("next_of", none), "next_of", "next_of", defArgs s_next_of, defBody s_next_of, defScope s_next_of, [], []⟩
def D_ends_of : He.DefD := ⟨("ends_of", none), "ends_of", "ends_of", defArgs s_ends_of, defBody s_ends_of, defScope s_ends_of, [], []⟩
def D_walked : He.DefD := ⟨("walked", none), "walked", "walked", defArgs s_walked, defBody s_walked, defScope s_walked, [], []⟩
def D_all_but : He.DefD := ⟨("all_but", none), "all_but", "all_but", defArgs s_all_but, defBody s_all_but, defScope s_all_but, [], []⟩
def D_left_behind : He.DefD := ⟨("left_behind", none), "left_behind", "left_behind", defArgs s_left_behind, defBody s_left_behind, defScope s_left_behind, [], []⟩
def D_may_stand : He.DefD := ⟨("may_stand", none), "may_stand", "may_stand", defArgs s_may_stand, defBody s_may_stand, defScope s_may_stand, [], []⟩
def D_is_swing : He.DefD := ⟨("is_swing", none), "is_swing", "is_swing", defArgs s_is_swing, defBody s_is_swing, defScope s_is_swing, [], []⟩
def D_swing_parts : He.DefD := ⟨("swing_parts", none), "swing_parts", "swing_parts", defArgs s_swing_parts, defBody s_swing_parts, defScope s_swing_parts, [], []⟩
def D_led_about : He.DefD := ⟨("led_about", none), "led_about", "led_about", defArgs s_led_about, defBody s_led_about, defScope s_led_about, [], []⟩
def D_Walks_init : He.DefD := ⟨("Walks", some "__init__"), "__init__", "Walks.__init__", defArgs s_Walks_init, defBody s_Walks_init, defScope s_Walks_init, [], []⟩
def D_Walks_moved : He.DefD := ⟨("Walks", some "moved"), "moved", "Walks.moved", defArgs s_Walks_moved, defBody s_Walks_moved, defScope s_Walks_moved, [], []⟩
def D_Walks_word_from : He.DefD := ⟨("Walks", some "word_from"), "word_from", "Walks.word_from", defArgs s_Walks_word_from, defBody s_Walks_word_from, defScope s_Walks_word_from, [], []⟩
def D_Walks_round_of : He.DefD := ⟨("Walks", some "round_of"), "round_of", "Walks.round_of", defArgs s_Walks_round_of, defBody s_Walks_round_of, defScope s_Walks_round_of, [], []⟩
def D_Walks_ends : He.DefD := ⟨("Walks", some "ends"), "ends", "Walks.ends", defArgs s_Walks_ends, defBody s_Walks_ends, defScope s_Walks_ends, [], []⟩
def D_Walks_to_end : He.DefD := ⟨("Walks", some "to_end"), "to_end", "Walks.to_end", defArgs s_Walks_to_end, defBody s_Walks_to_end, defScope s_Walks_to_end, [], []⟩
def D_Walks_parting : He.DefD := ⟨("Walks", some "parting"), "parting", "Walks.parting", defArgs s_Walks_parting, defBody s_Walks_parting, defScope s_Walks_parting, [], []⟩
def D_Walks_all_stands : He.DefD := ⟨("Walks", some "all_stands"), "all_stands", "Walks.all_stands", defArgs s_Walks_all_stands, defBody s_Walks_all_stands, defScope s_Walks_all_stands, [], []⟩
def D_few_swing : He.DefD := ⟨("few_swing", none), "few_swing", "few_swing", defArgs s_few_swing, defBody s_few_swing, defScope s_few_swing, [], []⟩
def D_starts_swing : He.DefD := ⟨("starts_swing", none), "starts_swing", "starts_swing", defArgs s_starts_swing, defBody s_starts_swing, defScope s_starts_swing, [], []⟩
def D_ends_swing : He.DefD := ⟨("ends_swing", none), "ends_swing", "ends_swing", defArgs s_ends_swing, defBody s_ends_swing, defScope s_ends_swing, [], []⟩
def D_counts_swing : He.DefD := ⟨("counts_swing", none), "counts_swing", "counts_swing", defArgs s_counts_swing, defBody s_counts_swing, defScope s_counts_swing, [], []⟩
def D_falling_swing : He.DefD := ⟨("falling_swing", none), "falling_swing", "falling_swing", defArgs s_falling_swing, defBody s_falling_swing, defScope s_falling_swing, [], []⟩
def D_led_ahead : He.DefD := ⟨("led_ahead", none), "led_ahead", "led_ahead", defArgs s_led_ahead, defBody s_led_ahead, defScope s_led_ahead, [], []⟩
def D_on_rounds : He.DefD := ⟨("on_rounds", none), "on_rounds", "on_rounds", defArgs s_on_rounds, defBody s_on_rounds, defScope s_on_rounds, [], []⟩
def D_word_ahead : He.DefD := ⟨("word_ahead", none), "word_ahead", "word_ahead", defArgs s_word_ahead, defBody s_word_ahead, defScope s_word_ahead, [], []⟩
def D_stand_apart : He.DefD := ⟨("stand_apart", none), "stand_apart", "stand_apart", defArgs s_stand_apart, defBody s_stand_apart, defScope s_stand_apart, [], []⟩
def D_subwords_swing : He.DefD := ⟨("subwords_swing", none), "subwords_swing", "subwords_swing", defArgs s_subwords_swing, defBody s_subwords_swing, defScope s_subwords_swing, [], []⟩
def D_round_by : He.DefD := ⟨("round_by", none), "round_by", "round_by", defArgs s_round_by, defBody s_round_by, defScope s_round_by, [], []⟩
def D_starfree_swing : He.DefD := ⟨("starfree_swing", none), "starfree_swing", "starfree_swing", defArgs s_starfree_swing, defBody s_starfree_swing, defScope s_starfree_swing, [], []⟩
def D_turning_swing : He.DefD := ⟨("turning_swing", none), "turning_swing", "turning_swing", defArgs s_turning_swing, defBody s_turning_swing, defScope s_turning_swing, [], []⟩
def D_swing : He.DefD := ⟨("swing", none), "swing", "swing", defArgs s_swing, defBody s_swing, defScope s_swing, [], []⟩
def D_walked_to : He.DefD := ⟨("walked_to", none), "walked_to", "walked_to", defArgs s_walked_to, defBody s_walked_to, defScope s_walked_to, [], []⟩
def D_is_in : He.DefD := ⟨("is_in", none), "is_in", "is_in", defArgs s_is_in, defBody s_is_in, defScope s_is_in, [], []⟩
def D_shows : He.DefD := ⟨("shows", none), "shows", "shows", defArgs s_shows, defBody s_shows, defScope s_shows, [], []⟩
def D_q_begun : He.DefD := ⟨("_law_begun", none), "_law_begun", "_law_begun", defArgs s_q_begun, defBody s_q_begun, defScope s_q_begun, [], []⟩
def D_q_mixed : He.DefD := ⟨("_law_mixed", none), "_law_mixed", "_law_mixed", defArgs s_q_mixed, defBody s_q_mixed, defScope s_q_mixed, [], []⟩
def D_q_take : He.DefD := ⟨("_law_take", none), "_law_take", "_law_take", defArgs s_q_take, defBody s_q_take, defScope s_q_take, [], []⟩
def D_q_pick : He.DefD := ⟨("_law_pick", none), "_law_pick", "_law_pick", defArgs s_q_pick, defBody s_q_pick, defScope s_q_pick, [], []⟩
def D_q_abc : He.DefD := ⟨("_law_abc", none), "_law_abc", "_law_abc", defArgs s_q_abc, defBody s_q_abc, defScope s_q_abc, [], []⟩
def D_q_token : He.DefD := ⟨("_law_token", none), "_law_token", "_law_token", defArgs s_q_token, defBody s_q_token, defScope s_q_token, [], []⟩
def D_q_table : He.DefD := ⟨("_law_table", none), "_law_table", "_law_table", defArgs s_q_table, defBody s_q_table, defScope s_q_table, [], []⟩
def D_q_drawn_table : He.DefD := ⟨("_law_drawn_table", none), "_law_drawn_table", "_law_drawn_table", defArgs s_q_drawn_table, defBody s_q_drawn_table, defScope s_q_drawn_table, [], []⟩
def D_q_asked : He.DefD := ⟨("_law_asked", none), "_law_asked", "_law_asked", defArgs s_q_asked, defBody s_q_asked, defScope s_q_asked, [], []⟩
def D_q_turned : He.DefD := ⟨("_law_turned", none), "_law_turned", "_law_turned", defArgs s_q_turned, defBody s_q_turned, defScope s_q_turned, [], []⟩
def D_q_ahead : He.DefD := ⟨("_law_ahead", none), "_law_ahead", "_law_ahead", defArgs s_q_ahead, defBody s_q_ahead, defScope s_q_ahead, [], []⟩
def D_law : He.DefD := ⟨("law", none), "law", "law", defArgs s_law, defBody s_law, defScope s_law, [], []⟩
def fnL : List He.DefD := [D_is_number, D_is_letters, D_need_letters, D_is_word_to, D_is_word, D_need_word, D_is_stand, D_Machine_init, D_Machine_letters, D_Machine_rows, D_Machine_behind, D_gone_through, D_classed, D_least_rows, D_built, D_firsts, D_least, D_Algebra_init, D_Algebra_led_on, D_Algebra_len, D_Algebra_need_element, D_Algebra_letters, D_Algebra_words, D_Algebra_element, D_Algebra_product, D_Algebra_times, D_next_of, D_ends_of, D_walked, D_all_but, D_left_behind, D_may_stand, D_is_swing, D_swing_parts, D_led_about, D_Walks_init, D_Walks_moved, D_Walks_word_from, D_Walks_round_of, D_Walks_ends, D_Walks_to_end, D_Walks_parting, D_Walks_all_stands, D_few_swing, D_starts_swing, D_ends_swing, D_counts_swing, D_falling_swing, D_led_ahead, D_on_rounds, D_word_ahead, D_stand_apart, D_subwords_swing, D_round_by, D_starfree_swing, D_turning_swing, D_swing, D_walked_to, D_is_in, D_shows, D_q_begun, D_q_mixed, D_q_take, D_q_pick, D_q_abc, D_q_token, D_q_table, D_q_drawn_table, D_q_asked, D_q_turned, D_q_ahead, D_law]
def faL : List He.Fa := [.free "len", .free "isinstance", .free "int", .free "bool", .free "str", .free "list", .free "tuple", .free "all", .free "any", .free "zip", .free "range", .free "enumerate", .free "sorted", .free "min", .int "MOST_LETTERS" 4, .int "MOST_IN_WORD" 20000, .int "MOST_STANDS" 60, .int "MOST_ELEMENTS" 200, .int "MOST_SIGNS" 4000, .int "MOST_ROUND" 60, .int "PIECE" 10000, .str "SMALL" "abcdefghijklmnopqrstuvwxyz", .cls "Machine", .glo "Machine", .mkr "Machine", .noat "Machine" "letters_told", .noat "Machine" "stand_rows", .cls "Algebra", .glo "Algebra", .mkr "Algebra", .noat "Algebra" "base", .noat "Algebra" "doings", .noat "Algebra" "word_list", .noat "Algebra" "numbers_by", .noat "Algebra" "table", .cls "Walks", .glo "Walks", .mkr "Walks", .noat "Walks" "base", .noat "Walks" "first_words", .noat "Walks" "stands", .noat "Walks" "signs", .glo "TooGreat", .glo "SHAPES", .glo "FORMS", .exc "TooGreat", .exm "TooGreat" "TooGreat" true, .glo "is_number", .glo "is_letters", .glo "need_letters", .glo "is_word_to", .glo "is_word", .glo "need_word", .glo "is_stand", .meth "Machine" "__init__", .meth "Machine" "letters", .meth "Machine" "rows", .meth "Machine" "behind", .glo "gone_through", .glo "classed", .glo "least_rows", .glo "built", .glo "firsts", .glo "least", .meth "Algebra" "__init__", .meth "Algebra" "led_on", .meth "Algebra" "__len__", .meth "Algebra" "need_element", .meth "Algebra" "letters", .meth "Algebra" "words", .meth "Algebra" "element", .meth "Algebra" "product", .meth "Algebra" "times", .glo "next_of", .glo "ends_of", .glo "walked", .glo "all_but", .glo "left_behind", .glo "may_stand", .glo "is_swing", .glo "swing_parts", .glo "led_about", .meth "Walks" "__init__", .meth "Walks" "moved", .meth "Walks" "word_from", .meth "Walks" "round_of", .meth "Walks" "ends", .meth "Walks" "to_end", .meth "Walks" "parting", .meth "Walks" "all_stands", .glo "few_swing", .glo "starts_swing", .glo "ends_swing", .glo "counts_swing", .glo "falling_swing", .glo "led_ahead", .glo "on_rounds", .glo "word_ahead", .glo "stand_apart", .glo "subwords_swing", .glo "round_by", .glo "starfree_swing", .glo "turning_swing", .glo "swing", .glo "walked_to", .glo "is_in", .glo "shows", .glo "_law_begun", .glo "_law_mixed", .glo "_law_take", .glo "_law_pick", .glo "_law_abc", .glo "_law_token", .glo "_law_table", .glo "_law_drawn_table", .glo "_law_asked", .glo "_law_turned", .glo "_law_ahead", .glo "law"]
def tfL : List He.Defn := [("least", none), ("walked", none), ("all_but", none), ("left_behind", none), ("Walks", some "round_of"), ("Walks", some "to_end"), ("Walks", some "parting"), ("falling_swing", none)]
def tsL : List He.Tab := [(fun K => He.ga K "FORMS", kds.map kdN)]
def tupB (K : PySem.W.Frag) (a : Addr) (xs : List V) : Bool := match K.lookup a with
  | some ⟨.type c, none, .seq its _, _⟩ => decide (c = "tuple") && He.relAll xs its.toList
  | _ => false
def formsL : List (Str × He.Dv) := kds.map fun k => (kdN k, .str (S (formOf k)))
def exB (K : PySem.W.Frag) : Bool := decide ((tfL.map fun p => (He.cT K p).2).Nodup) && (tupB K (He.ga K "SHAPES") ((kds.map kdN).map V.str) && He.valsB K (He.ga K "FORMS") formsL)
end Sw
/-! The head: one run of the top, with what is told of it. -/
namespace SwHead
open PySem PySem.W PySem.Calls PyProof.Rows
abbrev R : OpenRow := OpenLaw.row PySem.Challenge.rw_swingwords_k65_whole_swings_led_along
abbrev qv : Program := view R.prog [81]
def names0 : List PySem.Str := [("_wall" : PySem.Str), ("SwingError" : PySem.Str), ("NoLetters" : PySem.Str), ("NoWord" : PySem.Str), ("NoNumber" : PySem.Str), ("NoMachine" : PySem.Str), ("NoElement" : PySem.Str), ("NoShape" : PySem.Str), ("TooGreat" : PySem.Str), ("SMALL" : PySem.Str), ("MOST_LETTERS" : PySem.Str), ("MOST_IN_WORD" : PySem.Str), ("is_number" : PySem.Str), ("is_letters" : PySem.Str), ("need_letters" : PySem.Str), ("is_word_to" : PySem.Str), ("is_word" : PySem.Str), ("need_word" : PySem.Str), ("MOST_STANDS" : PySem.Str), ("is_stand" : PySem.Str), ("Machine" : PySem.Str), ("gone_through" : PySem.Str), ("classed" : PySem.Str), ("least_rows" : PySem.Str), ("built" : PySem.Str)]
def names1 : List PySem.Str := [("firsts" : PySem.Str), ("least" : PySem.Str), ("MOST_ELEMENTS" : PySem.Str), ("Algebra" : PySem.Str), ("next_of" : PySem.Str), ("ends_of" : PySem.Str), ("walked" : PySem.Str), ("all_but" : PySem.Str), ("left_behind" : PySem.Str), ("SHAPES" : PySem.Str), ("MOST_SIGNS" : PySem.Str), ("MOST_ROUND" : PySem.Str), ("FORMS" : PySem.Str), ("may_stand" : PySem.Str), ("is_swing" : PySem.Str), ("swing_parts" : PySem.Str), ("led_about" : PySem.Str), ("Walks" : PySem.Str), ("few_swing" : PySem.Str), ("starts_swing" : PySem.Str), ("ends_swing" : PySem.Str), ("counts_swing" : PySem.Str), ("falling_swing" : PySem.Str), ("led_ahead" : PySem.Str), ("on_rounds" : PySem.Str)]
def names2 : List PySem.Str := [("word_ahead" : PySem.Str), ("stand_apart" : PySem.Str), ("subwords_swing" : PySem.Str), ("round_by" : PySem.Str), ("starfree_swing" : PySem.Str), ("turning_swing" : PySem.Str), ("swing" : PySem.Str), ("PIECE" : PySem.Str), ("walked_to" : PySem.Str), ("is_in" : PySem.Str), ("shows" : PySem.Str), ("_law_begun" : PySem.Str), ("_law_mixed" : PySem.Str), ("_law_take" : PySem.Str), ("_law_pick" : PySem.Str), ("_law_abc" : PySem.Str), ("_law_token" : PySem.Str), ("_law_table" : PySem.Str), ("_law_drawn_table" : PySem.Str), ("_law_asked" : PySem.Str), ("_law_turned" : PySem.Str), ("_law_ahead" : PySem.Str)]
def names : List PySem.Str := names0 ++ names1 ++ names2
/-- the addresses that are looked at: the names' dict, classes, their dicts, the tables, keyword defaults, defs, their codes -/
def as0 : List Addr := [3, 220, 372, 497, 116, 31, 219, 371, 496, 115, 30, 406, 407, 150, 189, 242, 125, 130, 137, 142, 149, 157, 162, 174, 181, 188, 196, 231, 236, 241, 249, 254, 261, 275, 280, 287, 294, 301, 315, 322, 327, 334, 381, 386, 391, 398, 405, 414, 419, 426, 433, 447, 452, 459, 466, 473, 480, 487, 494, 506, 513, 520, 527, 534, 539, 544, 551, 558, 565, 572, 577, 584, 591, 598, 605, 612, 617, 624, 631, 638, 643, 648, 653, 658, 665, 672, 679, 684, 124, 129, 136, 141, 148, 156, 161, 173, 180, 187, 195, 230, 235, 240, 248, 253, 260, 274, 279, 286, 293, 300, 314, 321, 326, 333, 380, 385, 390, 397, 404, 413, 418, 425, 432, 446, 451, 458, 465, 472, 479, 486, 493, 505, 512, 519, 526, 533, 538, 543, 550, 557, 564, 571, 576, 583, 590, 597, 604, 611, 616, 623, 630, 637, 642, 647, 652, 657, 664, 671, 678, 683]
def obsY (g : Addr → Option Obj) : He.AlX := (He.obsT Sw.faL Sw.fnL Sw.tsL (He.frT g as0), Sw.exB (He.frT g as0) && He.tabsB g Sw.tfL (He.frT g as0))
theorem saysY {w : World} {h : Heap} (e : obsY h.get? = He.valX Sw.fnL Sw.tsL w) : He.SaysX Sw.faL Sw.fnL Sw.tsL Sw.tfL Sw.exB w h (He.frT h.get? as0) := by
  have both := He.ba (congrArg Prod.snd e : (Sw.exB (He.frT h.get? as0) && He.tabsB h.get? Sw.tfL (He.frT h.get? as0)) = true)
  have one : ∀ p ∈ Sw.tfL, codeHdIn (He.frT h.get? as0) (He.cT (He.frT h.get? as0) p).1 (He.cT (He.frT h.get? as0) p).2 = true ∧ ∃ o, h.get? (He.cT (He.frT h.get? as0) p).2 = some o ∧ He.emptyTab o = true := by
    intro p hp
    have both2 := He.ba (List.all_eq_true.mp both.2 p hp)
    refine ⟨both2.1, ?_⟩
    have z := both2.2
    revert z
    cases h.get? (He.cT (He.frT h.get? as0) p).2 with
    | none => intro z; cases z
    | some o => exact fun z => ⟨o, rfl, z⟩
  refine { t := congrArg Prod.fst e, more := both.1, hd := fun p hp => (one p hp).1, out := ?_, empty := ?_ }
  · intro p hp
    obtain ⟨o, a, b⟩ := (one p hp).2
    exact He.frT_none a b
  · intro p hp
    obtain ⟨o, a, b⟩ := (one p hp).2
    exact a.trans (congrArg some (He.emptyTab_eq b))
def hk : PySem.W.Hook where
  α := He.AlX
  obs s := obsY s.heap.get?
  val w := He.valX Sw.fnL Sw.tsL w
  says := (He.hookX 0 Sw.faL Sw.fnL Sw.tsL Sw.tfL Sw.exB).says
  of _ _ e := ⟨_, He.frT_in, saysY e⟩
  keeps := (He.hookX 0 Sw.faL Sw.fnL Sw.tsL Sw.tfL Sw.exB).keeps
def ob (s : PySem.W.SharedT) : He.AlX := obsY (HandSHeadRun.getT s)
theorem ob_eq (s : PySem.W.SharedT) : ob s = hk.obs s.abs := congrArg obsY (funext (HandSHeadRun.getT_eq s))
theorem runF (w : World) : HandSHeadRun.RunEq R qv hk ob 9000 names (w.withFollow "special-get-raises" false) := fun os => by kernel_rfl
theorem runT (w : World) : HandSHeadRun.RunEq R qv hk ob 9000 names (w.withFollow "special-get-raises" true) := fun os => by kernel_rfl
theorem run (w : World) : HandSHeadRun.RunEq R qv hk ob 9000 names w := byRow2 "special-get-raises" (P := fun w => HandSHeadRun.RunEq R qv hk ob 9000 names w) runF runT w
end SwHead
/-! Closures: lambdas with parameters, nested defs handed on; captured cells told to the abstract heap while others run. -/
namespace Sw
open PySem PySem.Spec PyProof.Rows L2 LamX NdefX

/-- all but the tables stay, and the tables stay right -/
structure Gr (T : List NTab) (H H' : Hp) : Prop where
  ext : ExtN H H'
  tab : TabsN T H → TabsN T H'
section
variable {T : List NTab} {H H1 H2 : Hp}
theorem Gr.refl : Gr T H H := ⟨ExtN.refl H, id⟩
theorem Gr.trans (a : Gr T H H1) (b : Gr T H1 H2) : Gr T H H2 := ⟨a.ext.trans b.ext, fun t => b.tab (a.tab t)⟩
theorem Gr.of (e : Same H H1) : Gr T H H1 := ⟨ExtN.of e, fun t => t.ext e⟩
end
theorem same_new {H : Hp} {p : Addr} {o : HO} (h : H p = none) : Same H (upd H p o) := fun b u e => by
  rw [upd_ne (ne_of_none e h)]; exact e
theorem same_mut {H H' : Hp} {p : Addr} {o : HO} (e : Same H H') (h : H p = none) : Same H (upd H' p o) := fun b u q => by
  rw [upd_ne (ne_of_none q h)]; exact e b u q

/-- a cell that is told: its object as it is, the value in it -/
def CellF (c : Addr) (o : Obj) (v : V) : HO := .frz o (.ext fun h => ∃ u, RelV v u ∧ h.IsCell c (some u))
/-- the object at f is the lambda F with the body e -/
def LamO (f : Addr) (F : NF) (e : Expr) : HO := .ext fun h => ∃ (od : Option Addr) (sl : Array (Option Value)) (pm ctv : Value), h.get? f = some (⟨.type "function", od, .func (PySem.W.kla_fn F.name F.qual F.params e F.scope F.cl pm (.ref F.c) ctv), sl⟩ : Obj)
theorem lamO_at {P : Program} {w : World} {H : Hp} {h : Heap} {f : Addr} {F : NF} {e : Expr} (hok : HOk P w H h) (q : H f = some (LamO f F e)) :
    ∃ (od : Option Addr) (sl : Array (Option Value)) (pm ctv : Value), h.get? f = some (⟨.type "function", od, .func (PySem.W.kla_fn F.name F.qual F.params e F.scope F.cl pm (.ref F.c) ctv), sl⟩ : Obj) := by
  obtain ⟨z, _, _⟩ := hok f _ q
  exact z

/-- what a function's captured cells are to the frame that makes it: cl its closure, cells the frame's, fr the captured names -/
structure CloOk (cl cells : List (Str × Addr)) (fr : List Str) : Prop where
  inj : ∀ x y c, cl.lookup x = some c → cl.lookup y = some c → x = y
  sub : ∀ y c, cl.lookup y = some c → cells.lookup y = some c ∧ y ∈ fr
  has : ∀ y ∈ fr, ∃ c, cells.lookup y = some c ∧ cl.lookup y = some c
theorem cloOk_of {X : Cx} {scope : Scope} {fr : List Str} (ok : X.Ok) (hfree : ∀ y ∈ scope.names, y.2 = .free → X.env.scope.names.lookup y.1 = some .cell ∨ X.env.scope.names.lookup y.1 = some .free)
    (hfr : ∀ y ∈ fr, (y, NameKind.free) ∈ scope.names) (hfr2 : ∀ y ∈ scope.names, y.2 = .free → y.1 ∈ fr) : CloOk (cloFrom X.env.cells scope.names []) X.env.cells fr := by
  have hf : ∀ y ∈ scope.names, y.2 = .free → ∃ c, X.env.cells.lookup y.1 = some c := fun y hy e => (hfree y hy e).elim (fun z => ok.has _ (.inl z)) fun z => ok.has _ (.inr z)
  have sub : ∀ y c, (cloFrom X.env.cells scope.names []).lookup y = some c → X.env.cells.lookup y = some c := fun y c e => clo_cm hf e
  refine ⟨fun x y c e1 e2 => ok.inj x y c (sub x c e1) (sub y c e2), fun y c e => ⟨sub y c e, ?_⟩, fun y hy => ?_⟩
  · rcases cloFrom_mem (PySem.mem_of_lookup e) with hm | ⟨h1, _⟩
    · cases hm
    · exact hfr2 _ h1 rfl
  · obtain ⟨c, hc⟩ := hf _ (hfr y hy) rfl
    exact ⟨c, hc, clo_has hf (hfr y hy) hc⟩
def cloB (sc nsc : Scope) (fr : List Str) : Bool := ndefB sc nsc fr && nsc.names.all fun y => !decide (y.2 = .free) || decide (y.1 ∈ fr)
theorem cloB_ok {X : Cx} {scope : Scope} {fr : List Str} (h : cloB X.env.scope scope fr = true) (ok : X.Ok) : CloOk (cloFrom X.env.cells scope.names []) X.env.cells fr := by
  unfold cloB at h
  obtain ⟨h1, h2⟩ := Bool.and_eq_true_iff.mp h
  refine cloOk_of ok (ndef_free h1) (ndef_fr h1) fun y hy e => ?_
  have q := List.all_eq_true.mp h2 y hy
  simp only [Bool.or_eq_true, Bool.not_eq_true', decide_eq_true_eq, decide_eq_false_iff_not] at q
  exact q.elim (fun z => absurd e z) id

section
variable {X : Cx} {pins : List (Addr × Obj)} {σ : L2.St} {H : Hp} {s : Shared}
/-- a function object just made is known from now on -/
theorem inv_lam {F : NF} {e : Expr} {t' : Nat} {pm ctv : Value} (I : Inv X pins σ H s) :
    Inv X pins σ (upd H s.heap.objs.size (LamO s.heap.objs.size F e)) { s with heap := s.heap.push (PySem.W.kla_obj F.name F.qual F.params e F.scope F.cl pm F.c ctv), toks := t' } := by
  refine I.laid (a := s.heap.objs.size) (fun b u e => Heap.get?_push_of_some _ e) (Nat.le_refl _) ?_
  have q : (s.heap.push (PySem.W.kla_obj F.name F.qual F.params e F.scope F.cl pm F.c ctv)).get? s.heap.objs.size = some (PySem.W.kla_obj F.name F.qual F.params e F.scope F.cl pm F.c ctv) := Heap.get?_push_size _ rfl
  exact ⟨⟨_, _, pm, ctv, q⟩, ⟨_, q⟩, fun h1 h2 ⟨od, sl, p, t, z⟩ st => ⟨od, sl, p, t, st _ z⟩⟩
/-- the lambda's object is made: its code object is new, or found in the table -/
theorem lamN_make {T : List NTab} {nm : Nat → Nat → Str} {c P : Addr} {params : Arguments} {body : Expr} {scope : Scope} {pos : Pos} {E : Value → Shared → Prop} {Q : Value → Shared → Prop} (I : Inv X pins σ H s) (TB : TabB X.base X.mg c P) (hcode : X.env.code = .ref c)
    (hm : (P, nm) ∈ T) (hn : nm pos.line pos.col = X.env.qual ++ "<lambda>") (hu : ∀ p ∈ T, p.1 = P → p.2 = nm) (hT : TabsN T H) (hdef : defaultsOf params X.env = ([], [])) (hfree : ∀ y ∈ scope.names, y.2 = .free → ∃ c, X.env.cells.lookup y.1 = some c)
    (h : ∀ (f c' : Addr) (H1 : Hp) (s' : Shared), Inv X pins σ H1 s' → ExtN H H1 → TabsN T H1 → H f = none → H1 f = some (LamO f ⟨"<lambda>", X.env.qual ++ "<lambda>", params, [], scope, cloFrom X.env.cells scope.names [], c'⟩ body) → H1 c' = some (CodeO c' (X.env.qual ++ "<lambda>")) → Q (.ref f) s') :
    wpAny (model X.prog X.w) X.A (eval (.Lambda params body scope pos) X.env) Q E s := by
  refine PySem.W.kla_eval hdef ?_
  obtain ⟨ps, hP, ht, ha⟩ := (show TabN H P nm from hT _ hm)
  have bP : s.heap.BuiltinsAt X.mg P := TB.bm.keeps I.bk
  have hP' : s.heap.get? P = some { cls := .none, data := .fields ps } := I.hok P _ hP
  cases hc : codeAmong pos ps.toList with
  | none =>
    refine PySem.W.kla_makeFunction (mg := X.mg) (c := c) (P := P) (ps := ps) (closure_ok hfree) I.ok.glob (I.mod.glob.keeps I.bk) hcode (TB.code.keeps I.bk) hP' ht hc TB.gP bP fun c' ctv h' tk hx hge hlt hrec htb => ?_
    obtain ⟨c2, oc, vs, t, e2, hoc, hd, hv⟩ := hrec
    cases e2
    have nC : H c' = none := I.hok.fresh hge
    have I1 := inv_table (t' := tk) (more := #[rawInt pos.line, rawInt pos.col, .ref c']) (h' := h') I hP (fun b o hb e => hx b o hb e) htb hge ⟨oc, vs, t, hoc, hd, hv⟩
    have hE : ExtN H (upd (upd H P (.tbl (ps ++ #[rawInt pos.line, rawInt pos.col, .ref c']))) c' (CodeO c' (X.env.qual ++ "<lambda>"))) := fun b o e n => by
      rw [upd_ne (ne_of_none e nC), upd_ne (fun z => n ps (Option.some.inj (e.symm.trans (by rw [z]; exact hP))))]
      exact e
    have eL : (ps ++ #[rawInt pos.line, rawInt pos.col, .ref c']).toList = ps.toList ++ [rawInt pos.line, rawInt pos.col, .ref c'] := by simp
    have T1 : TabsN T (upd (upd H P (.tbl (ps ++ #[rawInt pos.line, rawInt pos.col, .ref c']))) c' (CodeO c' (X.env.qual ++ "<lambda>"))) := fun p hp => by
      by_cases hb : p.1 = P
      · rw [hu p hp hb, hb]
        refine ⟨_, by rw [upd_ne (ne_of_none hP nC), upd_same], by rw [eL]; exact PySem.TriplesOk_snoc _ _ _ _ ht, fun p' cv hcv => ?_⟩
        rw [eL] at hcv
        rcases among_app2 _ ht hcv with z | ⟨z, z1, z2⟩
        · obtain ⟨c0, e1, e2⟩ := ha p' cv z
          exact ⟨c0, e1, hE _ _ e2 codeO_ne⟩
        · refine ⟨c', z, ?_⟩
          rw [← z1, ← z2, hn]
          exact upd_same
      · obtain ⟨ps', a1, a2, a3⟩ := hT p hp
        refine ⟨ps', by rw [upd_ne (ne_of_none a1 nC), upd_ne hb]; exact a1, a2, fun p' cv hcv => ?_⟩
        obtain ⟨c0, e1, e2⟩ := a3 p' cv hcv
        exact ⟨c0, e1, hE _ _ e2 codeO_ne⟩
    have nF := I1.hok.fresh (Nat.le_refl _)
    have I2 := inv_lam (F := ⟨"<lambda>", X.env.qual ++ "<lambda>", params, [], scope, cloFrom X.env.cells scope.names [], c'⟩) (e := body) (t' := tk) (pm := (X.mg "__name__").getD .none) (ctv := ctv) I1
    refine h h'.objs.size c' _ _ I2 (fun b o e n => ?_) (T1.ext fun b o e => ?_) (I.hok.fresh (Nat.le_trans hge (Nat.le_of_lt hlt))) upd_same ?_
    · have e1 := hE b o e n
      exact (upd_ne (ne_of_none e1 nF)).trans e1
    · exact (upd_ne (ne_of_none e nF)).trans e
    · exact (upd_ne (Nat.ne_of_lt hlt)).trans upd_same
  | some cv =>
    obtain ⟨c', e, hco⟩ := ha pos cv hc
    subst e
    rw [hn] at hco
    refine PySem.W.kla_makeFunctionHit (mg := X.mg) (c := c) (P := P) (ps := ps) (closure_ok hfree) I.ok.glob (I.mod.glob.keeps I.bk) hcode (TB.code.keeps I.bk) hP' ht hc bP fun ctv h' tk hx hsz => ?_
    have I1 : Inv X pins σ H { s with heap := h', toks := tk } := I.kept hx
    have nF : H h'.objs.size = none := I1.hok.fresh (Nat.le_refl _)
    have I2 := inv_lam (F := ⟨"<lambda>", X.env.qual ++ "<lambda>", params, [], scope, cloFrom X.env.cells scope.names [], c'⟩) (e := body) (t' := tk) (pm := (X.mg "__name__").getD .none) (ctv := ctv) I1
    refine h h'.objs.size c' _ _ I2 (fun b o e n => ?_) (hT.ext fun b o e => ?_) nF upd_same ?_
    · exact (upd_ne (ne_of_none e nF)).trans e
    · exact (upd_ne (ne_of_none e nF)).trans e
    · exact (upd_ne (ne_of_none hco nF)).trans hco
end
/-- lambda ..: e, captured names fr -/
def tLamN (T : List NTab) (cells : List (Str × Addr)) (fr : List Str) (mk : Addr → NF) (e : Expr) : TE := fun _ H Q => TabsN T H ∧ ∀ (f c' : Addr) (H1 : Hp), Gr T H H1 → H f = none → CloOk (mk c').cl cells fr → H1 f = some (LamO f (mk c') e) → H1 (mk c').c = some (CodeO (mk c').c (mk c').qual) → Q (.ref f) H1
theorem pe_lamN {X : Cx} {T : List NTab} {nm : Nat → Nat → Str} {c P : Addr} {params : Arguments} {body : Expr} {scope : Scope} {pos : Pos} (fr : List Str) (TB : TabB X.base X.mg c P) (hcode : X.env.code = .ref c) (hm : (P, nm) ∈ T) (hn : nm pos.line pos.col = X.env.qual ++ "<lambda>") (hu : ∀ p ∈ T, p.1 = P → p.2 = nm)
    (hfr : cloB X.env.scope scope fr = true) (hdef : defaultsOf params X.env = ([], []) := by rfl) :
    PE X (.Lambda params body scope pos) (tLamN T X.env.cells fr (fun c' => ⟨"<lambda>", X.env.qual ++ "<lambda>", params, [], scope, cloFrom X.env.cells scope.names [], c'⟩) body) := by
  refine ⟨fun pins s σ H Q I h => ?_⟩
  obtain ⟨hT, h⟩ := h
  have hb := (Bool.and_eq_true_iff.mp (show (ndefB X.env.scope scope fr && _) = true from hfr)).1
  refine lamN_make I TB hcode hm hn hu hT hdef (fun y hy e => (ndef_free hb y hy e).elim (fun z => I.ok.has _ (.inl z)) fun z => I.ok.has _ (.inr z)) fun f c' H1 s' I1 e1 t1 f0 f1 c1 => ?_
  exact ⟨.ref f, H1, I1, rfl, h f c' H1 ⟨e1, fun _ => t1⟩ f0 (cloB_ok hfr I.ok) f1 c1⟩
/-- def name(..): .. within a def; captured names fr -/
def tNdefC (T : List NTab) (cells : List (Str × Addr)) (fr : List Str) (i : Nat) (mk : Addr → NF) : TS := fun D σ H => TabsN T H ∧ ∀ (f c' : Addr) (H1 : Hp), Gr T H H1 → H f = none → CloOk (mk c').cl cells fr → H1 f = some (FnO f (mk c')) → H1 (mk c').c = some (CodeO (mk c').c (mk c').qual) → D.nx (σ.set i (some (.ref f))) H1
theorem ps_ndefC {X : Cx} {T : List NTab} {nm : Nat → Nat → Str} {c P : Addr} {name : Str} {params : Arguments} {body : List Stmt} {scope : Scope} {pos : Pos} {i : Nat} (fr : List Str) (TB : TabB X.base X.mg c P) (hcode : X.env.code = .ref c) (hm : (P, nm) ∈ T) (hn : nm pos.line pos.col = X.env.qual ++ name) (hu : ∀ p ∈ T, p.1 = P → p.2 = nm)
    (hfr : cloB X.env.scope scope fr = true) (hN : X.N.Nodup) (hi : X.N[i]? = some name) (hx : Loc X.env.scope name) (hf : X.fn name = true ∨ X.env.scope.names.lookup name = some .local)
    (hd0 : params.defaults = [] := by rfl) (hk0 : params.kw_defaults = [] := by rfl) (ha : annTrees params none X.env = [] := by rfl) :
    PS X (.FunctionDef name params body [] none [] scope none name pos) (tNdefC T X.env.cells fr i fun c' => ⟨name, X.env.qual ++ name, params, body, scope, cloFrom X.env.cells scope.names [], c'⟩) := by
  refine ⟨fun pins s σ H D I h => ?_⟩
  obtain ⟨hT, h⟩ := h
  have hb := (Bool.and_eq_true_iff.mp (show (ndefB X.env.scope scope fr && _) = true from hfr)).1
  have hq : qualnameIn X.env name name = X.env.qual ++ name := by
    have hk : X.env.kindOf name = some .local ∨ X.env.kindOf name = some .cell := hx
    unfold qualnameIn
    rcases hk with k | k <;> rw [k] <;> first | rfl | exact if_neg (by decide)
  refine PySem.W.nestDef_K hd0 hk0 ha ?_
  rw [hq]
  refine ndef_make I TB hcode hm hn hu hT (fun y hy e => (ndef_free hb y hy e).elim (fun z => I.ok.has _ (.inl z)) fun z => I.ok.has _ (.inr z)) fun f c' H1 s' I1 e1 _ t1 f0 f1 c1 => ?_
  exact store_ok I1 hN hi hx (v := .ref f) rfl (fun s'' J => ⟨_, H1, J, h f c' H1 ⟨e1, fun _ => t1⟩ f0 (cloB_ok hfr I.ok) f1 c1⟩) hf

/-! ### cells told while others run -/
def cut (cs : List Addr) (H : Hp) : Hp := fun b => if b ∈ cs then none else H b
def mix (cs : List Addr) (H H3 : Hp) : Hp := fun b => if b ∈ cs then H b else H3 b
theorem cut_in {cs : List Addr} {H : Hp} {b : Addr} (h : b ∈ cs) : cut cs H b = none := if_pos h
theorem cut_out {cs : List Addr} {H : Hp} {b : Addr} (h : b ∉ cs) : cut cs H b = H b := if_neg h
theorem mix_in {cs : List Addr} {H H3 : Hp} {b : Addr} (h : b ∈ cs) : mix cs H H3 b = H b := if_pos h
theorem mix_out {cs : List Addr} {H H3 : Hp} {b : Addr} (h : b ∉ cs) : mix cs H H3 b = H3 b := if_neg h
theorem cut_none {cs : List Addr} {H : Hp} {b : Addr} (h : H b = none) : cut cs H b = none := by
  unfold cut; split
  · rfl
  · exact h
/-- what a promise's heap says of an object, but for cells, functions, codes, tables -/
def solid : HO → Prop
  | .tbl _ => False
  | .ext _ => False
  | .frz _ (.ext _) => False
  | _ => True
def Sol (H H' : Hp) : Prop := ∀ b o, H b = some o → solid o → H' b = some o
theorem Sol.refl {H : Hp} : Sol H H := fun _ _ e _ => e
theorem Sol.trans {H H1 H2 : Hp} (a : Sol H H1) (b : Sol H1 H2) : Sol H H2 := fun c o h n => b c o (a c o h n) n
theorem Sol.ofN {H H' : Hp} (e : ExtN H H') : Sol H H' := fun b o h n => e b o h fun ps z => by subst z; exact n
theorem Sol.of {H H' : Hp} (e : Same H H') : Sol H H' := fun b o h _ => e b o h
theorem Gr.sol {T : List NTab} {H H' : Hp} (e : Gr T H H') : Sol H H' := .ofN e.ext

def cellsFor (cl : List (Str × Addr)) (fr : List Str) : List Addr := fr.filterMap fun y => cl.lookup y
structure Lent (cl : List (Str × Addr)) (fr : List Str) (ws : List V) (H Hp' : Hp) : Prop where
  same : Same H Hp'
  cs : ∀ b ∈ cellsFor cl fr, H b = none ∧ ∃ o v, Hp' b = some (CellF b o v)
  out : ∀ b, b ∉ cellsFor cl fr → Hp' b = H b
  at_ : ∀ (i : Nat) y v, fr[i]? = some y → ws[i]? = some v → ∃ c o, cl.lookup y = some c ∧ Hp' c = some (CellF c o v)
section
variable {cl : List (Str × Addr)} {fr : List Str} {ws : List V} {H H1 Hp' : Hp}
/-- behind the call: what was there ahead is there -/
theorem Lent.back {T : List NTab} (L : Lent cl fr ws H Hp') (e : Gr T Hp' H1) (ht : TabsN T H) : Gr T H (cut (cellsFor cl fr) H1) := by
  have key : ∀ b o, H b = some o → b ∉ cellsFor cl fr := fun b o h z => by
    rw [(L.cs b z).1] at h; cases h
  have kc : ∀ b o, H1 b = some o → (∀ ob u, o ≠ .frz ob u) → cut (cellsFor cl fr) H1 b = some o := fun b o h n => by
    refine (cut_out fun z => ?_).trans h
    obtain ⟨ob, v, q⟩ := (L.cs b z).2
    have := e.ext b _ q fun ps y => by unfold CellF at y; cases y
    rw [h] at this
    exact n _ _ (Option.some.inj this)
  refine ⟨fun b o h n => (cut_out (key b o h)).trans (e.ext b o (L.same b o h) n), fun t p hp => ?_⟩
  obtain ⟨ps, a1, a2, a3⟩ := (e.tab (t.ext L.same)) p hp
  refine ⟨ps, kc _ _ a1 (fun _ _ z => by cases z), a2, fun pos cv hc => ?_⟩
  obtain ⟨c, e1, e2⟩ := a3 pos cv hc
  exact ⟨c, e1, kc _ _ e2 fun _ _ z => by unfold CodeO at z; cases z⟩
theorem Lent.sol {T : List NTab} (L : Lent cl fr ws H Hp') (e : Gr T Hp' H1) : Sol H1 (cut (cellsFor cl fr) H1) := fun b o h n => by
  refine (cut_out fun z => ?_).trans h
  obtain ⟨ob, v, q⟩ := (L.cs b z).2
  have := e.ext b _ q fun ps y => by unfold CellF at y; cases y
  rw [h] at this
  rw [Option.some.inj this] at n
  exact n
end
section
variable {X : Cx} {pins : List (Addr × Obj)} {σ : L2.St} {H : Hp} {s : Shared} {fr : List Str} {ws : List V} {js : List Nat}
/-- the frame's own cells fr, told -/
theorem lend_env (I : Inv X pins σ H s) (hk : ∀ y ∈ fr, X.env.scope.names.lookup y = some .cell) (hfn : ∀ y ∈ fr, X.fn y = true) (hjs : js.map (fun j => X.N[j]?) = fr.map some) (hws : js.map (slotAt σ) = ws.map some) :
    ∃ Hp', Lent X.env.cells fr ws H Hp' ∧ Env0 X.prog X.w X.K X.mg X.base X.A X.stack s Hp' := by
  have hlen : js.length = fr.length := by simpa using congrArg List.length hjs
  -- each captured name: its cell, the object there, its value
  have key : ∀ (i : Nat) y, fr[i]? = some y → ∃ c o v, ws[i]? = some v ∧ X.env.cells.lookup y = some c ∧ s.heap.get? c = some o ∧ ∃ u, RelV v u ∧ o.data = .cell (some u) := fun i y hy => by
    have hm := List.mem_of_getElem? hy
    have hi : i < fr.length := (List.getElem?_eq_some_iff.mp hy).1
    obtain ⟨c, hc⟩ := I.ok.has y (.inl (hk y hm))
    have hj : js[i]? = some (js[i]'(by omega)) := List.getElem?_eq_getElem (by omega)
    generalize hjv : js[i]'(by omega) = j at hj
    have e1 : X.N[j]? = some y := by
      have q : (js.map (fun j => X.N[j]?))[i]? = (fr.map some)[i]? := by rw [hjs]
      rw [List.getElem?_map, List.getElem?_map, hj, hy] at q
      exact Option.some.inj q
    have q : (js.map (slotAt σ))[i]? = (ws.map some)[i]? := by rw [hws]
    rw [List.getElem?_map, List.getElem?_map, hj] at q
    cases ew : ws[i]? with
    | none => rw [ew] at q; cases q
    | some v =>
      rw [ew] at q
      have e2 := slotAt_some (Option.some.inj q)
      obtain ⟨m, hn, hl⟩ := I.loc
      obtain ⟨u, r, l⟩ := hl j y v e1 e2 (.inr (.inl (hk y hm)))
      rcases l with ⟨z, _⟩ | ⟨_, c', hc', o, ho, hd⟩
      · have z' : X.env.scope.names.lookup y = some .local := z
        rw [hk y hm] at z'; cases z'
      · rw [hc] at hc'; cases hc'
        exact ⟨c, o, v, rfl, hc, ho, u, r, hd⟩
  -- who is at a cell's address
  let cs := cellsFor X.env.cells fr
  have inCs : ∀ b, b ∈ cs → ∃ (i : Nat) (y : Str), fr[i]? = some y ∧ X.env.cells.lookup y = some b := fun b hb => by
    obtain ⟨y, hy, e⟩ := List.mem_filterMap.mp hb
    obtain ⟨i, hi⟩ := List.mem_iff_getElem?.mp hy
    exact ⟨i, y, hi, e⟩
  classical
  let pick : Addr → Option HO := fun b => if h : ∃ (o : Obj) (v : V), s.heap.get? b = some o ∧ (∃ u, RelV v u ∧ o.data = .cell (some u)) ∧ ∃ (i : Nat) (y : Str), fr[i]? = some y ∧ ws[i]? = some v ∧ X.env.cells.lookup y = some b then some (CellF b h.choose h.choose_spec.choose) else none
  have pick_at : ∀ (i : Nat) y v c, fr[i]? = some y → ws[i]? = some v → X.env.cells.lookup y = some c → ∃ o, s.heap.get? c = some o ∧ (∃ u, RelV v u ∧ o.data = .cell (some u)) ∧ pick c = some (CellF c o v) := fun i y v c h1 h2 h3 => by
    obtain ⟨c', o, v', k1, k2, k3, u, k4, k5⟩ := key i y h1
    rw [h3] at k2; cases k2
    rw [h2] at k1; cases k1
    have ex : ∃ (o : Obj) (v : V), s.heap.get? c = some o ∧ (∃ u, RelV v u ∧ o.data = .cell (some u)) ∧ ∃ (i : Nat) (y : Str), fr[i]? = some y ∧ ws[i]? = some v ∧ X.env.cells.lookup y = some c := ⟨o, v, k3, ⟨u, k4, k5⟩, i, y, h1, h2, h3⟩
    obtain ⟨z1, ⟨u', z2, z3⟩, _⟩ := ex.choose_spec.choose_spec
    have eo : ex.choose = o := Option.some.inj (z1.symm.trans k3)
    have ev : ex.choose_spec.choose = v := by
      have z4 : o.data = .cell (some u') := (congrArg Obj.data eo).symm.trans z3
      rw [k5] at z4
      have eu : u = u' := by injection z4 with z4; injection z4
      rw [eu] at k4
      exact z2.inj k4
    refine ⟨o, k3, ⟨u, k4, k5⟩, ?_⟩
    have q : pick c = some (CellF c ex.choose ex.choose_spec.choose) := dif_pos ex
    exact q.trans (by rw [ev]; exact congrArg (fun z => some (CellF c z v)) eo)
  refine ⟨fun b => if b ∈ cs then pick b else H b, ⟨fun b o e => ?_, fun b hb => ?_, fun b hb => if_neg hb, fun i y v h1 h2 => ?_⟩, ?_⟩
  · have : b ∉ cs := fun z => by
      obtain ⟨i, y, _, e'⟩ := inCs b z
      rw [I.freeC y b e'] at e; cases e
    exact (if_neg this).trans e
  · obtain ⟨i, y, h1, h2⟩ := inCs b hb
    obtain ⟨c', o, v, k1, k2, k3, u, k4, k5⟩ := key i y h1
    obtain ⟨o', _, _, e⟩ := pick_at i y v b h1 k1 h2
    exact ⟨I.freeC y b h2, o', v, (if_pos hb).trans e⟩
  · obtain ⟨c, o, v', k1, k2, k3, u, k4, k5⟩ := key i y h1
    obtain ⟨o', _, _, e⟩ := pick_at i y v c h1 h2 k2
    exact ⟨c, o', k2, (if_pos (List.mem_filterMap.mpr ⟨y, List.mem_of_getElem? h1, k2⟩)).trans e⟩
  · have isC : ∀ b ∈ cs, ∃ o u, s.heap.get? b = some o ∧ o.data = .cell u := fun b hb => by
      obtain ⟨i, y, h1, h2⟩ := inCs b hb
      obtain ⟨v, o, ho, hd⟩ := I.cell y b h2
      exact ⟨o, v, ho, hd⟩
    have e0 := I.env0
    refine ⟨e0.frames, e0.mod, fun b o e => ⟨(e0.bs b o e).1, ?_⟩, e0.bsz, e0.funs, fun b hb => ?_, fun b o e => ?_, e0.bare⟩
    · have nb : b ∉ cs := fun z => by
        obtain ⟨i, y, h1, h2⟩ := inCs b z
        have h3 := I.ok.cab y b (hfn y (List.mem_of_getElem? h1)) h2
        exact absurd (Nat.lt_of_lt_of_le (Heap.lt_size (I.ok.bs b o e).1) h3) (Nat.lt_irrefl _)
      exact (if_neg nb).trans (e0.bs b o e).2
    · have nb : b ∉ cs := fun z => by
        obtain ⟨o, u, ho, hd⟩ := isC b z
        obtain ⟨i, y, h1, h2⟩ := inCs b z
        rcases List.mem_cons.mp (I.stkSub b hb) with e | e
        · exact I.cne y b h2 e
        · obtain ⟨_, o', ho', _⟩ := I.ok.funs.mem e
          exact absurd (Nat.lt_of_lt_of_le (Heap.lt_size ho') (I.ok.cab y b (hfn y (List.mem_of_getElem? h1)) h2)) (Nat.lt_irrefl _)
      exact (if_neg nb).trans (e0.frf b hb)
    · have stay : ∀ {b : Addr} {o : HO}, H b = some o → ObjOk X.prog X.w (fun b => if b ∈ cs then pick b else H b) s.heap b o := fun {b o} e => by
        have nc : ∀ c u, H c = some u → c ∉ cs := fun c u q z => by
          obtain ⟨i, y, _, e'⟩ := inCs c z
          rw [I.freeC y c e'] at q; cases q
        exact (I.hok b o e).stay (fun c v _ q => q) (fun c q => (if_neg (nc c _ q)).trans q) fun c xs q => (if_neg (nc c _ q)).trans q
      by_cases hb : b ∈ cs
      · obtain ⟨i, y, h1, h2⟩ := inCs b hb
        obtain ⟨c', o', v, k1, k2, k3, u, k4, k5⟩ := key i y h1
        obtain ⟨ob, g1, ⟨u', g2, g3⟩, g4⟩ := pick_at i y v b h1 k1 h2
        have e' := ((if_pos hb).symm.trans e : pick b = some o)
        rw [g4] at e'; cases e'
        exact ⟨g1, ⟨u', g2, ob, g1, g3⟩, ⟨ob, g1⟩, fun h1 h2 ⟨u, q1, o1, q2, q3⟩ st => ⟨u, q1, o1, st _ q2, q3⟩⟩
      · exact stay ((if_neg hb).symm.trans e)
/-- behind such a call -/
theorem lend_after {Hp' : Hp} {Q : VK} {u : Value} {s' : Shared} (I : Inv X pins σ H s) (L : Lent X.env.cells fr ws H Hp') (hok0 : HOk X.prog X.w Hp' s.heap) (h : CE X.stack X.prog X.w Hp' s (fun v H' => Q v (cut (cellsFor X.env.cells fr) H')) u s') : EP X pins σ Q u s' := by
  obtain ⟨v, H', os, bare, un, hok, r, q⟩ := h
  generalize hcs : cellsFor X.env.cells fr = cs at q
  have Lcs : ∀ b ∈ cs, H b = none ∧ ∃ o v, Hp' b = some (CellF b o v) := fun b hb => L.cs b (by rw [hcs]; exact hb)
  have Lout : ∀ b, b ∉ cs → Hp' b = H b := fun b hb => L.out b (by rw [hcs]; exact hb)
  have inH' : ∀ b ∈ cs, ∃ o v, H' b = some (CellF b o v) := fun b hb => by
    obtain ⟨_, o, v, e⟩ := Lcs b hb
    exact ⟨o, v, un.frzs b o _ e⟩
  have kc : ∀ b o, H' b = some o → (∀ ob u, o ≠ .frz ob u) → cut cs H' b = some o := fun b o h n => (cut_out fun z => by
    obtain ⟨ob, v, e⟩ := inH' b z
    rw [h] at e
    exact n _ _ (Option.some.inj e)).trans h
  have nH : ∀ b o, H b = some o → b ∉ cs := fun b o h z => by rw [(Lcs b z).1] at h; cases h
  have up : ∀ b, H b = none → b ∉ cs → Hp' b = none := fun b h z => (Lout b z).trans h
  have same_at : ∀ b ∈ cs, ∀ o, s.heap.get? b = some o → s'.heap.get? b = some o := fun b hb o ho => by
    obtain ⟨_, ob, v, e⟩ := Lcs b hb
    obtain ⟨z0, _⟩ := hok0 b _ e
    obtain ⟨z, _⟩ := hok b _ (un.frzs b ob _ e)
    rw [ho] at z0; cases z0; exact z
  have un2 : Un (frs X.stack) [] H (cut cs H') s.heap s'.heap := by
    refine ⟨fun b o e n hb hx => ?_, fun b o e n hb hx => ?_, fun b o e n hx => ?_, un.there, fun b xs e => ?_, fun b o u e => ?_, fun b ps e => ?_⟩
    · by_cases z : b ∈ cs
      · exact same_at b z o e
      · exact un.keep b o e (up b n z) hb hx
    · by_cases z : b ∈ cs
      · exact ⟨o.slots, same_at b z o e⟩
      · exact un.slot b o e (up b n z) hb hx
    · by_cases z : b ∈ cs
      · exact cut_in z
      · exact cut_none (un.free b o e (up b n z) hx)
    · exact kc _ _ (un.tups b xs (L.same b _ e)) fun _ _ z => by cases z
    · exact (cut_out (nH b _ e)).trans (un.frzs b o u (L.same b _ e))
    · obtain ⟨more, q⟩ := un.tbls b ps (L.same b _ e)
      exact ⟨more, kc _ _ q fun _ _ z => by cases z⟩
  have hok2 : HOk X.prog X.w (cut cs H') s'.heap := fun b o e => by
    by_cases z : b ∈ cs
    · rw [cut_in z] at e; cases e
    · rw [cut_out z] at e
      exact (hok b o e).stay (fun _ _ _ k => k) (fun c k => kc _ _ k fun _ _ z => by cases z) fun c xs k => kc _ _ k fun _ _ z => by cases z
  exact I.after ⟨v, cut cs H', os, bare, un2, hok2, r, q⟩
end

/-! ### functions held by values -/
/-- what is at f may be called with values, by the promise sp, as long as what H tells (but tables) stands -/
structure Cb (P : Program) (w : World) (K : PySem.W.Frag) (mg : Str → Option Value) (base : Heap) (k : Nat) (f : Addr) (H : Hp) (sp : Sp) : Prop where
  at_ : ∀ (h : Heap) (H' : Hp), ExtN H H' → HOk P w H' h → PySem.W.FnAt f h
  run : ∀ (A : Around) (outer : List Env) (s : Shared) (H' : Hp) (us : List Value) (vs : List V) (Q : VK) (E : XK), ExtN H H' → Room k A → Env0 P w K mg base A outer s H' → Vals vs us → sp vs H' Q E →
    codeAny (model P w) A (.call (.ref f) ⟨us, []⟩) (CR CX0 outer P w H' s Q E) s
section
variable {P : Program} {w : World} {K : PySem.W.Frag} {mg : Str → Option Value} {base : Heap} {k : Nat} {f : Addr} {H H1 : Hp} {sp sp' : Sp}
theorem Cb.keep (c : Cb P w K mg base k f H sp) (e : ExtN H H1) : Cb P w K mg base k f H1 sp := ⟨fun h H' x => c.at_ h H' (e.trans x), fun A outer s H' us vs Q E x => c.run A outer s H' us vs Q E (e.trans x)⟩
theorem Cb.imp (c : Cb P w K mg base k f H sp) (h : ∀ vs H' Q E, ExtN H H' → sp' vs H' Q E → sp vs H' Q E) : Cb P w K mg base k f H sp' := ⟨c.at_, fun A outer s H' us vs Q E x hr e0 r q => c.run A outer s H' us vs Q E x hr e0 r (h _ _ _ _ x q)⟩
theorem Cb.mono {j : Nat} (c : Cb P w K mg base j f H sp) (h : j ≤ k) : Cb P w K mg base k f H sp := ⟨c.at_, fun A outer s H' us vs Q E x hr => c.run A outer s H' us vs Q E x (hr.mono h)⟩
end
/-- from the body over untold cells to calls while the cells are told -/
theorem cb_core {P : Program} {w : World} {K : PySem.W.Frag} {mg : Str → Option Value} {base : Heap} {A : Around} {outer : List Env} {s : Shared} {H' : Hp} {cs : List Addr} {Q : VK} {E : XK} {code : Code}
    (e0 : Env0 P w K mg base A outer s H') (hcs : ∀ c ∈ cs, ∃ o v, H' c = some (CellF c o v))
    (h : Env0 P w K mg base A outer s (cut cs H') → codeAny (model P w) A code (CR CX0 outer P w (cut cs H') s (fun v H3 => Q v (mix cs H' H3)) E) s) : codeAny (model P w) A code (CR CX0 outer P w H' s Q E) s := by
  have nfr : ∀ b o, H' b = some o → (∀ ob u, o ≠ .frz ob u) → b ∉ cs := fun b o e n z => by
    obtain ⟨ob, v, q⟩ := hcs b z
    rw [e] at q
    exact n _ _ (Option.some.inj q)
  have e1 : Env0 P w K mg base A outer s (cut cs H') := ⟨e0.frames, e0.mod, fun b o e => ⟨(e0.bs b o e).1, cut_none (e0.bs b o e).2⟩, e0.bsz, e0.funs, fun b hb => cut_none (e0.frf b hb), fun b o e => by
    by_cases z : b ∈ cs
    · rw [cut_in z] at e; cases e
    · rw [cut_out z] at e
      exact (e0.hok b o e).stay (fun _ _ _ k => k) (fun c k => (cut_out (nfr c _ k fun _ _ z => by cases z)).trans k) fun c xs k => (cut_out (nfr c _ k fun _ _ z => by cases z)).trans k, e0.bare⟩
  refine codeAny_mono (h e1) fun r s' hq => ?_
  cases r with
  | error e => exact hq
  | ok fl =>
    cases fl with
    | next => exact hq
    | brk => exact hq
    | cont => exact hq
    | ret u =>
      obtain ⟨v, H3, os, bare, un, hok, rv, q⟩ := hq
      have cell : ∀ c ∈ cs, ∀ o, s.heap.get? c = some o → s'.heap.get? c = some o := fun c hc o ho => by
        have nf : c ∉ frs outer := fun z => by
          obtain ⟨ob, v, q⟩ := hcs c hc
          rw [e0.frf c z] at q; cases q
        exact un.keep c o ho (cut_in hc) nf (by simp)
      have free3 : ∀ c ∈ cs, H3 c = none := fun c hc => by
        obtain ⟨ob, v, q⟩ := hcs c hc
        obtain ⟨z, _⟩ := e0.hok c _ q
        exact un.free c ob z (cut_in hc) (by simp)
      have m3 : ∀ b o, H3 b = some o → mix cs H' H3 b = some o := fun b o e => (mix_out fun z => by rw [free3 b z] at e; cases e).trans e
      refine ⟨v, mix cs H' H3, os, bare, ⟨fun b o e n hb hx => un.keep b o e (cut_none n) hb hx, fun b o e n hb hx => un.slot b o e (cut_none n) hb hx, fun b o e n hx => ?_, un.there, fun b xs e => ?_, fun b o u e => ?_, fun b ps e => ?_⟩, fun b o e => ?_, rv, q⟩
      · by_cases z : b ∈ cs
        · exact (mix_in z).trans n
        · exact (mix_out z).trans (un.free b o e (cut_none n) hx)
      · exact m3 _ _ (un.tups b xs ((cut_out (nfr b _ e fun _ _ z => by cases z)).trans e))
      · by_cases z : b ∈ cs
        · exact (mix_in z).trans e
        · exact m3 _ _ (un.frzs b o u ((cut_out z).trans e))
      · obtain ⟨more, q⟩ := un.tbls b ps ((cut_out (nfr b _ e fun _ _ z => by cases z)).trans e)
        exact ⟨more, m3 _ _ q⟩
      · by_cases z : b ∈ cs
        · rw [mix_in z] at e
          obtain ⟨ob, v', q'⟩ := hcs b z
          rw [e] at q'
          have eo := Option.some.inj q'
          subst eo
          obtain ⟨z1, ⟨u', z2, o2, z3, z4⟩, _, z5⟩ := e0.hok b _ e
          have z6 := cell b z ob z1
          rw [z1] at z3; cases z3
          exact ⟨z6, ⟨u', z2, ob, z6, z4⟩, ⟨ob, z6⟩, z5⟩
        · rw [mix_out z] at e
          exact (hok b o e).stay (fun _ _ _ k => k) (fun c k => m3 _ _ k) fun c xs k => m3 _ _ k
/-- the cells that a closure captured are told by H, with the values ws -/
def Told (cl : List (Str × Addr)) (fr : List Str) (ws : List V) (H : Hp) : Prop := ws.length = fr.length ∧ ∀ (i : Nat) y v, fr[i]? = some y → ws[i]? = some v → ∃ c o, cl.lookup y = some c ∧ H c = some (CellF c o v)
theorem Told.keep {cl : List (Str × Addr)} {fr : List Str} {ws : List V} {H H1 : Hp} (t : Told cl fr ws H) (e : ExtN H H1) : Told cl fr ws H1 := ⟨t.1, fun i y v h1 h2 => by
  obtain ⟨c, o, e1, e2⟩ := t.2 i y v h1 h2
  exact ⟨c, o, e1, e c _ e2 fun ps z => by unfold CellF at z; cases z⟩⟩
theorem Lent.told {cl cells : List (Str × Addr)} {fr : List Str} {ws : List V} {H Hp' : Hp} (L : Lent cells fr ws H Hp') (ok : CloOk cl cells fr) (hl : ws.length = fr.length) : Told cl fr ws Hp' := ⟨hl, fun i y v h1 h2 => by
  obtain ⟨c, o, e1, e2⟩ := L.at_ i y v h1 h2
  obtain ⟨c', e3, e4⟩ := ok.has y (List.mem_of_getElem? h1)
  rw [e1] at e3; cases e3
  exact ⟨c, o, e4, e2⟩⟩
theorem told_cells {P : Program} {w : World} {cl cells : List (Str × Addr)} {fr : List Str} {ws : List V} {H : Hp} {h : Heap} (t : Told cl fr ws H) (ok : CloOk cl cells fr) (hok : HOk P w H h) :
    (∀ c ∈ cellsFor cl fr, ∃ o v, H c = some (CellF c o v)) ∧ CellsAt cl fr (ws.map some) h (cut (cellsFor cl fr) H) := by
  have one : ∀ y ∈ fr, ∃ c o v, cl.lookup y = some c ∧ H c = some (CellF c o v) := fun y hy => by
    obtain ⟨i, hi⟩ := List.mem_iff_getElem?.mp hy
    have hlt : i < ws.length := by rw [t.1]; exact (List.getElem?_eq_some_iff.mp hi).1
    obtain ⟨c, o, e1, e2⟩ := t.2 i y _ hi (List.getElem?_eq_getElem hlt)
    exact ⟨c, o, _, e1, e2⟩
  refine ⟨fun c hc => ?_, by rw [List.length_map]; exact t.1, fun y c e => ?_, ok.inj, fun i y e => ?_⟩
  · obtain ⟨y, hy, e⟩ := List.mem_filterMap.mp hc
    obtain ⟨c', o, v, e1, e2⟩ := one y hy
    rw [e] at e1; cases e1
    exact ⟨o, v, e2⟩
  · have hy := (ok.sub y c e).2
    obtain ⟨c', o, v, e1, e2⟩ := one y hy
    rw [e] at e1; cases e1
    obtain ⟨_, ⟨u, _, z⟩, _⟩ := hok c _ e2
    exact ⟨cut_in (List.mem_filterMap.mpr ⟨y, hy, e⟩), some u, z⟩
  · have hlt : i < ws.length := by rw [t.1]; exact (List.getElem?_eq_some_iff.mp e).1
    obtain ⟨c, o, e1, e2⟩ := t.2 i y _ e (List.getElem?_eq_getElem hlt)
    refine ⟨c, e1, fun v ev => ?_⟩
    rw [List.getElem?_map, List.getElem?_eq_getElem hlt] at ev
    have ev2 : ws[i] = v := Option.some.inj (Option.some.inj ev)
    obtain ⟨_, ⟨u, r, z⟩, _⟩ := hok c _ e2
    rw [ev2] at r
    exact ⟨u, r, z⟩
section
variable {P : Program} {w : World} {K : PySem.W.Frag} {mg : Str → Option Value} {base : Heap} {k : Nat} {f : Addr} {H : Hp} {F : NF} {ps fr N : List Str} {ws : List V} {cells : List (Str × Addr)} {spw : List (Option V) → Sp}
/-- a nested def, held -/
theorem cb_def (Fn : NOk P w K mg base CX0 k f F ps fr spw) (hf : H f = some (FnO f F)) (hc : H F.c = some (CodeO F.c F.qual)) (ok : CloOk F.cl cells fr) (t : Told F.cl fr ws H) :
    Cb P w K mg base k f H (fun vs H' Q E => spw (ws.map some) vs (cut (cellsFor F.cl fr) H') (fun v H3 => Q v (mix (cellsFor F.cl fr) H' H3)) E) := by
  have hf' : ∀ H', ExtN H H' → H' f = some (FnO f F) := fun H' e => e f _ hf fnO_ne
  have hc' : ∀ H', ExtN H H' → H' F.c = some (CodeO F.c F.qual) := fun H' e => e _ _ hc codeO_ne
  refine ⟨fun h H' e hok => ?_, fun A outer s H' us vs Q E e hr e0 r q => ?_⟩
  · obtain ⟨od, sl, doc, pm, ctv, ho⟩ := fnO_at hok (hf' H' e)
    exact ⟨_, od, _, sl, ho⟩
  · obtain ⟨h1, h2⟩ := told_cells (t.keep e) ok e0.hok
    have nfr : ∀ b o, H' b = some o → (∀ ob u, o ≠ .frz ob u) → b ∉ cellsFor F.cl fr := fun b o e n z => by
      obtain ⟨ob, v, q⟩ := h1 b z
      rw [e] at q
      exact n _ _ (Option.some.inj q)
    exact cb_core e0 h1 fun e1 => Fn.run A outer s _ us vs (ws.map some) _ E hr e1 ((cut_out (nfr _ _ (hf' H' e) fun _ _ z => by unfold FnO at z; cases z)).trans (hf' H' e)) ((cut_out (nfr _ _ (hc' H' e) fun _ _ z => by unfold CodeO at z; cases z)).trans (hc' H' e)) h2 r q
/-- a lambda's body keeps a promise -/
structure LOk (P : Program) (w : World) (K : PySem.W.Frag) (mg : Str → Option Value) (base : Heap) (k : Nat) (f : Addr) (F : NF) (body : Expr) (ps fr : List Str) (spw : List (Option V) → Sp) : Prop where
  len : ∀ ws vs H Q E, spw ws vs H Q E → vs.length = ps.length
  run : ∀ (A : Around) (outer : List Env) (s : Shared) (H : Hp) (us : List Value) (vs : List V) (ws : List (Option V)) (Q : VK) (E : XK), Room k A → Env0 P w K mg base A outer s H → H f = some (LamO f F body) → H F.c = some (CodeO F.c F.qual) →
    CellsAt F.cl fr ws s.heap H → Vals vs us → spw ws vs H Q E → codeAny (model P w) A (.call (.ref f) ⟨us, []⟩) (CR CX0 outer P w H s Q E) s
theorem lok_of {body : Expr} (S : NScope N ps fr F.scope) (hb : ∀ (pm ctv : Value) (us : List Value), us.length = ps.length → bindArgs (PySem.W.kla_fn F.name F.qual F.params body F.scope F.cl pm (.ref F.c) ctv) ⟨us, []⟩ = pure (ps.zip us)) (len : ∀ ws vs H Q E, spw ws vs H Q E → vs.length = ps.length)
    (hbody : ∀ (A : Around) (outer : List Env) (s : Shared) (H : Hp) (vs : List V) (ws : List (Option V)) (Q : VK) (E : XK), Room k (A.deeper (envF F f s.heap.objs.size)) → ws.length = fr.length → spw ws vs H Q E →
      ∃ t, PE (ncx CX0 P w K mg base N F f A outer s H E).nox body t ∧ t (startF N vs ws) H Q) : LOk P w K mg base (k + 1) f F body ps fr spw := by
  refine ⟨len, fun A outer s H us vs ws Q E hr e0 hf hc C r hsp => ?_⟩
  have hl := len _ _ _ _ _ hsp
  have lim : s.heap.NoLimit := e0.mod.nolimit.keeps fun b o e => (e0.bs b o e).1
  obtain ⟨od, sl, pm, ctv, ho⟩ := lamO_at e0.hok hf
  refine PySem.W.kla_callFunE hr.depth ho rfl S.co S.gen rfl (codeO_at e0.hok hc) ?_
  rw [hb pm ctv us (by rw [← r.length]; exact hl)]
  refine wpAny_pure (wpAny_newFunctionEnv S.nocell (fun ⟨n, _⟩ hy => S.par n (List.of_mem_zip hy).1) (fun h₁ hns hsb => ⟨lim.fresh _ hsb, ?_⟩) S.kind)
  show codeAny _ _ (.expr body (envF F f s.heap.objs.size)) _ _
  have kp : ∀ b o, s.heap.get? b = some o → h₁.get? b = some o := fun b o e => hsb.extBut b o (Nat.ne_of_lt (Heap.lt_size e)) (Heap.get?_push_of_some _ e)
  obtain ⟨t, ht, hq⟩ := hbody A outer s H vs ws Q E (hr.deeper _) C.len hsp
  have I : Inv (ncx CX0 P w K mg base N F f A outer s H E) [] (startF N vs ws) H { s with heap := h₁, toks := s.toks + (ps.zip us).length } := inv_startN S hr.hd e0 hl r C hns kp
  refine PySem.W.kla_codeExpr (wpAny_mono (ht.nox.run [] _ (startF N vs ws) H _ I hq) (fun u s' hs => ?_) fun e s' hs => hs)
  obtain ⟨v, H', J, rv, q⟩ := hs
  exact ⟨v, H', J.os, J.bare, J.base, J.hok, rv, q⟩
theorem cb_lam {body : Expr} (Fn : LOk P w K mg base k f F body ps fr spw) (hf : H f = some (LamO f F body)) (hc : H F.c = some (CodeO F.c F.qual)) (ok : CloOk F.cl cells fr) (t : Told F.cl fr ws H) :
    Cb P w K mg base k f H (fun vs H' Q E => spw (ws.map some) vs (cut (cellsFor F.cl fr) H') (fun v H3 => Q v (mix (cellsFor F.cl fr) H' H3)) E) := by
  have hf' : ∀ H', ExtN H H' → H' f = some (LamO f F body) := fun H' e => e f _ hf fun ps z => by unfold LamO at z; cases z
  have hc' : ∀ H', ExtN H H' → H' F.c = some (CodeO F.c F.qual) := fun H' e => e _ _ hc codeO_ne
  refine ⟨fun h H' e hok => ?_, fun A outer s H' us vs Q E e hr e0 r q => ?_⟩
  · obtain ⟨od, sl, pm, ctv, ho⟩ := lamO_at hok (hf' H' e)
    exact ⟨_, od, _, sl, ho⟩
  · obtain ⟨h1, h2⟩ := told_cells (t.keep e) ok e0.hok
    have nfr : ∀ b o, H' b = some o → (∀ ob u, o ≠ .frz ob u) → b ∉ cellsFor F.cl fr := fun b o e n z => by
      obtain ⟨ob, v, q⟩ := h1 b z
      rw [e] at q
      exact n _ _ (Option.some.inj q)
    exact cb_core e0 h1 fun e1 => Fn.run A outer s _ us vs (ws.map some) _ E hr e1 ((cut_out (nfr _ _ (hf' H' e) fun _ _ z => by unfold LamO at z; cases z)).trans (hf' H' e)) ((cut_out (nfr _ _ (hc' H' e) fun _ _ z => by unfold CodeO at z; cases z)).trans (hc' H' e)) h2 r q
end
/-- what a pure promise of told cells says: cut and mix are nothing to it -/
theorem mix_same {cs : List Addr} {H H3 : Hp} (e : Same (cut cs H) H3) : Same H (mix cs H H3) := fun b o h => by
  by_cases z : b ∈ cs
  · exact (mix_in z).trans h
  · exact (mix_out z).trans (e b o ((cut_out z).trans h))
theorem cut_sol {cs : List Addr} {H : Hp} (h : ∀ c ∈ cs, ∃ o v, H c = some (CellF c o v)) : Sol H (cut cs H) := fun b o e n => (cut_out fun z => by
  obtain ⟨ob, v, q⟩ := h b z
  rw [e] at q
  rw [Option.some.inj q] at n
  exact n).trans e

/-! ### calls -/
/-- x(..), x a name that holds a function at f -/
def tCallF (P : Program) (w : World) (K : PySem.W.Frag) (mg : Str → Option Value) (base : Heap) (k i : Nat) (t : TA) : TE := fun σ H Q => ∃ f sp, σ[i]? = some (some (.ref f)) ∧ Cb P w K mg base k f H sp ∧ t σ H fun vs H1 => ExtN H H1 ∧ sp vs H1 Q E0
section
variable {X : Cx} {CX : CXT} {k i : Nat} {f C : Addr} {fd : FuncData} {ps fr : List Str} {js : List Nat} {sp : Sp} {dvs : List V} {ds : List Value} {E : XK} {x m : Str} {p pos apos : Pos} {e o : Expr} {es : List Expr} {ta : TE} {t : TA}
theorem pe_callF (hr : Room k X.A) (hN : X.N[i]? = some x) (hv : Vis X.env.scope x) (ha : PA X (e :: es) t)
    (hd : (x == ("__debug__" : Str)) = false := by decide) (hcd : (x == ("__classdict__" : Str)) = false := by decide)
    (he : starEach (e :: es) X.env = (false, eval e X.env) :: starEach es X.env := by rfl) (hpl : (backTo pos (starEach es X.env)).any (·.1) = false := by rfl) :
    PE X (.Call (.Name x p) (e :: es) [] pos) (tCallF X.prog X.w X.K X.mg X.base k i t) := by
  refine ⟨fun pins s σ H Q I h => ?_⟩
  obtain ⟨f, sp, hs, c, ht⟩ := h
  refine wpAny_Call_Name_kw (thn ((pe_var (pos := p) hN hv hd hcd).run pins s σ H (fun v H1 => v = .ref f ∧ H1 = H) I ⟨.ref f, hs, rfl, rfl⟩) fun u s1 ⟨v, H1, I1, r1, q1⟩ => ?_)
  obtain ⟨ev, eH⟩ := q1
  subst ev
  rw [eH] at I1
  obtain rfl : u = Value.ref f := r1
  refine PySem.W.callWith_F (first := []) (c.at_ _ H (ExtN.refl H) I1.hok) (thn (ha.run pos pins s1 σ H _ I1 ht) fun us s2 ⟨vs, H2, I2, r, e2, q⟩ => ⟨c.at_ _ H2 e2 I2.hok, ?_⟩) he hpl
  show wpAny _ _ (call (.ref f) us) _ _ _
  refine wpAny_call (codeAny_mono (c.run X.A X.stack s2 H2 us vs Q E0 e2 hr I2.env0 r q) fun r s' hq => ?_)
  cases r with
  | error e => exact hq.elim
  | ok fl =>
    cases fl with
    | ret u => exact I2.after hq
    | next => exact False.elim hq
    | brk => exact False.elim hq
    | cont => exact False.elim hq
/-- the frame's cells fr (at the slots js) are told during the call -/
def tLend (cl : List (Str × Addr)) (fr : List Str) (js : List Nat) (sp : Sp) (E : XK) (σ : L2.St) (vs : List V) (H1 : Hp) (Q : VK) : Prop := ∃ ws, js.map (slotAt σ) = ws.map some ∧ ∀ Hl, Lent cl fr ws H1 Hl → sp vs Hl (fun v H' => Q v (cut (cellsFor cl fr) H')) E
theorem run_lend {pins : List (Addr × Obj)} {σ : L2.St} {H : Hp} {s : Shared} {Q : VK} {us : List Value} {vs : List V} (F : FnOk X.prog X.w X.K X.mg X.base CX0 k f fd ps sp) (hr : Room k X.A) (hb : Binds X.K fd ps ds) (hd : Vals dvs ds)
    (hk : ∀ y ∈ fr, X.env.scope.names.lookup y = some .cell) (hfn : ∀ y ∈ fr, X.fn y = true) (hjs : js.map (fun j => X.N[j]?) = fr.map some)
    (I : Inv X pins σ H s) (r : Vals vs us) (h : tLend X.env.cells fr js sp E0 σ (vs ++ dvs) H Q) : wpAny (model X.prog X.w) X.A (call (.ref f) us) (EP X pins σ Q) X.xe s := by
  obtain ⟨ws, hws, h⟩ := h
  obtain ⟨Hl, L, e0⟩ := lend_env I hk hfn hjs hws
  have hq := h Hl L
  have r2 : Vals (vs ++ dvs) (us ++ ds) := r.append hd
  have hl : (us ++ ds).length = ps.length := by rw [← r2.length]; exact F.len _ _ _ _ hq
  refine wpAny_call (codeAny_mono (F.run X.A X.stack s Hl ⟨us, []⟩ (us ++ ds) (vs ++ dvs) _ E0 hr e0 (hb s us I.kIn hl) r2 hq) fun r s' hq => ?_)
  cases r with
  | error e => exact hq.elim
  | ok fl =>
    cases fl with
    | ret u => exact lend_after I L e0.hok hq
    | next => exact False.elim hq
    | brk => exact False.elim hq
    | cont => exact False.elim hq
/-- f(e, ..) of the text, told the cells fr -/
def tCallD (cl : List (Str × Addr)) (fr : List Str) (js : List Nat) (sp : Sp) (dvs : List V) (t : TA) : TE := fun σ H Q => t σ H fun vs H1 => tLend cl fr js sp E0 σ (vs ++ dvs) H1 Q
theorem pe_callD (fr : List Str) (js : List Nat) (F : FnOk X.prog X.w X.K X.mg X.base CX0 k f fd ps sp) (hr : Room k X.A) (hg : Gl X x) (hm : X.mg x = some (.ref f)) (hkp : PySem.W.keepIn X.K (.ref f) = true) (hb : Binds X.K fd ps ds) (hd : Vals dvs ds)
    (hk : ∀ y ∈ fr, X.env.scope.names.lookup y = some .cell) (hfn : ∀ y ∈ fr, X.fn y = true) (hjs : js.map (fun j => X.N[j]?) = fr.map some)
    (ha : PA X (e :: es) t) (hdb : (x == ("__debug__" : Str)) = false := by decide) (he : starEach (e :: es) X.env = (false, eval e X.env) :: starEach es X.env := by rfl) (hpl : (backTo pos (starEach es X.env)).any (·.1) = false := by rfl) :
    PE X (.Call (.Name x p) (e :: es) [] pos) (tCallD X.env.cells fr js sp dvs t) := by
  refine ⟨fun pins s σ H Q I h => ?_⟩
  refine wpAny_Call_Name_kw (ld_glob I hg hm ?_ hdb)
  refine PySem.W.callWith_K (h₀ := X.base) I.ok.mod.kin hkp (thn (ha.run pos pins s σ H _ I h) fun us s1 ⟨vs, H1, I1, r, q⟩ => ⟨I1.kIn, ?_⟩) he hpl
  exact run_lend F hr hb hd hk hfn hjs I1 r q
/-- o.m(e, ..), told the cells fr -/
def tMethD (cl : List (Str × Addr)) (fr : List Str) (js : List Nat) (C : Addr) (m : Str) (sp : Sp) (dvs : List V) (ta : TE) (t : TA) : TE := fun σ H Q => ta σ H fun x H1 => ∃ a dx fs, x = .ref a ∧ H1 a = some (.ins C dx fs) ∧ fs.lookup m = none ∧
  t σ H1 fun vs H2 => tLend cl fr js sp E0 σ (x :: (vs ++ dvs)) H2 Q
theorem pe_methD {pl : Sem Bool} (fr : List Str) (js : List Nat) (he : PE X o ta) (c : Cls X.K C) (hm : Meth X.K C m f) (F : FnOk X.prog X.w X.K X.mg X.base CX0 k f fd ps sp) (hr : Room k X.A) (hb : Binds X.K fd ps ds) (hd : Vals dvs ds)
    (hk : ∀ y ∈ fr, X.env.scope.names.lookup y = some .cell) (hfn : ∀ y ∈ fr, X.fn y = true) (hjs : js.map (fun j => X.N[j]?) = fr.map some) (ha : PA X (e :: es) t)
    (hst : starEach (e :: es) X.env = (false, eval e X.env) :: starEach es X.env := by rfl) (hpl : (backTo pos (starEach es X.env)).any (·.1) = false := by rfl)
    (ht : eval (.Call (.Attribute o m apos) (e :: es) [] pos) X.env = (do
      let ov ← eval o X.env
      standAt apos.atName
      let (f, first) ← holding [ov] (getMethod ov m pl)
      callWith pos f first (backTo pos (starEach (e :: es) X.env)) (backToKw pos (keywordEach [] X.env))) := by rfl) :
    PE X (.Call (.Attribute o m apos) (e :: es) [] pos) (tMethD X.env.cells fr js C m sp dvs ta t) := by
  refine ⟨fun pins s σ H Q I h => ?_⟩
  refine PySem.W.methodCall_KW (pl := pl) (thn (he.run pins s σ H _ I h) fun u s1 ⟨x, H1, I1, rx, a, dx, fs, ex, ea, l, q⟩ => ?_) ht
  subst ex
  obtain rfl : u = Value.ref a := rx
  refine getmeth_ok I1 ea c hm l ?_
  refine PySem.W.callWith_K (first := [.ref a]) (h₀ := X.base) I.ok.mod.kin hm.kp (thn (ha.run pos pins s1 σ H1 _ I1 q) fun us s2 ⟨vs, H2, I2, r, q2⟩ => ⟨I2.kIn, ?_⟩) hst hpl
  exact run_lend (us := .ref a :: us) (vs := .ref a :: vs) F hr hb hd hk hfn hjs I2 (.cons rfl r) q2
end
end Sw
/-! The text by places, what the top leaves, promises with their calls. -/
namespace Sw
open PySem PySem.Spec PyProof.Rows L2 LamX NdefX
abbrev N_is_number : List Str := ["thing", "least", "most"]
abbrev P_is_number : List Str := ["thing", "least", "most"]
theorem sc_is_number : FnScope N_is_number P_is_number (defScope s_is_number) := ⟨rfl, rfl, rfl, by decide +kernel, rfl, by decide +kernel, by decide +kernel⟩
abbrev N_is_letters : List Str := ["thing", "sign", "one", "other"]
abbrev P_is_letters : List Str := ["thing"]
theorem sc_is_letters : FnScope N_is_letters P_is_letters (defScope s_is_letters) := ⟨rfl, rfl, rfl, by decide +kernel, rfl, by decide +kernel, by decide +kernel⟩
abbrev N_need_letters : List Str := ["thing"]
abbrev P_need_letters : List Str := ["thing"]
theorem sc_need_letters : FnScope N_need_letters P_need_letters (defScope s_need_letters) := ⟨rfl, rfl, rfl, by decide +kernel, rfl, by decide +kernel, by decide +kernel⟩
abbrev N_is_word_to : List Str := ["letters", "thing", "most", "sign"]
abbrev P_is_word_to : List Str := ["letters", "thing", "most"]
theorem sc_is_word_to : FnScope N_is_word_to P_is_word_to (defScope s_is_word_to) := ⟨rfl, rfl, rfl, by decide +kernel, rfl, by decide +kernel, by decide +kernel⟩
abbrev N_is_word : List Str := ["letters", "thing"]
abbrev P_is_word : List Str := ["letters", "thing"]
theorem sc_is_word : FnScope N_is_word P_is_word (defScope s_is_word) := ⟨rfl, rfl, rfl, by decide +kernel, rfl, by decide +kernel, by decide +kernel⟩
abbrev N_need_word : List Str := ["letters", "thing", "most"]
abbrev P_need_word : List Str := ["letters", "thing", "most"]
theorem sc_need_word : FnScope N_need_word P_need_word (defScope s_need_word) := ⟨rfl, rfl, rfl, by decide +kernel, rfl, by decide +kernel, by decide +kernel⟩
abbrev N_is_stand : List Str := ["thing", "many", "size", "to"]
abbrev P_is_stand : List Str := ["thing", "many", "size"]
theorem sc_is_stand : FnScope N_is_stand P_is_stand (defScope s_is_stand) := ⟨rfl, rfl, rfl, by decide +kernel, rfl, by decide +kernel, by decide +kernel⟩
abbrev N_Machine_init : List Str := ["self", "letters", "rows", "row"]
abbrev P_Machine_init : List Str := ["self", "letters", "rows"]
theorem sc_Machine_init : FnScope N_Machine_init P_Machine_init (defScope s_Machine_init) := ⟨rfl, rfl, rfl, by decide +kernel, rfl, by decide +kernel, by decide +kernel⟩
abbrev N_Machine_letters : List Str := ["self"]
abbrev P_Machine_letters : List Str := ["self"]
theorem sc_Machine_letters : FnScope N_Machine_letters P_Machine_letters (defScope s_Machine_letters) := ⟨rfl, rfl, rfl, by decide +kernel, rfl, by decide +kernel, by decide +kernel⟩
abbrev N_Machine_rows : List Str := ["self"]
abbrev P_Machine_rows : List Str := ["self"]
theorem sc_Machine_rows : FnScope N_Machine_rows P_Machine_rows (defScope s_Machine_rows) := ⟨rfl, rfl, rfl, by decide +kernel, rfl, by decide +kernel, by decide +kernel⟩
abbrev N_Machine_behind : List Str := ["self", "word", "stand", "letter"]
abbrev P_Machine_behind : List Str := ["self", "word", "stand"]
theorem sc_Machine_behind : FnScope N_Machine_behind P_Machine_behind (defScope s_Machine_behind) := ⟨rfl, rfl, rfl, by decide +kernel, rfl, by decide +kernel, by decide +kernel⟩
abbrev N_gone_through : List Str := ["letters", "begin", "step", "ends", "numbers", "order", "rows", "stand", "tos", "letter", "to"]
abbrev P_gone_through : List Str := ["letters", "begin", "step", "ends"]
theorem sc_gone_through : FnScope N_gone_through P_gone_through (defScope s_gone_through) := ⟨rfl, rfl, rfl, by decide +kernel, rfl, by decide +kernel, by decide +kernel⟩
abbrev N_classed : List Str := ["rows", "classes", "many", "numbers", "finer", "ends", "tos", "at", "row", "to"]
abbrev P_classed : List Str := ["rows"]
theorem sc_classed : FnScope N_classed P_classed (defScope s_classed) := ⟨rfl, rfl, rfl, by decide +kernel, rfl, by decide +kernel, by decide +kernel⟩
abbrev N_least_rows : List Str := ["rows", "classes", "found", "at", "ends", "tos", "to"]
abbrev P_least_rows : List Str := ["rows"]
theorem sc_least_rows : FnScope N_least_rows P_least_rows (defScope s_least_rows) := ⟨rfl, rfl, rfl, by decide +kernel, rfl, by decide +kernel, by decide +kernel⟩
abbrev N_built : List Str := ["letters", "begin", "step", "ends", "most", "rows"]
abbrev P_built : List Str := ["letters", "begin", "step", "ends", "most"]
theorem sc_built : FnScope N_built P_built (defScope s_built) := ⟨rfl, rfl, rfl, by decide +kernel, rfl, by decide +kernel, by decide +kernel⟩
abbrev N_firsts : List Str := ["machine", "rows", "letters", "found", "order", "later", "stand", "letter", "to", "row"]
abbrev P_firsts : List Str := ["machine"]
theorem sc_firsts : FnScope N_firsts P_firsts (defScope s_firsts) := ⟨rfl, rfl, rfl, by decide +kernel, rfl, by decide +kernel, by decide +kernel⟩
abbrev N_least : List Str := ["machine", "step", "ends", "letters", "rows"]
abbrev P_least : List Str := ["machine"]
theorem sc_least : FnScope N_least P_least (defScope s_least) := ⟨rfl, rfl, rfl, by decide +kernel, rfl, by decide +kernel, by decide +kernel⟩
abbrev N_Algebra_init : List Str := ["self", "machine", "rows", "start"]
abbrev P_Algebra_init : List Str := ["self", "machine"]
theorem sc_Algebra_init : FnScope N_Algebra_init P_Algebra_init (defScope s_Algebra_init) := ⟨rfl, rfl, rfl, by decide +kernel, rfl, by decide +kernel, by decide +kernel⟩
abbrev N_Algebra_led_on : List Str := ["self", "rows", "i", "found", "x", "letter", "doing", "stand"]
abbrev P_Algebra_led_on : List Str := ["self", "rows", "i"]
theorem sc_Algebra_led_on : FnScope N_Algebra_led_on P_Algebra_led_on (defScope s_Algebra_led_on) := ⟨rfl, rfl, rfl, by decide +kernel, rfl, by decide +kernel, by decide +kernel⟩
abbrev N_Algebra_len : List Str := ["self"]
abbrev P_Algebra_len : List Str := ["self"]
theorem sc_Algebra_len : FnScope N_Algebra_len P_Algebra_len (defScope s_Algebra_len) := ⟨rfl, rfl, rfl, by decide +kernel, rfl, by decide +kernel, by decide +kernel⟩
abbrev N_Algebra_need_element : List Str := ["self", "thing"]
abbrev P_Algebra_need_element : List Str := ["self", "thing"]
theorem sc_Algebra_need_element : FnScope N_Algebra_need_element P_Algebra_need_element (defScope s_Algebra_need_element) := ⟨rfl, rfl, rfl, by decide +kernel, rfl, by decide +kernel, by decide +kernel⟩
abbrev N_Algebra_letters : List Str := ["self"]
abbrev P_Algebra_letters : List Str := ["self"]
theorem sc_Algebra_letters : FnScope N_Algebra_letters P_Algebra_letters (defScope s_Algebra_letters) := ⟨rfl, rfl, rfl, by decide +kernel, rfl, by decide +kernel, by decide +kernel⟩
abbrev N_Algebra_words : List Str := ["self"]
abbrev P_Algebra_words : List Str := ["self"]
theorem sc_Algebra_words : FnScope N_Algebra_words P_Algebra_words (defScope s_Algebra_words) := ⟨rfl, rfl, rfl, by decide +kernel, rfl, by decide +kernel, by decide +kernel⟩
abbrev N_Algebra_element : List Str := ["self", "word", "letters", "found", "letter"]
abbrev P_Algebra_element : List Str := ["self", "word"]
theorem sc_Algebra_element : FnScope N_Algebra_element P_Algebra_element (defScope s_Algebra_element) := ⟨rfl, rfl, rfl, by decide +kernel, rfl, by decide +kernel, by decide +kernel⟩
abbrev N_Algebra_product : List Str := ["self", "i", "j", "first", "second", "stand"]
abbrev P_Algebra_product : List Str := ["self", "i", "j"]
theorem sc_Algebra_product : FnScope N_Algebra_product P_Algebra_product (defScope s_Algebra_product) := ⟨rfl, rfl, rfl, by decide +kernel, rfl, by decide +kernel, by decide +kernel⟩
abbrev N_Algebra_times : List Str := ["self", "i", "j"]
abbrev P_Algebra_times : List Str := ["self", "i", "j"]
theorem sc_Algebra_times : FnScope N_Algebra_times P_Algebra_times (defScope s_Algebra_times) := ⟨rfl, rfl, rfl, by decide +kernel, rfl, by decide +kernel, by decide +kernel⟩
abbrev N_next_of : List Str := ["machine", "letter", "at", "ends", "tos"]
abbrev P_next_of : List Str := ["machine", "letter"]
theorem sc_next_of : FnScope N_next_of P_next_of (defScope s_next_of) := ⟨rfl, rfl, rfl, by decide +kernel, rfl, by decide +kernel, by decide +kernel⟩
abbrev N_ends_of : List Str := ["machine", "ends", "tos"]
abbrev P_ends_of : List Str := ["machine"]
theorem sc_ends_of : FnScope N_ends_of P_ends_of (defScope s_ends_of) := ⟨rfl, rfl, rfl, by decide +kernel, rfl, by decide +kernel, by decide +kernel⟩
abbrev N_walked : List Str := ["machine", "by_letter", "letter"]
abbrev P_walked : List Str := ["machine"]
theorem sc_walked : FnScope N_walked P_walked (defScope s_walked) := ⟨rfl, rfl, rfl, by decide +kernel, rfl, by decide +kernel, by decide +kernel⟩
abbrev N_all_but : List Str := ["machine", "ends"]
abbrev P_all_but : List Str := ["machine"]
theorem sc_all_but : FnScope N_all_but P_all_but (defScope s_all_but) := ⟨rfl, rfl, rfl, by decide +kernel, rfl, by decide +kernel, by decide +kernel⟩
abbrev N_left_behind : List Str := ["machine", "word", "ends"]
abbrev P_left_behind : List Str := ["machine", "word"]
theorem sc_left_behind : FnScope N_left_behind P_left_behind (defScope s_left_behind) := ⟨rfl, rfl, rfl, by decide +kernel, rfl, by decide +kernel, by decide +kernel⟩
abbrev N_may_stand : List Str := ["letters", "thing", "sort"]
abbrev P_may_stand : List Str := ["letters", "thing", "sort"]
theorem sc_may_stand : FnScope N_may_stand P_may_stand (defScope s_may_stand) := ⟨rfl, rfl, rfl, by decide +kernel, rfl, by decide +kernel, by decide +kernel⟩
abbrev N_is_swing : List Str := ["letters", "thing", "form", "one", "sort"]
abbrev P_is_swing : List Str := ["letters", "thing"]
theorem sc_is_swing : FnScope N_is_swing P_is_swing (defScope s_is_swing) := ⟨rfl, rfl, rfl, by decide +kernel, rfl, by decide +kernel, by decide +kernel⟩
abbrev N_swing_parts : List Str := ["swing", "shape", "rest", "u", "y", "v", "s", "z", "t", "w", "x", "p"]
abbrev P_swing_parts : List Str := ["swing"]
theorem sc_swing_parts : FnScope N_swing_parts P_swing_parts (defScope s_swing_parts) := ⟨rfl, rfl, rfl, by decide +kernel, rfl, by decide +kernel, by decide +kernel⟩
abbrev N_led_about : List Str := ["shape", "rest", "first", "u", "y", "v", "pair", "x", "side"]
abbrev P_led_about : List Str := ["shape", "rest"]
theorem sc_led_about : FnScope N_led_about P_led_about (defScope s_led_about) := ⟨rfl, rfl, rfl, by decide +kernel, rfl, by decide +kernel, by decide +kernel⟩
abbrev N_Walks_init : List Str := ["self", "machine"]
abbrev P_Walks_init : List Str := ["self", "machine"]
theorem sc_Walks_init : FnScope N_Walks_init P_Walks_init (defScope s_Walks_init) := ⟨rfl, rfl, rfl, by decide +kernel, rfl, by decide +kernel, by decide +kernel⟩
abbrev N_Walks_moved : List Str := ["self", "some", "letter", "at", "stand"]
abbrev P_Walks_moved : List Str := ["self", "some", "letter"]
theorem sc_Walks_moved : FnScope N_Walks_moved P_Walks_moved (defScope s_Walks_moved) := ⟨rfl, rfl, rfl, by decide +kernel, rfl, by decide +kernel, by decide +kernel⟩
abbrev N_Walks_word_from : List Str := ["self", "some", "is_due", "waiting", "met", "here", "word", "letter", "there"]
abbrev P_Walks_word_from : List Str := ["self", "some", "is_due"]
theorem sc_Walks_word_from : FnScope N_Walks_word_from P_Walks_word_from (defScope s_Walks_word_from) := ⟨rfl, rfl, rfl, by decide +kernel, rfl, by decide +kernel, by decide +kernel⟩
abbrev N_Walks_round_of : List Str := ["self", "some"]
abbrev P_Walks_round_of : List Str := ["self", "some"]
theorem sc_Walks_round_of : FnScope N_Walks_round_of P_Walks_round_of (defScope s_Walks_round_of) := ⟨rfl, rfl, rfl, by decide +kernel, rfl, by decide +kernel, by decide +kernel⟩
abbrev N_Walks_ends : List Str := ["self", "stand"]
abbrev P_Walks_ends : List Str := ["self", "stand"]
theorem sc_Walks_ends : FnScope N_Walks_ends P_Walks_ends (defScope s_Walks_ends) := ⟨rfl, rfl, rfl, by decide +kernel, rfl, by decide +kernel, by decide +kernel⟩
abbrev N_Walks_to_end : List Str := ["self", "stand", "due"]
abbrev P_Walks_to_end : List Str := ["self", "stand", "due"]
theorem sc_Walks_to_end : FnScope N_Walks_to_end P_Walks_to_end (defScope s_Walks_to_end) := ⟨rfl, rfl, rfl, by decide +kernel, rfl, by decide +kernel, by decide +kernel⟩
abbrev N_Walks_parting : List Str := ["self", "one", "other", "word"]
abbrev P_Walks_parting : List Str := ["self", "one", "other"]
theorem sc_Walks_parting : FnScope N_Walks_parting P_Walks_parting (defScope s_Walks_parting) := ⟨rfl, rfl, rfl, by decide +kernel, rfl, by decide +kernel, by decide +kernel⟩
abbrev N_Walks_all_stands : List Str := ["self"]
abbrev P_Walks_all_stands : List Str := ["self"]
theorem sc_Walks_all_stands : FnScope N_Walks_all_stands P_Walks_all_stands (defScope s_Walks_all_stands) := ⟨rfl, rfl, rfl, by decide +kernel, rfl, by decide +kernel, by decide +kernel⟩
abbrev N_few_swing : List Str := ["walks", "found", "due", "some", "stand"]
abbrev P_few_swing : List Str := ["walks"]
theorem sc_few_swing : FnScope N_few_swing P_few_swing (defScope s_few_swing) := ⟨rfl, rfl, rfl, by decide +kernel, rfl, by decide +kernel, by decide +kernel⟩
abbrev N_starts_swing : List Str := ["walks", "stand", "words", "again"]
abbrev P_starts_swing : List Str := ["walks"]
theorem sc_starts_swing : FnScope N_starts_swing P_starts_swing (defScope s_starts_swing) := ⟨rfl, rfl, rfl, by decide +kernel, rfl, by decide +kernel, by decide +kernel⟩
abbrev N_ends_swing : List Str := ["walks", "one", "other", "again", "word", "inside", "u", "v"]
abbrev P_ends_swing : List Str := ["walks"]
theorem sc_ends_swing : FnScope N_ends_swing P_ends_swing (defScope s_ends_swing) := ⟨rfl, rfl, rfl, by decide +kernel, rfl, by decide +kernel, by decide +kernel⟩
abbrev N_counts_swing : List Str := ["walks", "stand", "x", "y", "one", "other", "word", "inside"]
abbrev P_counts_swing : List Str := ["walks"]
theorem sc_counts_swing : FnScope N_counts_swing P_counts_swing (defScope s_counts_swing) := ⟨rfl, rfl, rfl, by decide +kernel, rfl, by decide +kernel, by decide +kernel⟩
abbrev N_falling_swing : List Str := ["walks", "x", "there", "y", "word", "inside", "stand"]
abbrev P_falling_swing : List Str := ["walks"]
theorem sc_falling_swing : FnScope N_falling_swing P_falling_swing (defScope s_falling_swing) := ⟨rfl, rfl, rfl, by decide +kernel, rfl, by decide +kernel, by decide +kernel⟩
abbrev N_led_ahead : List Str := ["algebra", "ahead", "letter", "i", "one"]
abbrev P_led_ahead : List Str := ["algebra"]
theorem sc_led_ahead : FnScope N_led_ahead P_led_ahead (defScope s_led_ahead) := ⟨rfl, rfl, rfl, by decide +kernel, rfl, by decide +kernel, by decide +kernel⟩
abbrev N_on_rounds : List Str := ["leads", "left", "many", "i", "j"]
abbrev P_on_rounds : List Str := ["leads"]
theorem sc_on_rounds : FnScope N_on_rounds P_on_rounds (defScope s_on_rounds) := ⟨rfl, rfl, rfl, by decide +kernel, rfl, by decide +kernel, by decide +kernel⟩
abbrev N_word_ahead : List Str := ["letters", "leads", "i", "j", "waiting", "met", "here", "word", "letter", "there"]
abbrev P_word_ahead : List Str := ["letters", "leads", "i", "j"]
theorem sc_word_ahead : FnScope N_word_ahead P_word_ahead (defScope s_word_ahead) := ⟨rfl, rfl, rfl, by decide +kernel, rfl, by decide +kernel, by decide +kernel⟩
abbrev N_stand_apart : List Str := ["walks", "one", "other", "stand", "there"]
abbrev P_stand_apart : List Str := ["walks", "one", "other"]
theorem sc_stand_apart : FnScope N_stand_apart P_stand_apart (defScope s_stand_apart) := ⟨rfl, rfl, rfl, by decide +kernel, rfl, by decide +kernel, by decide +kernel⟩
abbrev N_subwords_swing : List Str := ["walks", "algebra", "found", "leads", "i", "word", "y", "j", "x", "stand", "one", "other", "behind", "inside"]
abbrev P_subwords_swing : List Str := ["walks"]
theorem sc_subwords_swing : FnScope N_subwords_swing P_subwords_swing (defScope s_subwords_swing) := ⟨rfl, rfl, rfl, by decide +kernel, rfl, by decide +kernel, by decide +kernel⟩
abbrev N_round_by : List Str := ["walks", "word", "stand", "row", "there"]
abbrev P_round_by : List Str := ["walks", "word"]
theorem sc_round_by : FnScope N_round_by P_round_by (defScope s_round_by) := ⟨rfl, rfl, rfl, by decide +kernel, rfl, by decide +kernel, by decide +kernel⟩
abbrev N_starfree_swing : List Str := ["walks", "algebra", "word", "row", "behind", "inside", "marks", "at", "stand", "k"]
abbrev P_starfree_swing : List Str := ["walks"]
theorem sc_starfree_swing : FnScope N_starfree_swing P_starfree_swing (defScope s_starfree_swing) := ⟨rfl, rfl, rfl, by decide +kernel, rfl, by decide +kernel, by decide +kernel⟩
abbrev N_turning_swing : List Str := ["walks", "letter", "stand", "row", "there", "start", "size", "many", "word", "inside"]
abbrev P_turning_swing : List Str := ["walks"]
theorem sc_turning_swing : FnScope N_turning_swing P_turning_swing (defScope s_turning_swing) := ⟨rfl, rfl, rfl, by decide +kernel, rfl, by decide +kernel, by decide +kernel⟩
abbrev N_swing : List Str := ["shape", "machine", "deeds"]
abbrev P_swing : List Str := ["shape", "machine"]
theorem sc_swing : FnScope N_swing P_swing (defScope s_swing) := ⟨rfl, rfl, rfl, by decide +kernel, rfl, by decide +kernel, by decide +kernel⟩
abbrev N_walked_to : List Str := ["machine", "stand", "word", "at"]
abbrev P_walked_to : List Str := ["machine", "stand", "word"]
theorem sc_walked_to : FnScope N_walked_to P_walked_to (defScope s_walked_to) := ⟨rfl, rfl, rfl, by decide +kernel, rfl, by decide +kernel, by decide +kernel⟩
abbrev N_is_in : List Str := ["machine", "stand", "word"]
abbrev P_is_in : List Str := ["machine", "stand", "word"]
theorem sc_is_in : FnScope N_is_in P_is_in (defScope s_is_in) := ⟨rfl, rfl, rfl, by decide +kernel, rfl, by decide +kernel, by decide +kernel⟩
abbrev N_shows : List Str := ["machine", "thing", "ahead", "middle", "behind", "before", "again", "after", "here", "met"]
abbrev P_shows : List Str := ["machine", "thing"]
theorem sc_shows : FnScope N_shows P_shows (defScope s_shows) := ⟨rfl, rfl, rfl, by decide +kernel, rfl, by decide +kernel, by decide +kernel⟩
abbrev N_q_begun : List Str := ["_law_script", "_law_wide", "_law_cell"]
abbrev P_q_begun : List Str := ["_law_script"]
theorem sc_q_begun : FnScope N_q_begun P_q_begun (defScope s_q_begun) := ⟨rfl, rfl, rfl, by decide +kernel, rfl, by decide +kernel, by decide +kernel⟩
abbrev N_q_mixed : List Str := ["_law_state", "_law_turn", "_law_found", "_law_prime", "_law_blend", "_law_cell"]
abbrev P_q_mixed : List Str := ["_law_state"]
theorem sc_q_mixed : FnScope N_q_mixed P_q_mixed (defScope s_q_mixed) := ⟨rfl, rfl, rfl, by decide +kernel, rfl, by decide +kernel, by decide +kernel⟩
abbrev N_q_take : List Str := ["_law_state", "_law_size", "_law_found"]
abbrev P_q_take : List Str := ["_law_state", "_law_size"]
theorem sc_q_take : FnScope N_q_take P_q_take (defScope s_q_take) := ⟨rfl, rfl, rfl, by decide +kernel, rfl, by decide +kernel, by decide +kernel⟩
abbrev N_q_pick : List Str := ["_law_state", "_law_picks"]
abbrev P_q_pick : List Str := ["_law_state", "_law_picks"]
theorem sc_q_pick : FnScope N_q_pick P_q_pick (defScope s_q_pick) := ⟨rfl, rfl, rfl, by decide +kernel, rfl, by decide +kernel, by decide +kernel⟩
abbrev N_q_abc : List Str := ["_law_state", "_law_fewest", "_law_greatest", "_law_small", "_law_found", "_law_turn", "_law_left", "_law_sign"]
abbrev P_q_abc : List Str := ["_law_state", "_law_fewest", "_law_greatest"]
theorem sc_q_abc : FnScope N_q_abc P_q_abc (defScope s_q_abc) := ⟨rfl, rfl, rfl, by decide +kernel, rfl, by decide +kernel, by decide +kernel⟩
abbrev N_q_token : List Str := ["_law_state", "_law_abc_here", "_law_greatest", "_law_size", "_law_turn"]
abbrev P_q_token : List Str := ["_law_state", "_law_abc_here", "_law_greatest"]
theorem sc_q_token : FnScope N_q_token P_q_token (defScope s_q_token) := ⟨rfl, rfl, rfl, by decide +kernel, rfl, by decide +kernel, by decide +kernel⟩
abbrev N_q_table : List Str := ["_law_state", "_law_abc_here", "_law_most", "_law_many", "_law_rare", "_law_table_here", "_law_stood", "_law_near", "_law_sign"]
abbrev P_q_table : List Str := ["_law_state", "_law_abc_here", "_law_most"]
theorem sc_q_table : FnScope N_q_table P_q_table (defScope s_q_table) := ⟨rfl, rfl, rfl, by decide +kernel, rfl, by decide +kernel, by decide +kernel⟩
abbrev N_q_drawn_table : List Str := ["_law_state", "_law_abc_here", "_law_way", "_law_many", "_law_columns", "_law_home", "_law_sign", "_law_left", "_law_goal", "_law_far", "_law_turn", "_law_k", "_law_stood", "_law_column"]
abbrev P_q_drawn_table : List Str := ["_law_state", "_law_abc_here"]
theorem sc_q_drawn_table : FnScope N_q_drawn_table P_q_drawn_table (defScope s_q_drawn_table) := ⟨rfl, rfl, rfl, by decide +kernel, rfl, by decide +kernel, by decide +kernel⟩
abbrev N_q_asked : List Str := ["_law_kind", "_law_box", "_law_found"]
abbrev P_q_asked : List Str := ["_law_kind", "_law_box"]
theorem sc_q_asked : FnScope N_q_asked P_q_asked (defScope s_q_asked) := ⟨rfl, rfl, rfl, by decide +kernel, rfl, by decide +kernel, by decide +kernel⟩
abbrev N_q_turned : List Str := ["_law_told", "_law_kind", "_law_at"]
abbrev P_q_turned : List Str := ["_law_told"]
theorem sc_q_turned : FnScope N_q_turned P_q_turned (defScope s_q_turned) := ⟨rfl, rfl, rfl, by decide +kernel, rfl, by decide +kernel, by decide +kernel⟩
abbrev N_q_ahead : List Str := ["_law_told", "_law_token_here", "_law_kind", "_law_at", "_law_found"]
abbrev P_q_ahead : List Str := ["_law_told", "_law_token_here"]
theorem sc_q_ahead : FnScope N_q_ahead P_q_ahead (defScope s_q_ahead) := ⟨rfl, rfl, rfl, by decide +kernel, rfl, by decide +kernel, by decide +kernel⟩
abbrev N_law : List Str := ["_law_script", "_law_state", "_law_abc_here", "_law_box", "_law_token_here", "_law_small", "_law_other", "_law_behind_it", "_law_kind", "_law_told", "_law_turned_here", "_law_left", "_law_one"]
abbrev P_law : List Str := ["_law_script"]
theorem sc_law : FnScope N_law P_law (defScope s_law) := ⟨rfl, rfl, rfl, by decide +kernel, rfl, by decide +kernel, by decide +kernel⟩

/-! ### where the defs stand -/
def DefF (K : PySem.W.Frag) (mg : Str → Option Value) (x : Str) (st : Stmt) (kws : List (Str × V)) : Prop := ∃ f fd, FunD K x x (defArgs st) (defBody st) (defScope st) [] kws f fd ∧ mg x = some (.ref f)
def MetF (K : PySem.W.Frag) (C : Addr) (m q : Str) (st : Stmt) (kws : List (Str × V)) : Prop := ∃ f fd, FunD K m q (defArgs st) (defBody st) (defScope st) [] kws f fd ∧ Meth K C m f
/-- a def that makes closures: its code object at c, the table of code objects at P -/
def FunC (K : PySem.W.Frag) (x q : Str) (st : Stmt) (f c : Addr) (fd : FuncData) : Prop := ∃ (oc : Value) (od : Option Addr) (kV doc pm ct : Value) (an : Option Addr) (osl : Array (Option Value)),
  fd = PySem.W.fnOf x q (defArgs st) (defBody st) (defScope st) .none kV doc pm an (.ref c) ct ∧ K.lookup f = some ⟨oc, od, .func fd, osl⟩ ∧ PySem.W.codeIn K (.ref c) q = true
def DefC (K : PySem.W.Frag) (mg : Str → Option Value) (base : Heap) (x : Str) (st : Stmt) (c P : Addr) : Prop := ∃ f fd, FunC K x x st f c fd ∧ mg x = some (.ref f) ∧ PySem.W.keepIn K (.ref f) = true ∧ TabB base mg c P
def MetC (K : PySem.W.Frag) (mg : Str → Option Value) (base : Heap) (C : Addr) (m q : Str) (st : Stmt) (c P : Addr) : Prop := ∃ f fd, FunC K m q st f c fd ∧ Meth K C m f ∧ TabB base mg c P
/-- the def x keeps the promise sp -/
structure Pr (P : Program) (w : World) (K : PySem.W.Frag) (mg : Str → Option Value) (base : Heap) (CX : CXT) (k : Nat) (x : Str) (ps : List Str) (dvs : List V) (sp : Sp) : Prop where
  ex : ∃ f fd ds, mg x = some (.ref f) ∧ PySem.W.keepIn K (.ref f) = true ∧ Binds K fd ps ds ∧ Vals dvs ds ∧ FnOk P w K mg base CX k f fd ps sp
structure Pm (P : Program) (w : World) (K : PySem.W.Frag) (mg : Str → Option Value) (base : Heap) (CX : CXT) (k : Nat) (C : Addr) (m : Str) (ps : List Str) (dvs : List V) (sp : Sp) : Prop where
  ex : ∃ f fd ds, Meth K C m f ∧ Binds K fd ps ds ∧ Vals dvs ds ∧ FnOk P w K mg base CX k f fd ps sp
abbrev BindsPos (x q : Str) (st : Stmt) (ps : List Str) : Prop := ∀ (kV doc pm : Value) (an : Option Addr) (cdv ct : Value) (us : List Value), us.length = ps.length → bindArgs (PySem.W.fnOf x q (defArgs st) (defBody st) (defScope st) Value.none kV doc pm an cdv ct) { pos := us } = pure (ps.zip us)
abbrev SpLen (sp : Sp) (ps : List Str) : Prop := ∀ (vs : List V) (H : Hp) (Q : VK) (E : XK), sp vs H Q E → vs.length = ps.length
abbrev Body (P : Program) (w : World) (K : PySem.W.Frag) (mg : Str → Option Value) (base : Heap) (CX : CXT) (k : Nat) (N : List Str) (q : Str) (st : Stmt) (f : Addr) (cdv : Value) (sp : Sp) : Prop :=
  ∀ (A : Around) (outer : List Env) (s : Shared) (H : Hp) (vs : List V) (Q : VK) (E : XK), Room k (A.deeper (PyProof.Rows.envOfC q (defScope st) s.heap.objs.size f cdv)) → sp vs H Q E →
    ∃ t, PSs (cxOf CX P w K mg base N q (defScope st) f cdv A outer s H E) (defBody st) t ∧ t { nx := fun _ H' => Q V.non H', rt := Q } (L2.start N vs) H
section
variable {P : Program} {w : World} {K : PySem.W.Frag} {mg : Str → Option Value} {base : Heap} {CX : CXT} {k : Nat} {x q : Str} {C c T : Addr} {st : Stmt} {N ps : List Str} {sp : Sp} {kws : List (Str × V)}
theorem DefF.pr (F : DefF K mg x st kws) (S : FnScope N ps (defScope st)) (b : BindsPos x x st ps) (len : SpLen sp ps) (h : ∀ f cdv, Body P w K mg base CX k N x st f cdv sp) : Pr P w K mg base CX (k + 1) x ps [] sp := by
  obtain ⟨f, fd, F, g⟩ := F
  exact ⟨f, fd, [], g, F.kp, F.bindsN b, .nil, F.ok S len fun cdv A outer s H vs Q E hr hs => h f cdv A outer s H vs Q E hr hs⟩
theorem MetF.pm (F : MetF K C x q st kws) (S : FnScope N ps (defScope st)) (b : BindsPos x q st ps) (len : SpLen sp ps) (h : ∀ f cdv, Body P w K mg base CX k N q st f cdv sp) : Pm P w K mg base CX (k + 1) C x ps [] sp := by
  obtain ⟨f, fd, F, g⟩ := F
  exact ⟨f, fd, [], g, F.bindsN b, .nil, F.ok S len fun cdv A outer s H vs Q E hr hs => h f cdv A outer s H vs Q E hr hs⟩
theorem FunC.binds {f : Addr} {fd : FuncData} (F : FunC K x q st f c fd) (b : BindsPos x q st ps) : Binds K fd ps [] := by
  obtain ⟨oc, od, kV, doc, pm, ct, an, osl, e, _⟩ := F
  subst e
  intro s us _ hl
  rw [List.append_nil] at hl ⊢
  exact .of_eq (b kV doc pm an (.ref c) ct us hl)
theorem FunC.ok {f : Addr} {fd : FuncData} (F : FunC K x q st f c fd) (S : FnScope N ps (defScope st)) (len : SpLen sp ps) (h : Body P w K mg base CX k N q st f (.ref c) sp) : FnOk P w K mg base CX (k + 1) f fd ps sp := by
  obtain ⟨oc, od, kV, doc, pm, ct, an, osl, e, lk, hc⟩ := F
  subst e
  exact fn_of lk hc S len fun A outer s H vs Q E hr hs => h A outer s H vs Q E hr hs
theorem DefC.pr (F : DefC K mg base x st c T) (S : FnScope N ps (defScope st)) (b : BindsPos x x st ps) (len : SpLen sp ps) (h : TabB base mg c T → ∀ f, Body P w K mg base CX k N x st f (.ref c) sp) : Pr P w K mg base CX (k + 1) x ps [] sp := by
  obtain ⟨f, fd, F, g, kp, tb⟩ := F
  exact ⟨f, fd, [], g, kp, F.binds b, .nil, F.ok S len (h tb f)⟩
theorem MetC.pm (F : MetC K mg base C x q st c T) (S : FnScope N ps (defScope st)) (b : BindsPos x q st ps) (len : SpLen sp ps) (h : TabB base mg c T → ∀ f, Body P w K mg base CX k N q st f (.ref c) sp) : Pm P w K mg base CX (k + 1) C x ps [] sp := by
  obtain ⟨f, fd, F, g, tb⟩ := F
  exact ⟨f, fd, [], g, F.binds b, .nil, F.ok S len (h tb f)⟩
end
section
variable {X : Cx} {CX : CXT} {k : Nat} {x m : Str} {C : Addr} {ps : List Str} {dvs : List V} {sp : Sp} {E : XK} {p pos apos : Pos} {e o : Expr} {es : List Expr} {t : TA} {ta : TE}
theorem pe_callP (h : Pr X.prog X.w X.K X.mg X.base CX k x ps dvs sp) (hr : Room k X.A) (hg : Gl X x) (hx : Passes CX X E) (ha : PA X (e :: es) t) (hd : (x == ("__debug__" : Str)) = false := by decide +kernel)
    (he : starEach (e :: es) X.env = (false, eval e X.env) :: starEach es X.env := by rfl) (hpl : (backTo pos (starEach es X.env)).any (·.1) = false := by rfl) :
    PE X (.Call (.Name x p) (e :: es) [] pos) (tCall sp dvs E t) := by
  obtain ⟨f, fd, ds, g, kp, b, v, G⟩ := h.ex
  exact pe_call G hr hg g kp b v hx ha hd he hpl
theorem pe_methP {pl : Sem Bool} (ho : PE X o ta) (c : Cls X.K C) (h : Pm X.prog X.w X.K X.mg X.base CX k C m ps dvs sp) (hr : Room k X.A) (hx : Passes CX X E) (ha : PA X (e :: es) t)
    (he : starEach (e :: es) X.env = (false, eval e X.env) :: starEach es X.env := by rfl) (hpl : (backTo pos (starEach es X.env)).any (·.1) = false := by rfl)
    (ht : eval (.Call (.Attribute o m apos) (e :: es) [] pos) X.env = (do
      let ov ← eval o X.env
      standAt apos.atName
      let (f, first) ← holding [ov] (getMethod ov m pl)
      callWith pos f first (backTo pos (starEach (e :: es) X.env)) (backToKw pos (keywordEach [] X.env))) := by rfl) :
    PE X (.Call (.Attribute o m apos) (e :: es) [] pos) (tMeth C m sp dvs E ta t) := by
  obtain ⟨f, fd, ds, g, b, v, G⟩ := h.ex
  exact pe_meth ho c g G hr b v hx ha he hpl ht
theorem pe_methP0 {pl : Sem Bool} (ho : PE X o ta) (c : Cls X.K C) (h : Pm X.prog X.w X.K X.mg X.base CX k C m ps dvs sp) (hr : Room k X.A) (hx : Passes CX X E)
    (ht : eval (.Call (.Attribute o m apos) [] [] pos) X.env = (do
      let ov ← eval o X.env
      standAt apos.atName
      let (f, first) ← holding [ov] (getMethod ov m pl)
      callWith pos f first (backTo pos (starEach [] X.env)) (backToKw pos (keywordEach [] X.env))) := by rfl) :
    PE X (.Call (.Attribute o m apos) [] [] pos) (tMeth C m sp dvs E ta tNil) := by
  obtain ⟨f, fd, ds, g, b, v, G⟩ := h.ex
  exact pe_meth0 ho c g G hr b v hx ht
theorem pe_makeP (mk : PySem.W.makesIn X.K C = true) (kp : PySem.W.keepIn X.K (.ref C) = true) (h : Pm X.prog X.w X.K X.mg X.base CX k C "__init__" ps dvs sp) (hr : Room (k + 1) X.A) (hg : Gl X x) (hm : X.mg x = some (.ref C)) (hx : Passes CX X E) (ha : PA X (e :: es) t) (hd : (x == ("__debug__" : Str)) = false := by decide +kernel)
    (he : starEach (e :: es) X.env = (false, eval e X.env) :: starEach es X.env := by rfl) (hpl : (backTo pos (starEach es X.env)).any (·.1) = false := by rfl) :
    PE X (.Call (.Name x p) (e :: es) [] pos) (tMake C sp dvs E t) := by
  obtain ⟨f, fd, ds, g, b, v, G⟩ := h.ex
  exact pe_make ⟨mk, g.at_, g.fn, kp⟩ G hr hg hm b v hx ha hd he hpl
end

/-- what the top leaves -/
structure Tx (K : PySem.W.Frag) (mg : Str → Option Value) (CM CA CW CG : Addr) : Prop where
  z_len : mg "len" = none
  z_isinstance : mg "isinstance" = none
  z_int : mg "int" = none
  z_bool : mg "bool" = none
  z_str : mg "str" = none
  z_list : mg "list" = none
  z_tuple : mg "tuple" = none
  z_all : mg "all" = none
  z_any : mg "any" = none
  z_zip : mg "zip" = none
  z_range : mg "range" = none
  z_enumerate : mg "enumerate" = none
  z_sorted : mg "sorted" = none
  z_min : mg "min" = none
  i_MOST_LETTERS : ∃ t, mg "MOST_LETTERS" = some (.int 4 t)
  i_MOST_IN_WORD : ∃ t, mg "MOST_IN_WORD" = some (.int 20000 t)
  i_MOST_STANDS : ∃ t, mg "MOST_STANDS" = some (.int 60 t)
  i_MOST_ELEMENTS : ∃ t, mg "MOST_ELEMENTS" = some (.int 200 t)
  i_MOST_SIGNS : ∃ t, mg "MOST_SIGNS" = some (.int 4000 t)
  i_MOST_ROUND : ∃ t, mg "MOST_ROUND" = some (.int 60 t)
  i_PIECE : ∃ t, mg "PIECE" = some (.int 10000 t)
  s_SMALL : ∃ t, mg "SMALL" = some (.str "abcdefghijklmnopqrstuvwxyz" t)
  clCM : Cls K CM
  mgCM : mg "Machine" = some (.ref CM)
  mkCM : PySem.W.makesIn K CM = true
  kpCM : PySem.W.keepIn K (.ref CM) = true
  nCM_letters_told : NoAttr K CM "letters_told"
  nCM_stand_rows : NoAttr K CM "stand_rows"
  clCA : Cls K CA
  mgCA : mg "Algebra" = some (.ref CA)
  mkCA : PySem.W.makesIn K CA = true
  kpCA : PySem.W.keepIn K (.ref CA) = true
  nCA_base : NoAttr K CA "base"
  nCA_doings : NoAttr K CA "doings"
  nCA_word_list : NoAttr K CA "word_list"
  nCA_numbers_by : NoAttr K CA "numbers_by"
  nCA_table : NoAttr K CA "table"
  clCW : Cls K CW
  mgCW : mg "Walks" = some (.ref CW)
  mkCW : PySem.W.makesIn K CW = true
  kpCW : PySem.W.keepIn K (.ref CW) = true
  nCW_base : NoAttr K CW "base"
  nCW_first_words : NoAttr K CW "first_words"
  nCW_stands : NoAttr K CW "stands"
  nCW_signs : NoAttr K CW "signs"
  d_is_number : DefF K mg "is_number" s_is_number []
  d_is_letters : DefF K mg "is_letters" s_is_letters []
  d_need_letters : DefF K mg "need_letters" s_need_letters []
  d_is_word_to : DefF K mg "is_word_to" s_is_word_to []
  d_is_word : DefF K mg "is_word" s_is_word []
  d_need_word : DefF K mg "need_word" s_need_word [("most", V.int 20000)]
  d_is_stand : DefF K mg "is_stand" s_is_stand []
  d_Machine_init : MetF K CM "__init__" "Machine.__init__" s_Machine_init []
  d_Machine_letters : MetF K CM "letters" "Machine.letters" s_Machine_letters []
  d_Machine_rows : MetF K CM "rows" "Machine.rows" s_Machine_rows []
  d_Machine_behind : MetF K CM "behind" "Machine.behind" s_Machine_behind [("stand", V.int 0)]
  d_gone_through : DefF K mg "gone_through" s_gone_through []
  d_classed : DefF K mg "classed" s_classed []
  d_least_rows : DefF K mg "least_rows" s_least_rows []
  d_built : DefF K mg "built" s_built [("most", V.int 60)]
  d_firsts : DefF K mg "firsts" s_firsts []
  d_Algebra_init : MetF K CA "__init__" "Algebra.__init__" s_Algebra_init []
  d_Algebra_led_on : MetF K CA "led_on" "Algebra.led_on" s_Algebra_led_on []
  d_Algebra_len : MetF K CA "__len__" "Algebra.__len__" s_Algebra_len []
  d_Algebra_need_element : MetF K CA "need_element" "Algebra.need_element" s_Algebra_need_element []
  d_Algebra_letters : MetF K CA "letters" "Algebra.letters" s_Algebra_letters []
  d_Algebra_words : MetF K CA "words" "Algebra.words" s_Algebra_words []
  d_Algebra_element : MetF K CA "element" "Algebra.element" s_Algebra_element []
  d_Algebra_product : MetF K CA "product" "Algebra.product" s_Algebra_product []
  d_Algebra_times : MetF K CA "times" "Algebra.times" s_Algebra_times []
  d_next_of : DefF K mg "next_of" s_next_of []
  d_ends_of : DefF K mg "ends_of" s_ends_of []
  d_may_stand : DefF K mg "may_stand" s_may_stand []
  d_is_swing : DefF K mg "is_swing" s_is_swing []
  d_swing_parts : DefF K mg "swing_parts" s_swing_parts []
  d_led_about : DefF K mg "led_about" s_led_about []
  d_Walks_init : MetF K CW "__init__" "Walks.__init__" s_Walks_init []
  d_Walks_moved : MetF K CW "moved" "Walks.moved" s_Walks_moved []
  d_Walks_word_from : MetF K CW "word_from" "Walks.word_from" s_Walks_word_from []
  d_Walks_ends : MetF K CW "ends" "Walks.ends" s_Walks_ends []
  d_Walks_all_stands : MetF K CW "all_stands" "Walks.all_stands" s_Walks_all_stands []
  d_few_swing : DefF K mg "few_swing" s_few_swing []
  d_starts_swing : DefF K mg "starts_swing" s_starts_swing []
  d_ends_swing : DefF K mg "ends_swing" s_ends_swing []
  d_counts_swing : DefF K mg "counts_swing" s_counts_swing []
  d_led_ahead : DefF K mg "led_ahead" s_led_ahead []
  d_on_rounds : DefF K mg "on_rounds" s_on_rounds []
  d_word_ahead : DefF K mg "word_ahead" s_word_ahead []
  d_stand_apart : DefF K mg "stand_apart" s_stand_apart []
  d_subwords_swing : DefF K mg "subwords_swing" s_subwords_swing []
  d_round_by : DefF K mg "round_by" s_round_by []
  d_starfree_swing : DefF K mg "starfree_swing" s_starfree_swing []
  d_turning_swing : DefF K mg "turning_swing" s_turning_swing []
  d_swing : DefF K mg "swing" s_swing []
  d_walked_to : DefF K mg "walked_to" s_walked_to []
  d_is_in : DefF K mg "is_in" s_is_in []
  d_shows : DefF K mg "shows" s_shows []
  d_q_begun : DefF K mg "_law_begun" s_q_begun []
  d_q_mixed : DefF K mg "_law_mixed" s_q_mixed []
  d_q_take : DefF K mg "_law_take" s_q_take []
  d_q_pick : DefF K mg "_law_pick" s_q_pick []
  d_q_abc : DefF K mg "_law_abc" s_q_abc []
  d_q_token : DefF K mg "_law_token" s_q_token []
  d_q_table : DefF K mg "_law_table" s_q_table []
  d_q_drawn_table : DefF K mg "_law_drawn_table" s_q_drawn_table []
  d_q_asked : DefF K mg "_law_asked" s_q_asked []
  d_q_turned : DefF K mg "_law_turned" s_q_turned []
  d_q_ahead : DefF K mg "_law_ahead" s_q_ahead []
  d_law : DefF K mg "law" s_law []
end Sw
/-! zip over two things, each a text, a list or a tuple; enumerate over a text. -/
namespace Sw
open PySem PySem.Spec PyProof.Rows L2

/-- what a zip walks: a text, the list at a, the tuple at a -/
inductive Sc where
  | txt (z : Str) | lst (a : Addr) | tup (a : Addr)
def Sc.v : Sc → V
  | .txt z => .str z
  | .lst a => .ref a
  | .tup a => .ref a
/-- the signs of a text, each a text -/
def sgn (z : Str) : List V := z.cps.toList.map fun c => V.str ⟨#[c]⟩
def Sc.Is (K : PySem.W.Frag) (H : Hp) : Sc → List V → Prop
  | .txt z, xs => xs = sgn z
  | .lst a, xs => SqL K H a xs
  | .tup a, xs => SqT K H a xs
def Sc.St (h : Heap) (it : Addr) (i : Nat) : Sc → Prop
  | .txt z => ∃ t, h.IsStrIter it (strIterType z) z t i
  | .lst a => h.IsListIter it a i
  | .tup a => h.IsTupleIter it a i
theorem Sc.St.at_ {h h' : Heap} {it : Addr} {i : Nat} {c : Sc} (s : c.St h it i) (k : ∀ o, h.get? it = some o → h'.get? it = some o) : c.St h' it i := by
  cases c with
  | txt z => obtain ⟨t, o, e, r⟩ := s; exact ⟨t, o, k o e, r⟩
  | lst a => exact Heap.IsListIter.at s k
  | tup a => exact Heap.IsTupleIter.at s k
theorem Sc.St.obj {h : Heap} {it : Addr} {i : Nat} {c : Sc} (s : c.St h it i) : ∃ o, h.get? it = some o ∧ ∀ v, o.data ≠ .cell v := by
  cases c with
  | txt z => obtain ⟨t, o, e, _, d⟩ := s; exact ⟨o, e, fun v q => by rw [d] at q; cases q⟩
  | lst a => obtain ⟨o, e, _, d⟩ := s; exact ⟨o, e, fun v q => by rw [d] at q; cases q⟩
  | tup a => obtain ⟨o, e, _, d⟩ := s; exact ⟨o, e, fun v q => by rw [d] at q; cases q⟩
section
variable {X : Cx} {pins : List (Addr × Obj)} {σ : L2.St} {H : Hp} {s : Shared}
theorem sq_ne {a b : Addr} {xs : List V} (I : Inv X pins σ H s) (h : SqL X.K H a xs ∨ SqT X.K H a xs) (f : FpOk X pins H b) : a ≠ b := by
  intro e
  subst e
  obtain ⟨f0, _, _, f3, _⟩ := f
  have base : ∀ {o}, X.K.lookup a = some o → False := fun {o} q => by
    have hb := I.mod.kin a o q
    rcases f3 with z | z
    · exact I.ok.noex a o hb z
    · exact absurd (Nat.lt_of_lt_of_le (Heap.lt_size (I.ok.bs a o hb).1) z) (Nat.lt_irrefl _)
  rcases h with (h | ⟨o, _, _, q, _⟩) | (h | ⟨o, _, _, q, _⟩)
  · rcases h with h | ⟨_, h⟩ <;> (rw [f0] at h; cases h)
  · exact base q
  · rcases h with h | ⟨_, h⟩ <;> (rw [f0] at h; cases h)
  · exact base q
/-- what one source does at a turn -/
theorem sc_draws {A : Around} (hh : A.handled = none) {c : Sc} {it : Addr} {i : Nat} {xs : List V} (I : Inv X pins σ H s) (hx : c.Is X.K H xs) (st : c.St s.heap it i) (f : FpOk X pins H it) :
    ∃ (fp : List Addr) (P : Nat → Value → Prop) (St : Nat → Heap → Prop), Draws X.prog X.w A it fp xs.length P St ∧ St i s.heap ∧ (∀ j h, St j h → c.St h it j) ∧ (∀ j u, P j u → ∃ x, xs[j]? = some x ∧ RelV x u) ∧ it ∈ fp ∧
      (∀ b, FpOk X pins H b → b ≠ it → b ∉ fp) := by
  cases c with
  | txt z =>
    obtain ⟨t, st⟩ := st
    have hx : xs = sgn z := hx
    subst hx
    have hl : (sgn z).length = z.cps.size := by simp [sgn]
    have D := Draws.text (prog := X.prog) (w := X.w) (A := A) hh it z t
    rw [← hl] at D
    refine ⟨[it], _, _, D, st, fun j h q => ⟨t, q⟩, fun j u ⟨c, tk, e1, e2⟩ => ⟨.str ⟨#[c]⟩, by simp [sgn, e1], tk, e2⟩, by simp, fun b _ n => by simpa using n⟩
  | lst a =>
    obtain ⟨its, rv, p, _⟩ := I.list hx
    have ne := sq_ne I (.inl hx) f
    have hl : xs.length = its.toArray.size := by simpa using rv.length
    have D := Draws.list (prog := X.prog) (w := X.w) (A := A) hh it a ne its.toArray
    rw [← hl] at D
    refine ⟨[it, a], _, _, D, ⟨st, p.isList⟩, fun j h q => q.1, fun j u e => ?_, by simp, fun b fb n => by simp only [List.mem_cons, List.not_mem_nil, or_false, not_or]; exact ⟨n, (sq_ne I (.inl hx) fb).symm⟩⟩
    have e' : its[j]? = some u := by simpa using e
    cases q : xs[j]? with
    | none => rw [rv.none_of q] at e'; cases e'
    | some x =>
      obtain ⟨u', h1, h2⟩ := rv.get q
      rw [e'] at h1; cases h1
      exact ⟨x, rfl, h2⟩
  | tup a =>
    obtain ⟨its, rv, p, _⟩ := I.tuple hx
    have ne := sq_ne I (.inr hx) f
    have hl : xs.length = its.toArray.size := by simpa using rv.length
    have D := Draws.tuple (prog := X.prog) (w := X.w) (A := A) hh it a ne its.toArray
    rw [← hl] at D
    refine ⟨[it, a], _, _, D, ⟨st, (show s.heap.IsTuple a its.toArray from p)⟩, fun j h q => q.1, fun j u e => ?_, by simp, fun b fb n => by simp only [List.mem_cons, List.not_mem_nil, or_false, not_or]; exact ⟨n, (sq_ne I (.inr hx) fb).symm⟩⟩
    have e' : its[j]? = some u := by simpa using e
    cases q : xs[j]? with
    | none => rw [rv.none_of q] at e'; cases e'
    | some x =>
      obtain ⟨u', h1, h2⟩ := rv.get q
      rw [e'] at h1; cases h1
      exact ⟨x, rfl, h2⟩
theorem sc_inj {c : Sc} {xs ys : List V} (I : Inv X pins σ H s) (h : c.Is X.K H xs) (h' : c.Is X.K H ys) : xs = ys := by
  cases c with
  | txt z => exact (show xs = sgn z from h).trans (show ys = sgn z from h').symm
  | lst a => exact I.list_inj h h'
  | tup a => exact I.tuple_inj h h'
/-- iter(..) of a source is a new object -/
theorem sc_begins {c : Sc} {xs : List V} {u : Value} (I : Inv X pins σ H s) (hx : c.Is X.K H xs) (r : RelV c.v u) : ∃ (o : Obj) (Hb : Heap → Prop), Begins u o Hb ∧ Hb s.heap ∧ ∀ h it, h.get? it = some o → c.St h it 0 := by
  cases c with
  | txt z =>
    obtain ⟨t, rfl⟩ := (show ∃ t, u = Value.str z t from r)
    exact ⟨_, _, begins_text z t, trivial, fun h it e => ⟨t, _, e, rfl, rfl⟩⟩
  | lst a =>
    obtain rfl := (show u = Value.ref a from r)
    obtain ⟨its, rv, p, _⟩ := I.list hx
    exact ⟨_, _, begins_list a its.toArray, p.isList, fun h it e => ⟨_, e, rfl, rfl⟩⟩
  | tup a =>
    obtain rfl := (show u = Value.ref a from r)
    obtain ⟨its, rv, p, _⟩ := I.tuple hx
    exact ⟨_, _, begins_tuple a its.toArray, (show s.heap.IsTuple a its.toArray from p), fun h it e => ⟨_, e, rfl, rfl⟩⟩
end
/-! ### zip -/
def Itz2 (K : PySem.W.Frag) (c d : Sc) : It :=
  ⟨fun i H => ∃ (xs ys : List V), c.Is K H xs ∧ d.Is K H ys ∧ i < xs.length ∧ i < ys.length,
    fun i H v H' => ∃ T x y, v = .ref T ∧ H T = none ∧ H' = upd H T (.tup [x, y]) ∧ (∀ xs, c.Is K H xs → xs[i]? = some x) ∧ ∀ ys, d.Is K H ys → ys[i]? = some y,
    fun i H => ∃ xs ys : List V, c.Is K H xs ∧ d.Is K H ys ∧ i = min xs.length ys.length⟩
theorem turn_zip2 {P : Program} {w : World} {K : PySem.W.Frag} {elts : List Expr} {kk : Nat} {tpos : Pos} {c d : Sc} {z TI TO i1 i2 : Addr} (h1 : TI ≠ z) (h2 : TO ≠ z) (h3 : TI ≠ TO) (h4 : TI ≠ i1) (h5 : TI ≠ i2) (h6 : z ≠ i1) (h7 : z ≠ i2) (h8 : TO ≠ i1) (h9 : TO ≠ i2) (h10 : i1 ≠ i2) :
    Turn P w K (.Tuple elts kk tpos) (Itz2 K c d) [z, TI, TO, i1, i2] z (fun i h => IsZip h z TI TO .none ∧ IsTupOf2 h TI (.ref i1) (.ref i2) ∧ (∃ x y, IsTupOf2 h TO x y) ∧ c.St h i1 i ∧ d.St h i2 i) where
  mem := by simp
  obj := fun i h st b hb => by
    obtain ⟨hz, hTI, ⟨x, y, hTO⟩, s1, s2⟩ := st
    have e' : b = z ∨ b = TI ∨ b = TO ∨ b = i1 ∨ b = i2 := by simpa using hb
    rcases e' with q | q | q | q | q
    · rw [q]; exact ⟨_, hz, fun v q => nomatch q⟩
    · rw [q]; exact ⟨_, hTI, fun v q => nomatch q⟩
    · rw [q]; exact ⟨_, hTO, fun v q => nomatch q⟩
    · rw [q]; exact s1.obj
    · rw [q]; exact s2.obj
  keep := fun i h h' st k => by
    obtain ⟨hz, hTI, ⟨x, y, hTO⟩, s1, s2⟩ := st
    exact ⟨k z (by simp) _ hz, k TI (by simp) _ hTI, ⟨x, y, k TO (by simp) _ hTO⟩, s1.at_ fun o q => k i1 (by simp) o q, s2.at_ fun o q => k i2 (by simp) o q⟩
  item := by
    intro X hP hw hK hc i pins s σ H E I hf st hg
    subst hP hw hK
    obtain ⟨hz, hTI, ⟨x0, y0, hTO⟩, s1, s2⟩ := st
    obtain ⟨xs, ys, hqx, hqy, hx, hy⟩ := hg
    obtain ⟨fp1, P1, St1, D1, a1, b1, r1, m1, n1⟩ := sc_draws (A := X.A.in1) (I.ok.hd hc) I hqx s1 (hf i1 (by simp))
    obtain ⟨fp2, P2, St2, D2, a2, b2, r2, m2, n2⟩ := sc_draws (A := X.A.in1) (I.ok.hd hc) I hqy s2 (hf i2 (by simp))
    have S : ZipSep2 z TI TO i1 i2 fp1 fp2 := ⟨h1, h2, h3, h4, m1, n1 z (hf z (by simp)) h6, n1 TO (hf TO (by simp)) h8, h5, m2, n2 z (hf z (by simp)) h7, n2 TO (hf TO (by simp)) h9, n2 i1 (hf i1 (by simp)) h10, n1 i2 (hf i2 (by simp)) h10.symm⟩
    have hzl : z < s.heap.objs.size := Heap.lt_size hz
    refine wpAny_pyNext_zipD2_item S D1 D2 hz hTI hTO a1 a2 hx hy fun u1 u2 h' tk p1 p2 z' TO' t1' t2' hT hsz hk => ?_
    obtain ⟨x, ex, ru⟩ := r1 i u1 p1
    obtain ⟨y, ey, ru2⟩ := r2 i u2 p2
    refine ⟨_, rfl, wpAny_letOwnedTupleGo_zip (s := { s with heap := h', toks := tk }) z' fun h'' z'' sb => ?_⟩
    have hT2 : h''.get? s.heap.objs.size = some { cls := .type "tuple", data := .seq #[u1, u2] } := (sb.2 _ (Nat.ne_of_gt hzl)).trans hT
    have new : ObjOk X.prog X.w (upd H s.heap.objs.size (.tup [x, y])) h'' s.heap.objs.size (.tup [x, y]) :=
      ⟨by show 2 ≤ sizeLine; decide, [u1, u2], .cons ru (.cons ru2 .nil), ⟨_, hT2, rfl, _, rfl⟩⟩
    have I1 : Inv X pins σ (upd H s.heap.objs.size (.tup [x, y])) { s with heap := h'', toks := tk } :=
      I.turnedNew (t' := tk) (ch := [z, TI, TO, i1, i2]) (fun c o hb q => (sb.2 c (fun q' => hb (by simp [q']))).trans (hk c o (fun q' => hb (by simp [q'])) (fun q' => hb (by simp [q'])) (fun q' => hb (by simp [q'])) (fun q' => hb (by simp [q'])) q)) hf (Nat.le_refl _) new
    refine ⟨.ref s.heap.objs.size, _, I1, rfl, ⟨_, x, y, rfl, I.hok.fresh (Nat.le_refl _), rfl, fun l hl => by rw [sc_inj I hl hqx]; exact ex, fun l hl => by rw [sc_inj I hl hqy]; exact ey⟩, ⟨z'', ?_, ⟨u1, u2, ?_⟩, ?_, ?_⟩, fun b hcm => ?_⟩
    · exact (sb.2 _ h1).trans (hk _ _ h1 h3 h4 h5 hTI)
    · exact (sb.2 _ h2).trans TO'
    · exact (b1 _ _ t1').at_ fun o q => (sb.2 _ h6.symm).trans q
    · exact (b2 _ _ t2').at_ fun o q => (sb.2 _ h7.symm).trans q
    · have hlt : b < s.heap.objs.size := by
        have e' : b = z ∨ b = TI ∨ b = TO ∨ b = i1 ∨ b = i2 := by simpa using hcm
        rcases e' with q | q | q | q | q
        · rw [q]; exact hzl
        · rw [q]; exact Heap.lt_size hTI
        · rw [q]; exact Heap.lt_size hTO
        · rw [q]; obtain ⟨_, e1, _⟩ := s1.obj; exact Heap.lt_size e1
        · rw [q]; obtain ⟨_, e2, _⟩ := s2.obj; exact Heap.lt_size e2
      rw [upd_ne (Nat.ne_of_lt hlt)]
      exact (hf b hcm).1
  done := by
    intro X hP hw hK hc i pins s σ H E I hf st hg
    subst hP hw hK
    obtain ⟨hz, hTI, ⟨x0, y0, hTO⟩, s1, s2⟩ := st
    obtain ⟨xs, ys, hqx, hqy, hend⟩ := hg
    obtain ⟨fp1, P1, St1, D1, a1, b1, r1, m1, n1⟩ := sc_draws (A := X.A.in1) (I.ok.hd hc) I hqx s1 (hf i1 (by simp))
    obtain ⟨fp2, P2, St2, D2, a2, b2, r2, m2, n2⟩ := sc_draws (A := X.A.in1) (I.ok.hd hc) I hqy s2 (hf i2 (by simp))
    have S : ZipSep2 z TI TO i1 i2 fp1 fp2 := ⟨h1, h2, h3, h4, m1, n1 z (hf z (by simp)) h6, n1 TO (hf TO (by simp)) h8, h5, m2, n2 z (hf z (by simp)) h7, n2 TO (hf TO (by simp)) h9, n2 i1 (hf i1 (by simp)) h10, n1 i2 (hf i2 (by simp)) h10.symm⟩
    exact wpAny_pyNext_zipD2_end S D1 D2 hz hTI hTO a1 a2 (by omega) (by omega) (by omega) fun h' tk hk => ⟨rfl, I.turnedL (t' := tk) (ch := [z, TI, TO, i1, i2]) (fun c o hb q =>
      hk c o (fun q' => hb (by simp [q'])) (fun q' => hb (by simp [q'])) (fun q' => hb (by simp [q'])) (fun q' => hb (by simp [q'])) q) hf⟩
  self := fun A i s Q E st h => wpAny_pyIter_zip st.1 h
def iZip2 (K : PySem.W.Frag) (ta : TA) : TI := fun σ H R => ta σ H fun vs H1 => ∃ c d xs ys, vs = [Sc.v c, Sc.v d] ∧ c.Is K H1 xs ∧ d.Is K H1 ys ∧ R (Itz2 K c d) H1
theorem pi_zip2 {X : Cx} {e e2 : Expr} {ta : TA} {p pos tpos : Pos} {elts : List Expr} {kk : Nat} (hg : Gl X "zip") (hm : X.mg "zip" = none) (ha : PA X [e, e2] ta)
    (hs : starEach [e, e2] X.env = (false, eval e X.env) :: starEach [e2] X.env := by rfl) (hpl : (backTo pos (starEach [e2] X.env)).any (·.1) = false := by rfl) :
    PI X (.Tuple elts kk tpos) (.Call (.Name "zip" p) [e, e2] [] pos) (iZip2 X.K ta) := by
  refine ⟨fun pins s σ H R I h => ?_⟩
  refine Call_ (ld_blt I hg hm PyProof.Rows.boot_zip (PyProof.Rows.callWith_type1 (thn (ha.run pos pins s σ H _ I h) fun us s1 ⟨vs, H1, I1, r1, q1⟩ => ?_) hs hpl))
  obtain ⟨c, d, xs, ys, ex, hqx, hqy, q⟩ := q1
  subst ex
  cases r1 with
  | cons r rr =>
    cases rr with
    | cons r' rr =>
      cases rr
      obtain ⟨o1, Hb1, B1, t1, g1⟩ := sc_begins I1 hqx r
      obtain ⟨o2, Hb2, B2, t2, g2⟩ := sc_begins I1 hqy r'
      refine zip_begins2 B1 B2 t1 t2 fun h' hz hTI hTO e1 e2 hsz hk => wpAny_pyIter_zip hz ?_
      have I2 : Inv X pins σ H1 { s1 with heap := h' } := I1.kept (t' := s1.toks) hk
      generalize hN : s1.heap.objs.size = N at hz hTI hTO e1 e2 hsz ⊢
      have nn : ∀ {a b : Nat}, a ≠ b → (a : Addr) ≠ (b : Addr) := fun h => h
      refine ⟨N + 4, [N + 4, N + 2, N + 3, N, N + 1], _, _, H1, rfl, I2, turn_zip2 (z := N + 4) (TI := N + 2) (TO := N + 3) (i1 := N) (i2 := N + 1) (nn (by omega)) (nn (by omega)) (nn (by omega)) (nn (by omega)) (nn (by omega)) (nn (by omega)) (nn (by omega)) (nn (by omega)) (nn (by omega)) (nn (by omega)), ⟨hz, hTI, ⟨_, _, hTO⟩, g1 _ _ e1, g2 _ _ e2⟩, fun b hcm => ?_, q⟩
      have e' : b = N + 4 ∨ b = N + 2 ∨ b = N + 3 ∨ b = N ∨ b = N + 1 := by simpa using hcm
      have hle : s1.heap.objs.size ≤ b := by
        rw [hN]
        rcases e' with z | z | z | z | z <;> rw [z]
        · exact Nat.le_add_right _ _
        · exact Nat.le_add_right _ _
        · exact Nat.le_add_right _ _
        · exact Nat.le_refl _
        · exact Nat.le_add_right _ _
      exact I1.fpOk hle (I1.hok.fresh hle)
theorem walk_zip2 {K : PySem.W.Frag} {c d : Sc} {xs ys : List V} : Walk (Itz2 K c d) (min xs.length ys.length) (fun H => c.Is K H xs ∧ d.Is K H ys) (YPair (fun i => xs[i]?) (fun i => ys[i]?)) :=
  ⟨fun i H hi h => ⟨xs, ys, h.1, h.2, by omega, by omega⟩, fun H h => ⟨xs, ys, h.1, h.2, rfl⟩, fun i H x H' hi h ⟨T, a, b, e1, e2, e3, e4, e5⟩ => ⟨T, a, b, e1, e2, e3, e4 xs h.1, e5 ys h.2⟩⟩
end Sw
/-! Machines: what stands, runs, the least machine; what a search over a least machine tells of its language. -/
namespace Sw
structure Mc where
  ls : Wd
  rows : List (Bool × List Nat)
namespace Mc
variable (M : Mc)
def n : Nat := M.rows.length
def fin (s : Nat) : Bool := (M.rows.getD s (false, [])).1
def tos (s : Nat) : List Nat := (M.rows.getD s (false, [])).2
def go (s c : Nat) : Nat := (M.tos s).getD (M.ls.idxOf c) 0
def run (s : Nat) (w : Wd) : Nat := w.foldl M.go s
def lang : Lang := fun w => M.fin (M.run 0 w)
structure Ok : Prop where
  lpos : 1 ≤ M.ls.length
  lle : M.ls.length ≤ 4
  abc : ∀ c ∈ M.ls, 97 ≤ c ∧ c ≤ 122
  asc : M.ls.Pairwise (· < ·)
  pos : 1 ≤ M.n
  le : M.n ≤ 60
  wid : ∀ r ∈ M.rows, r.2.length = M.ls.length
  ins : ∀ r ∈ M.rows, ∀ t ∈ r.2, t < M.n
structure Min : Prop extends M.Ok where
  reach : ∀ s, s < M.n → ∃ w, Ov M.ls w ∧ M.run 0 w = s
  red : ∀ s t, s < M.n → t < M.n → (∀ w, Ov M.ls w → M.fin (M.run s w) = M.fin (M.run t w)) → s = t
end Mc
section
variable {M : Mc} {ls : Wd}
theorem Mc.run_nil (s : Nat) : M.run s [] = s := rfl
theorem Mc.run_cons (s c : Nat) (w : Wd) : M.run s (c :: w) = M.run (M.go s c) w := rfl
theorem Mc.run_app (s : Nat) (u v : Wd) : M.run s (u ++ v) = M.run (M.run s u) v := by unfold Mc.run; rw [List.foldl_append]
theorem Mc.run_one (s c : Nat) : M.run s [c] = M.go s c := rfl
theorem Mc.run_pw {s : Nat} {y : Wd} (h : M.run s y = s) : ∀ i, M.run s (pw y i) = s
  | 0 => rfl
  | i + 1 => by rw [pw, Mc.run_app, h, Mc.run_pw h i]
namespace Mc.Ok
variable (O : M.Ok)
include O
theorem nd : M.ls.Nodup := O.asc.imp fun h e => by omega
theorem go_lt (s c : Nat) : M.go s c < M.n := by
  have hp := O.pos
  unfold Mc.go
  rw [List.getD_eq_getElem?_getD]
  cases e : (M.tos s)[M.ls.idxOf c]? with
  | none => simp; omega
  | some t =>
    simp only [Option.getD_some]
    have hm := List.mem_of_getElem? e
    unfold Mc.tos at hm
    rw [List.getD_eq_getElem?_getD] at hm
    cases e2 : M.rows[s]? with
    | none => rw [e2] at hm; simp at hm
    | some r => rw [e2] at hm; exact O.ins r (List.mem_of_getElem? e2) t hm
theorem run_lt {s : Nat} (hs : s < M.n) (w : Wd) : M.run s w < M.n := by
  induction w generalizing s with
  | nil => exact hs
  | cons c w ih => rw [Mc.run_cons]; exact ih (O.go_lt s c)
theorem run0_lt (w : Wd) : M.run 0 w < M.n := O.run_lt O.pos w
/-- the transformation that a word makes -/
theorem fin_sy : FinSy M.ls M.lang := fun f hf => by
  obtain ⟨i, j, hij, e⟩ := pigeon (lists M.n M.n) (fun i => (List.range M.n).map fun s => M.run s (f i)) fun i => mem_lists (by simp) fun x hx => by
    obtain ⟨s, hs, rfl⟩ := List.mem_map.mp hx
    exact O.run_lt (List.mem_range.mp hs) _
  refine ⟨i, j, hij, fun u v hu hv => ?_⟩
  unfold Mc.lang
  rw [Mc.run_app, Mc.run_app, Mc.run_app, Mc.run_app]
  have := List.map_inj_left.mp e (M.run 0 u) (List.mem_range.mpr (O.run0_lt u))
  rw [this]
end Mc.Ok
namespace Mc.Min
variable (O : M.Min)
include O
theorem nq {u v : Wd} (hu : Ov M.ls u) (hv : Ov M.ls v) : Nq M.ls M.lang u v ↔ M.run 0 u = M.run 0 v := by
  constructor
  · intro h
    refine O.red _ _ (O.run0_lt u) (O.run0_lt v) fun w hw => ?_
    have := h w hw
    unfold Mc.lang at this
    rwa [Mc.run_app, Mc.run_app] at this
  · intro h w hw
    unfold Mc.lang
    rw [Mc.run_app, Mc.run_app, h]
theorem sy {p q : Wd} (hp : Ov M.ls p) (hq : Ov M.ls q) : Sy M.ls M.lang p q ↔ ∀ s, s < M.n → M.run s p = M.run s q := by
  constructor
  · intro h s hs
    obtain ⟨u, hu, rfl⟩ := O.reach s hs
    refine O.red _ _ (O.run_lt hs p) (O.run_lt hs q) fun w hw => ?_
    have := h u w hu hw
    unfold Mc.lang at this
    simpa [Mc.run_app] using this
  · intro h u v hu hv
    unfold Mc.lang
    rw [Mc.run_app, Mc.run_app, Mc.run_app, Mc.run_app, h _ (O.run0_lt u)]
/-- u leads to s -/
theorem few_none (d : Bool) (h : ∀ s, s < M.n → (∃ v, Ov M.ls v ∧ M.fin (M.run s v) = d) → (∃ y, Ov M.ls y ∧ y ≠ [] ∧ M.run s y = s) → False) : ¬ Cond M.ls M.lang .few := fun c => by
  obtain ⟨u, y, v, hu, hy, hv, h0, h1, h2⟩ := c d
  have e := (O.nq (hu.app hy) hu).mp h1
  rw [Mc.run_app] at e
  unfold Mc.lang at h2
  rw [Mc.run_app] at h2
  exact h _ (O.run0_lt u) ⟨v, hv, h2⟩ ⟨y, hy, h0, e⟩
theorem few_some {u y v s z t : Wd} (hu : Ov M.ls u) (hy : Ov M.ls y) (hv : Ov M.ls v) (hs : Ov M.ls s) (hz : Ov M.ls z) (ht : Ov M.ls t) (y0 : y ≠ []) (z0 : z ≠ [])
    (e1 : M.run (M.run 0 u) y = M.run 0 u) (e2 : M.run (M.run 0 s) z = M.run 0 s) (f1 : M.fin (M.run (M.run 0 u) v) = true) (f2 : M.fin (M.run (M.run 0 s) t) = false) :
    Cond M.ls M.lang .few ∧ ShowsL M.lang (.few u y v s z t) := by
  refine ⟨fun d => ?_, fun n _ => ⟨?_, ?_⟩⟩
  · cases d with
    | true => exact ⟨u, y, v, hu, hy, hv, y0, (O.nq (hu.app hy) hu).mpr (by rw [Mc.run_app]; exact e1), by unfold Mc.lang; rw [Mc.run_app]; exact f1⟩
    | false => exact ⟨s, z, t, hs, hz, ht, z0, (O.nq (hs.app hz) hs).mpr (by rw [Mc.run_app]; exact e2), by unfold Mc.lang; rw [Mc.run_app]; exact f2⟩
  · show M.lang (u ++ (pw y n ++ v)) = true
    unfold Mc.lang; rw [Mc.run_app, Mc.run_app, Mc.run_pw e1]; exact f1
  · show M.lang (s ++ (pw z n ++ t)) = false
    unfold Mc.lang; rw [Mc.run_app, Mc.run_app, Mc.run_pw e2]; exact f2
theorem starts_none (h : ∀ s, s < M.n → (∃ y, Ov M.ls y ∧ y ≠ [] ∧ M.run s y = s) → (∃ v, Ov M.ls v ∧ M.fin (M.run s v) = true) → (∃ v, Ov M.ls v ∧ M.fin (M.run s v) = false) → False) : ¬ Cond M.ls M.lang .starts := by
  rintro ⟨u, y, v, w, hu, hy, hv, hw, h0, h1, h2, h3⟩
  have e := (O.nq (hu.app hy) hu).mp h1
  rw [Mc.run_app] at e
  unfold Mc.lang at h2 h3
  rw [Mc.run_app] at h2 h3
  exact h _ (O.run0_lt u) ⟨y, hy, h0, e⟩ ⟨v, hv, h2⟩ ⟨w, hw, h3⟩
theorem starts_some {u y v w : Wd} (hu : Ov M.ls u) (hy : Ov M.ls y) (hv : Ov M.ls v) (hw : Ov M.ls w) (y0 : y ≠ []) (e1 : M.run (M.run 0 u) y = M.run 0 u) (f1 : M.fin (M.run (M.run 0 u) v) = true) (f2 : M.fin (M.run (M.run 0 u) w) = false) :
    Cond M.ls M.lang .starts ∧ ShowsL M.lang (.starts u y v w) := by
  refine ⟨⟨u, y, v, w, hu, hy, hv, hw, y0, (O.nq (hu.app hy) hu).mpr (by rw [Mc.run_app]; exact e1), by unfold Mc.lang; rw [Mc.run_app]; exact f1, by unfold Mc.lang; rw [Mc.run_app]; exact f2⟩, fun n _ => ⟨?_, ?_⟩⟩
  · show M.lang (u ++ (pw y n ++ v)) = true
    unfold Mc.lang; rw [Mc.run_app, Mc.run_app, Mc.run_pw e1]; exact f1
  · show M.lang (u ++ (pw y n ++ w)) = false
    unfold Mc.lang; rw [Mc.run_app, Mc.run_app, Mc.run_pw e1]; exact f2
theorem ends_none (h : ∀ s t, s < M.n → t < s → (∃ y, Ov M.ls y ∧ y ≠ [] ∧ M.run s y = s ∧ M.run t y = t) → False) : ¬ Cond M.ls M.lang .ends := by
  rintro ⟨u, v, y, hu, hv, hy, h0, h1, h2, h3⟩
  have e2 := (O.nq (hu.app hy) hu).mp h2
  have e3 := (O.nq (hv.app hy) hv).mp h3
  rw [Mc.run_app] at e2 e3
  rcases Nat.lt_trichotomy (M.run 0 u) (M.run 0 v) with z | z | z
  · exact h _ _ (O.run0_lt v) z ⟨y, hy, h0, e3, e2⟩
  · exact h1 ((O.nq hu hv).mpr z)
  · exact h _ _ (O.run0_lt u) z ⟨y, hy, h0, e2, e3⟩
theorem ends_some {u v y w : Wd} (hu : Ov M.ls u) (hy : Ov M.ls y) (hv : Ov M.ls v) (hw : Ov M.ls w) (y0 : y ≠ []) (e1 : M.run (M.run 0 u) y = M.run 0 u) (e2 : M.run (M.run 0 v) y = M.run 0 v) (f1 : M.fin (M.run (M.run 0 u) w) = true) (f2 : M.fin (M.run (M.run 0 v) w) = false) :
    Cond M.ls M.lang .ends ∧ ShowsL M.lang (.ends u v y w) := by
  refine ⟨⟨u, v, y, hu, hv, hy, y0, fun z => ?_, (O.nq (hu.app hy) hu).mpr (by rw [Mc.run_app]; exact e1), (O.nq (hv.app hy) hv).mpr (by rw [Mc.run_app]; exact e2)⟩, fun n _ => ⟨?_, ?_⟩⟩
  · rw [(O.nq hu hv).mp z, f2] at f1; cases f1
  · show M.lang (u ++ (pw y n ++ w)) = true
    unfold Mc.lang; rw [Mc.run_app, Mc.run_app, Mc.run_pw e1]; exact f1
  · show M.lang (v ++ (pw y n ++ w)) = false
    unfold Mc.lang; rw [Mc.run_app, Mc.run_app, Mc.run_pw e2]; exact f2
theorem counts_none (h : ∀ s x y, s < M.n → x ∈ M.ls → y ∈ M.ls → M.run s [x, y] = M.run s [y, x]) : ¬ Cond M.ls M.lang .counts := by
  rintro ⟨u, x, y, hu, hx, hy, h1⟩
  refine h1 ((O.nq (hu.app (.cons hx (.one hy))) (hu.app (.cons hy (.one hx)))).mpr ?_)
  rw [Mc.run_app, Mc.run_app]; exact h _ _ _ (O.run0_lt u) hx hy
theorem counts_some {u v : Wd} {x y : Nat} (hu : Ov M.ls u) (hx : x ∈ M.ls) (hy : y ∈ M.ls) (hv : Ov M.ls v) (f1 : M.fin (M.run (M.run (M.run 0 u) [x, y]) v) = true) (f2 : M.fin (M.run (M.run (M.run 0 u) [y, x]) v) = false) :
    Cond M.ls M.lang .counts ∧ ShowsL M.lang (.counts u [x] [y] v) := by
  refine ⟨⟨u, x, y, hu, hx, hy, fun z => ?_⟩, fun n _ => ?_⟩
  · have e := (O.nq (hu.app (.cons hx (.one hy))) (hu.app (.cons hy (.one hx)))).mp z
    rw [Mc.run_app, Mc.run_app] at e
    rw [e, f2] at f1; cases f1
  · have hp : pw [] n = [] := by induction n with
      | zero => rfl
      | succ n ih => rw [pw]; cases n with | zero => rfl | succ n => exact ih (by omega)
    have e : ∀ a b : Nat, (u ++ [a] ++ [b] ++ v) ++ (pw [] n ++ []) = u ++ ([a, b] ++ v) := by intro a b; rw [hp]; simp
    show M.lang ((u ++ [x] ++ [y] ++ v) ++ (pw [] n ++ [])) = true ∧ M.lang ((u ++ [y] ++ [x] ++ v) ++ (pw [] n ++ [])) = false
    rw [e, e]
    unfold Mc.lang
    rw [Mc.run_app, Mc.run_app, Mc.run_app, Mc.run_app]; exact ⟨f1, f2⟩
theorem fall_iff : Fall M.ls M.lang ↔ ∃ s x y, s < M.n ∧ x ∈ M.ls ∧ Ov M.ls y ∧ M.go s x ≠ s ∧ M.run (M.go s x) y = s := by
  constructor
  · rintro ⟨u, x, y, hu, hx, hy, h1, h2⟩
    have e := (O.nq (hu.app (.cons hx hy)) hu).mp h2
    rw [Mc.run_app, Mc.run_cons] at e
    exact ⟨_, x, y, O.run0_lt u, hx, hy, fun z => h1 ((O.nq (hu.app (.one hx)) hu).mpr (by rw [Mc.run_app]; exact z)), e⟩
  · rintro ⟨s, x, y, hs, hx, hy, h1, h2⟩
    obtain ⟨u, hu, rfl⟩ := O.reach s hs
    exact ⟨u, x, y, hu, hx, hy, fun z => h1 (by have := (O.nq (hu.app (.one hx)) hu).mp z; rwa [Mc.run_app] at this), (O.nq (hu.app (.cons hx hy)) hu).mpr (by rw [Mc.run_app]; exact h2)⟩
theorem fall_none (h : ∀ s x, s < M.n → x ∈ M.ls → M.go s x ≠ s → ∀ y, Ov M.ls y → y ≠ [] → M.run (M.go s x) y ≠ s) : ¬ Fall M.ls M.lang := fun c => by
  obtain ⟨s, x, y, hs, hx, hy, h1, h2⟩ := O.fall_iff.mp c
  refine h s x hs hx h1 y hy (fun z => ?_) h2
  subst z; exact h1 h2
/-- the pair of a falling swing, its words by the first pair's end -/
theorem fall_pair {u y v : Wd} {x : Nat} (hu : Ov M.ls u) (e1 : M.run (M.go (M.run 0 u) x) y = M.run 0 u) (n : Nat) :
    M.lang (u ++ (pw ([x] ++ y) n ++ v)) = M.fin (M.run (M.run 0 u) v) ∧ M.lang (u ++ (pw ([x] ++ y) n ++ ([x] ++ v))) = M.fin (M.run (M.go (M.run 0 u) x) v) := by
  have e : M.run (M.run 0 u) ([x] ++ y) = M.run 0 u := by rw [Mc.run_app]; exact e1
  constructor
  · unfold Mc.lang; rw [Mc.run_app, Mc.run_app, Mc.run_pw e]
  · unfold Mc.lang; rw [Mc.run_app, Mc.run_app, Mc.run_pw e, Mc.run_app]; rfl
theorem fall_some {u y v : Wd} {x : Nat} {b : Bool} (hu : Ov M.ls u) (hx : x ∈ M.ls) (hy : Ov M.ls y) (h1 : M.go (M.run 0 u) x ≠ M.run 0 u) (e1 : M.run (M.go (M.run 0 u) x) y = M.run 0 u)
    (f1 : M.fin (M.run (M.run 0 u) v) = b) (f2 : M.fin (M.run (M.go (M.run 0 u) x) v) = !b) :
    Fall M.ls M.lang ∧ ShowsL M.lang (.falling b u [x] y v) ∧ ShowsL M.lang (.subwords true b u [x] y v) := by
  refine ⟨O.fall_iff.mpr ⟨_, x, y, O.run0_lt u, hx, hy, h1, e1⟩, ?_⟩
  have key : ∀ n, 1 ≤ n → M.lang (at3 (flipIf b ((u, [x] ++ y, v), (u, [x] ++ y, [x] ++ v))).1 n) = true ∧ M.lang (at3 (flipIf b ((u, [x] ++ y, v), (u, [x] ++ y, [x] ++ v))).2 n) = false := fun n _ => by
    have p := O.fall_pair (v := v) hu e1 n
    rw [f1, f2] at p
    cases b with
    | true => exact ⟨p.1, p.2⟩
    | false => exact ⟨p.2, p.1⟩
  exact ⟨key, key⟩
theorem left_iff : Left M.ls M.lang ↔ ∃ p x y, Ov M.ls p ∧ Ov M.ls x ∧ y ∈ M.ls ∧ (∃ s, s < M.n ∧ M.run s (y :: p) ≠ M.run s p) ∧ ∀ s, s < M.n → M.run s (x ++ (y :: p)) = M.run s p := by
  constructor
  · rintro ⟨p, x, y, hp, hx, hy, h1, h2⟩
    refine ⟨p, x, y, hp, hx, hy, Classical.byContradiction fun z => h1 ((O.sy (.cons hy hp) hp).mpr fun s hs => Classical.byContradiction fun q => z ⟨s, hs, q⟩), (O.sy (hx.app (.cons hy hp)) hp).mp h2⟩
  · rintro ⟨p, x, y, hp, hx, hy, ⟨s, hs, h1⟩, h2⟩
    exact ⟨p, x, y, hp, hx, hy, fun z => h1 ((O.sy (.cons hy hp) hp).mp z s hs), (O.sy (hx.app (.cons hy hp)) hp).mpr h2⟩
theorem left_some {u p x v : Wd} {y : Nat} {b : Bool} (hu : Ov M.ls u) (hp : Ov M.ls p) (hx : Ov M.ls x) (hy : y ∈ M.ls) (h2 : ∀ s, s < M.n → M.run s (x ++ (y :: p)) = M.run s p)
    (f1 : M.fin (M.run (M.run (M.run 0 u) p) v) = b) (f2 : M.fin (M.run (M.run (M.run 0 u) (y :: p)) v) = !b) :
    Left M.ls M.lang ∧ ShowsL M.lang (.subwords false b u x [y] (p ++ v)) := by
  have hne : M.run (M.run 0 u) (y :: p) ≠ M.run (M.run 0 u) p := fun z => by rw [z, f1] at f2; cases b <;> cases f2
  refine ⟨O.left_iff.mpr ⟨p, x, y, hp, hx, hy, ⟨_, O.run0_lt u, hne⟩, h2⟩, ?_⟩
  have hpw : ∀ n s, s < M.n → M.run (M.run s (pw (x ++ [y]) n)) p = M.run s p := fun n => by
    induction n with
    | zero => intro s _; rfl
    | succ n ih =>
      intro s hs
      rw [pw, Mc.run_app, ih _ (O.run_lt hs _), ← Mc.run_app]
      have := h2 s hs
      simpa using this
  have key : ∀ n, 1 ≤ n → M.lang (at3 (flipIf b ((u, x ++ [y], p ++ v), (u ++ [y], x ++ [y], p ++ v))).1 n) = true ∧ M.lang (at3 (flipIf b ((u, x ++ [y], p ++ v), (u ++ [y], x ++ [y], p ++ v))).2 n) = false := fun n _ => by
    have p1 : M.lang (u ++ (pw (x ++ [y]) n ++ (p ++ v))) = b := by
      unfold Mc.lang; rw [Mc.run_app, Mc.run_app, Mc.run_app, hpw _ _ (O.run0_lt u)]; exact f1
    have p2 : M.lang ((u ++ [y]) ++ (pw (x ++ [y]) n ++ (p ++ v))) = !b := by
      unfold Mc.lang; rw [Mc.run_app, Mc.run_app (u := pw _ _), Mc.run_app (u := p), hpw _ _ (O.run0_lt _), Mc.run_app]; exact f2
    cases b with
    | true => exact ⟨p1, p2⟩
    | false => exact ⟨p2, p1⟩
  exact key
theorem starfree_none (h : ∀ w, Ov M.ls w → w ≠ [] → ∀ s, s < M.n → ∃ i, M.run s (pw w i) = M.run s (pw w (i + 1))) : ¬ Cond M.ls M.lang .starfree := by
  rintro ⟨u, w, hu, hw, h1⟩
  by_cases e : w = []
  · subst e; exact h1 0 ((O.nq (hu.app (hw.pw _)) (hu.app (hw.pw _))).mpr rfl)
  · obtain ⟨i, hi⟩ := h w hw e _ (O.run0_lt u)
    exact h1 i ((O.nq (hu.app (hw.pw _)) (hu.app (hw.pw _))).mpr (by rw [Mc.run_app, Mc.run_app]; exact hi))
theorem starfree_some {u y v : Wd} {p : Nat} (hu : Ov M.ls u) (hy : Ov M.ls y) (hv : Ov M.ls v) (e : M.run (M.run 0 u) (pw y p) = M.run 0 u) (hp : 1 ≤ p) (f1 : M.fin (M.run (M.run 0 u) v) = true) (f2 : M.fin (M.run (M.run (M.run 0 u) y) v) = false) :
    Cond M.ls M.lang .starfree ∧ ShowsL M.lang (.starfree u y v p) := by
  have hm : ∀ k, M.run (M.run 0 u) (pw y (p * k)) = M.run 0 u := fun k => by rw [← pw_mul]; exact Mc.run_pw e k
  refine ⟨⟨u, y, hu, hy, fun i z => ?_⟩, fun n _ => ⟨?_, ?_⟩⟩
  · have e1 := (O.nq (hu.app (hy.pw _)) (hu.app (hy.pw _))).mp z
    rw [Mc.run_app, Mc.run_app] at e1
    have fix : ∀ j, M.run (M.run 0 u) (pw y (i + j)) = M.run (M.run 0 u) (pw y i) := fun j => by
      induction j with
      | zero => rfl
      | succ j ih =>
        have : i + (j + 1) = (i + j) + 1 := by omega
        rw [this, pw_succ', Mc.run_app, ih, ← Mc.run_app, ← pw_succ', e1]
    have a := fix (p * i + 0 - i + 0)
    have hge : i ≤ p * i := Nat.le_mul_of_pos_left i hp
    have b1 := fix (p * i - i)
    have b2 := fix (p * i - i + 1)
    rw [show i + (p * i - i) = p * i by omega, hm] at b1
    rw [show i + (p * i - i + 1) = p * i + 1 by omega, pw_succ', Mc.run_app, hm] at b2
    rw [b2, ← b1, f1] at f2; cases f2
  · show M.lang (u ++ (pw (pw y p) n ++ v)) = true
    unfold Mc.lang; rw [Mc.run_app, Mc.run_app, Mc.run_pw e]; exact f1
  · show M.lang (u ++ (pw (pw y p) n ++ (y ++ v))) = false
    unfold Mc.lang; rw [Mc.run_app, Mc.run_app, Mc.run_pw e, Mc.run_app]; exact f2
theorem turning_none (h : ∀ s x, s < M.n → x ∈ M.ls → ∃ i, M.run s (pw [x] (i + 1)) = s) : ¬ Cond M.ls M.lang .turning := by
  rintro ⟨u, x, hu, hx, h1⟩
  obtain ⟨i, hi⟩ := h _ x (O.run0_lt u) hx
  exact h1 i ((O.nq (hu.app ((Ov.one hx).pw _)) hu).mpr (by rw [Mc.run_app]; exact hi))
theorem turning_some {u v : Wd} {x k : Nat} {b : Bool} (hu : Ov M.ls u) (hx : x ∈ M.ls) (h1 : ∀ i, M.run (M.run 0 u) (pw [x] (i + 1)) ≠ M.run 0 u) (e : M.run (M.run (M.run 0 u) (pw [x] k)) (pw [x] k) = M.run (M.run 0 u) (pw [x] k))
    (f1 : M.fin (M.run (M.run 0 u) v) = b) (f2 : M.fin (M.run (M.run (M.run 0 u) (pw [x] k)) v) = !b) :
    Cond M.ls M.lang .turning ∧ ShowsL M.lang (.turning b u (pw [x] k) v) := by
  refine ⟨⟨u, x, hu, hx, fun i z => h1 i (by have := (O.nq (hu.app ((Ov.one hx).pw _)) hu).mp z; rwa [Mc.run_app] at this)⟩, fun n hn => ?_⟩
  have hpn : pw [] n = ([] : Wd) := by
    clear hn; induction n with
    | zero => rfl
    | succ n ih => rw [pw, ih]; rfl
  have p1 : M.lang ((u ++ v) ++ (pw [] n ++ [])) = b := by rw [hpn]; simp only [List.append_nil]; unfold Mc.lang; rw [Mc.run_app]; exact f1
  have p2 : M.lang (u ++ (pw (pw [x] k) n ++ v)) = !b := by
    obtain ⟨m, rfl⟩ : ∃ m, n = m + 1 := ⟨n - 1, by omega⟩
    unfold Mc.lang; rw [pw, Mc.run_app, Mc.run_app, Mc.run_app, Mc.run_pw e]; exact f2
  show M.lang (at3 (flipIf b ((u ++ v, [], []), (u, pw [x] k, v))).1 n) = true ∧ M.lang (at3 (flipIf b ((u ++ v, [], []), (u, pw [x] k, v))).2 n) = false
  cases b with
  | true => exact ⟨p1, p2⟩
  | false => exact ⟨p2, p1⟩
end Mc.Min
end
end Sw
/-! The least machine: what is gone through, the classes, the machine of the classes. -/
namespace Sw
theorem nd_inj {α : Type} {l : List α} (h : l.Nodup) {i j : Nat} {x : α} (hi : l[i]? = some x) (hj : l[j]? = some x) : i = j := by
  obtain ⟨h1, e1⟩ := List.getElem?_eq_some_iff.mp hi
  obtain ⟨h2, e2⟩ := List.getElem?_eq_some_iff.mp hj
  have hp := List.pairwise_iff_getElem.mp (show l.Pairwise (· ≠ ·) from h)
  rcases Nat.lt_trichotomy i j with z | z | z
  · exact absurd (e1.trans e2.symm) (hp i j h1 h2 z)
  · exact z
  · exact absurd (e2.trans e1.symm) (hp j i h2 h1 z)
theorem idx_of {α : Type} [BEq α] [LawfulBEq α] {l : List α} (h : l.Nodup) {k : Nat} {c : α} (hk : l[k]? = some c) : l.idxOf c = k := by
  have hl : l.idxOf c < l.length := List.idxOf_lt_length_iff.mpr (List.mem_of_getElem? hk)
  refine nd_inj h (x := c) ?_ hk
  rw [List.getElem?_eq_getElem hl, List.getElem_idxOf]
/-- rows as a search finds them: ord the stands in their order -/
structure Gone (ls : Wd) (b : Nat) (stp : Nat → Nat → Nat) (en : Nat → Bool) (N : Nat) (rows : List (Bool × List Nat)) (ord : List Nat) : Prop where
  nd : ord.Nodup
  hd : ord[0]? = some b
  lt : ∀ s ∈ ord, s < N
  reach : ∀ s ∈ ord, ∃ w, Ov ls w ∧ w.foldl stp b = s
  len : rows.length = ord.length
  row : ∀ (i s : Nat), ord[i]? = some s → ∃ tos : List Nat, rows[i]? = some (en s, tos) ∧ tos.length = ls.length ∧ ∀ (k c : Nat), ls[k]? = some c → ∃ j, tos[k]? = some j ∧ ord[j]? = some (stp s c)
section
variable {M : Mc}
theorem Mc.fin_eq {s : Nat} {r : Bool × List Nat} (h : M.rows[s]? = some r) : M.fin s = r.1 := by
  unfold Mc.fin; rw [List.getD_eq_getElem?_getD, h]; rfl
theorem Mc.tos_eq {s : Nat} {r : Bool × List Nat} (h : M.rows[s]? = some r) : M.tos s = r.2 := by
  unfold Mc.tos; rw [List.getD_eq_getElem?_getD, h]; rfl
theorem Mc.go_eq {s c k t : Nat} {r : Bool × List Nat} (hn : M.ls.Nodup) (h : M.rows[s]? = some r) (hk : M.ls[k]? = some c) (ht : r.2[k]? = some t) : M.go s c = t := by
  unfold Mc.go
  rw [Mc.tos_eq h, List.getD_eq_getElem?_getD]
  rw [idx_of hn hk, ht]; rfl
theorem Mc.Ok.row (O : M.Ok) {s : Nat} (hs : s < M.n) : ∃ r, M.rows[s]? = some r ∧ r.1 = M.fin s ∧ r.2 = M.tos s ∧ r.2.length = M.ls.length ∧ (∀ t ∈ r.2, t < M.n) := by
  have h : M.rows[s]? = some M.rows[s] := List.getElem?_eq_getElem hs
  exact ⟨_, h, (Mc.fin_eq h).symm, (Mc.tos_eq h).symm, O.wid _ (List.mem_of_getElem? h), O.ins _ (List.mem_of_getElem? h)⟩
theorem Mc.Ok.tos_get (O : M.Ok) {s k c : Nat} (hs : s < M.n) (hk : M.ls[k]? = some c) : (M.tos s)[k]? = some (M.go s c) := by
  obtain ⟨r, h1, _, h2, h3, _⟩ := O.row hs
  obtain ⟨hk1, _⟩ := List.getElem?_eq_some_iff.mp hk
  have h4 : r.2[k]? = some r.2[k] := List.getElem?_eq_getElem (by omega)
  rw [Mc.go_eq O.nd h1 hk h4, ← h2]; exact h4
theorem Mc.Ok.idx (O : M.Ok) {c : Nat} (hc : c ∈ M.ls) : M.ls[M.ls.idxOf c]? = some c := by
  have h : M.ls.idxOf c < M.ls.length := List.idxOf_lt_length_iff.mpr hc
  rw [List.getElem?_eq_getElem h, List.getElem_idxOf]
end
section
variable {ls : Wd} {b N : Nat} {stp : Nat → Nat → Nat} {en : Nat → Bool} {rows : List (Bool × List Nat)} {ord : List Nat}
theorem Gone.row_lt (g : Gone ls b stp en N rows ord) : ∀ r ∈ rows, r.2.length = ls.length ∧ ∀ t ∈ r.2, t < rows.length := fun r hr => by
  obtain ⟨i, hi⟩ := List.mem_iff_getElem?.mp hr
  have hil : i < ord.length := by rw [← g.len]; exact (List.getElem?_eq_some_iff.mp hi).1
  obtain ⟨tos, e, hl, hk⟩ := g.row i _ (List.getElem?_eq_getElem hil)
  rw [hi] at e; cases e
  refine ⟨hl, fun t ht => ?_⟩
  obtain ⟨k, hk1⟩ := List.mem_iff_getElem?.mp ht
  have hkl : k < ls.length := by have := (List.getElem?_eq_some_iff.mp hk1).1; simp only at this hl; omega
  obtain ⟨j, h1, h2⟩ := hk k _ (List.getElem?_eq_getElem hkl)
  simp only at hk1
  rw [hk1] at h1; cases h1
  rw [g.len]; exact (List.getElem?_eq_some_iff.mp h2).1
theorem Gone.le (g : Gone ls b stp en N rows ord) : rows.length ≤ N := by
  rw [g.len]
  have := nodup_le ord (List.range N) g.nd fun x hx => List.mem_range.mpr (g.lt x hx)
  simpa using this
theorem Gone.pos (g : Gone ls b stp en N rows ord) : 1 ≤ rows.length := by
  rw [g.len]
  exact (List.getElem?_eq_some_iff.mp g.hd).1
structure Abc (ls : Wd) : Prop where
  lpos : 1 ≤ ls.length
  lle : ls.length ≤ 4
  abc : ∀ c ∈ ls, 97 ≤ c ∧ c ≤ 122
  asc : ls.Pairwise (· < ·)
theorem Mc.Ok.abc_ {M : Mc} (O : M.Ok) : Abc M.ls := ⟨O.lpos, O.lle, O.abc, O.asc⟩
theorem Gone.ok (g : Gone ls b stp en N rows ord) (A : Abc ls) (hN : N ≤ 60) : (Mc.mk ls rows).Ok :=
  ⟨A.lpos, A.lle, A.abc, A.asc, g.pos, Nat.le_trans g.le hN, fun r hr => (g.row_lt r hr).1, fun r hr => (g.row_lt r hr).2⟩
theorem Gone.run (g : Gone ls b stp en N rows ord) (A : Abc ls) {w : Wd} (hw : Ov ls w) : ∀ {i s : Nat}, ord[i]? = some s → ord[(Mc.mk ls rows).run i w]? = some (w.foldl stp s) := by
  induction w with
  | nil => intro i s h; exact h
  | cons c w ih =>
    intro i s h
    rw [Mc.run_cons, List.foldl_cons]
    obtain ⟨tos, e, hl, hk⟩ := g.row i s h
    obtain ⟨k, hk1⟩ := List.mem_iff_getElem?.mp hw.hd
    obtain ⟨j, e1, e2⟩ := hk k c hk1
    have : (Mc.mk ls rows).go i c = j := Mc.go_eq (M := ⟨ls, rows⟩) (A.asc.imp fun h e => by omega) e hk1 e1
    rw [this]
    exact ih hw.tl e2
theorem Gone.fin (g : Gone ls b stp en N rows ord) {i s : Nat} (h : ord[i]? = some s) : (Mc.mk ls rows).fin i = en s := by
  obtain ⟨tos, e, _⟩ := g.row i s h
  exact Mc.fin_eq (M := ⟨ls, rows⟩) e
theorem Gone.lang (g : Gone ls b stp en N rows ord) (A : Abc ls) {w : Wd} (hw : Ov ls w) : (Mc.mk ls rows).lang w = en (w.foldl stp b) := g.fin (g.run A hw g.hd)
theorem Gone.reach_ (g : Gone ls b stp en N rows ord) (A : Abc ls) : ∀ s, s < rows.length → ∃ w, Ov ls w ∧ (Mc.mk ls rows).run 0 w = s := fun s hs => by
  have hs' : s < ord.length := by rw [← g.len]; exact hs
  obtain ⟨w, hw, e⟩ := g.reach _ (List.getElem_mem hs')
  refine ⟨w, hw, ?_⟩
  have h1 := g.run A hw g.hd
  rw [e] at h1
  exact nd_inj g.nd h1 (List.getElem?_eq_getElem hs')
end

/-! ### classes -/
section
variable {κ : Type} [BEq κ] [LawfulBEq κ]
/-- the distinct ones, each where it first stands -/
def dis (ks : List κ) : List κ := ks.foldl (fun acc k => if acc.contains k then acc else acc ++ [k]) []
theorem dis_snoc (ks : List κ) (k : κ) : dis (ks ++ [k]) = if (dis ks).contains k then dis ks else dis ks ++ [k] := by
  unfold dis; rw [List.foldl_append]; rfl
theorem dis_ind {P : List κ → Prop} (h0 : P []) (hs : ∀ ks k, P ks → P (ks ++ [k])) (ks : List κ) : P ks := by
  have : ∀ n (ks : List κ), ks.length = n → P ks := fun n => by
    induction n with
    | zero => intro ks h; rw [List.eq_nil_of_length_eq_zero h]; exact h0
    | succ n ih =>
      intro ks h
      have hne : ks ≠ [] := fun e => by subst e; cases h
      rw [← List.dropLast_concat_getLast hne]
      exact hs _ _ (ih _ (by rw [List.length_dropLast, h]; rfl))
  exact this _ ks rfl
theorem dis_mem (ks : List κ) (k : κ) : k ∈ dis ks ↔ k ∈ ks := by
  induction ks using dis_ind with
  | h0 => simp [dis]
  | hs ks a ih =>
    rw [dis_snoc]
    by_cases h : (dis ks).contains a = true
    · rw [if_pos h]
      have ha : a ∈ dis ks := by simpa using h
      simp only [List.mem_append, List.mem_singleton, ih]
      constructor
      · intro z; exact .inl z
      · rintro (z | z)
        · exact z
        · subst z; exact ih.mp ha
    · rw [if_neg h]; simp only [List.mem_append, List.mem_singleton, ih]
theorem dis_nd (ks : List κ) : (dis ks).Nodup := by
  induction ks using dis_ind with
  | h0 => simp [dis]
  | hs ks a ih =>
    rw [dis_snoc]
    by_cases h : (dis ks).contains a = true
    · rw [if_pos h]; exact ih
    · rw [if_neg h]
      have ha : a ∉ dis ks := by simpa using h
      rw [List.nodup_append]
      refine ⟨ih, by simp, fun x hx y hy e => ?_⟩
      rw [List.mem_singleton] at hy; subst hy; subst e; exact ha hx
theorem dis_pre (ks : List κ) : ∀ ls, ∃ l, dis (ks ++ ls) = dis ks ++ l := by
  intro ls
  induction ls using dis_ind with
  | h0 => exact ⟨[], by simp⟩
  | hs ls a ih =>
    obtain ⟨l, e⟩ := ih
    rw [← List.append_assoc, dis_snoc]
    split
    · exact ⟨l, e⟩
    · exact ⟨l ++ [a], by rw [e, List.append_assoc]⟩
def ranks (ks : List κ) : List Nat := ks.map (dis ks).idxOf
theorem idx_app {l : List κ} (m : List κ) {k : κ} (h : k ∈ l) : (l ++ m).idxOf k = l.idxOf k := by
  rw [List.idxOf_append, if_pos h]
theorem ranks_snoc (ks : List κ) (k : κ) : ranks (ks ++ [k]) = ranks ks ++ [(dis (ks ++ [k])).idxOf k] := by
  unfold ranks
  rw [List.map_append]
  congr 1
  apply List.map_congr_left
  intro a ha
  obtain ⟨l, e⟩ := dis_pre ks [k]
  rw [e, idx_app l ((dis_mem ks a).mpr ha)]
theorem ranks_get {ks : List κ} {i : Nat} {k : κ} (h : ks[i]? = some k) : (ranks ks)[i]? = some ((dis ks).idxOf k) := by
  unfold ranks; rw [List.getElem?_map, h]; rfl
theorem ranks_len (ks : List κ) : (ranks ks).length = ks.length := by unfold ranks; simp
theorem idx_inj {l : List κ} {a c : κ} (ha : a ∈ l) (e : l.idxOf a = l.idxOf c) : a = c := by
  have h1 : l.idxOf a < l.length := List.idxOf_lt_length_iff.mpr ha
  have h2 : l[l.idxOf a] = a := List.getElem_idxOf h1
  have h3 : l.idxOf c < l.length := by omega
  have h4 : l[l.idxOf c] = c := List.getElem_idxOf h3
  rw [← h2, ← h4]; congr 1
theorem ranks_inj {ks : List κ} {i j : Nat} {a c : κ} (hi : ks[i]? = some a) (hj : ks[j]? = some c) : (ranks ks)[i]? = (ranks ks)[j]? ↔ a = c := by
  rw [ranks_get hi, ranks_get hj]
  constructor
  · intro h; exact idx_inj ((dis_mem ks a).mpr (List.mem_of_getElem? hi)) (Option.some.inj h)
  · intro h; rw [h]
theorem ranks_lt {ks : List κ} {r : Nat} (h : r ∈ ranks ks) : r < (dis ks).length := by
  unfold ranks at h
  obtain ⟨a, ha, rfl⟩ := List.mem_map.mp h
  exact List.idxOf_lt_length_iff.mpr ((dis_mem ks a).mpr ha)
theorem ranks_onto {ks : List κ} {r : Nat} (h : r < (dis ks).length) : r ∈ ranks ks := by
  unfold ranks
  have hm : (dis ks)[r] ∈ ks := (dis_mem ks _).mp (List.getElem_mem h)
  exact List.mem_map.mpr ⟨_, hm, idx_of (dis_nd ks) (List.getElem?_eq_getElem h)⟩
end
/-- numbered as they first stand -/
def Fresh (cl : List Nat) : Prop := ∀ (i a : Nat), cl[i]? = some a → (∃ j, j < i ∧ cl[j]? = some a) ∨ ((∀ (j c : Nat), j < i → cl[j]? = some c → c < a) ∧ ∀ c, c < a → ∃ j, j < i ∧ cl[j]? = some c)
theorem fresh_ranks {κ : Type} [BEq κ] [LawfulBEq κ] (ks : List κ) : Fresh (ranks ks) := by
  induction ks using dis_ind with
  | h0 => intro i a h; simp [ranks] at h
  | hs ks k ih =>
    intro i a h
    rw [ranks_snoc] at h ⊢
    have hl := ranks_len ks
    rw [List.getElem?_append] at h
    split at h
    · rename_i hi
      have lift : ∀ (j c : Nat), j < i → (((ranks ks) ++ [(dis (ks ++ [k])).idxOf k])[j]? = some c ↔ (ranks ks)[j]? = some c) := fun j c hj => by
        rw [List.getElem?_append_left (by omega)]
      rcases ih i a h with ⟨j, h1, h2⟩ | ⟨h1, h2⟩
      · exact .inl ⟨j, h1, (lift j a h1).mpr h2⟩
      · refine .inr ⟨fun j c hj e => h1 j c hj ((lift j c hj).mp e), fun c hc => ?_⟩
        obtain ⟨j, e1, e2⟩ := h2 c hc
        exact ⟨j, e1, (lift j c e1).mpr e2⟩
    · rename_i hi
      have hi0 : i = (ranks ks).length := by
        have := (List.getElem?_eq_some_iff.mp h).1
        simp at this; omega
      subst hi0
      simp at h
      have lift : ∀ (j c : Nat), j < (ranks ks).length → (((ranks ks) ++ [(dis (ks ++ [k])).idxOf k])[j]? = some c ↔ (ranks ks)[j]? = some c) := fun j c hj => by
        rw [List.getElem?_append_left hj]
      rw [dis_snoc] at h
      by_cases hc : (dis ks).contains k = true
      · rw [if_pos hc] at h
        have hk : k ∈ ks := (dis_mem ks k).mp (by simpa using hc)
        have : a ∈ ranks ks := by unfold ranks; exact List.mem_map.mpr ⟨k, hk, h⟩
        obtain ⟨j, hj⟩ := List.mem_iff_getElem?.mp this
        exact .inl ⟨j, (List.getElem?_eq_some_iff.mp hj).1, (lift j a (List.getElem?_eq_some_iff.mp hj).1).mpr hj⟩
      · rw [if_neg hc] at h
        have hk : k ∉ dis ks := by simpa using hc
        have ha : a = (dis ks).length := by
          rw [← h, List.idxOf_append, if_neg hk]; simp
        subst ha
        refine .inr ⟨fun j c hj e => ranks_lt (List.mem_of_getElem? ((lift j c hj).mp e)), fun c hc => ?_⟩
        obtain ⟨j, hj⟩ := List.mem_iff_getElem?.mp (ranks_onto hc)
        exact ⟨j, (List.getElem?_eq_some_iff.mp hj).1, (lift j c (List.getElem?_eq_some_iff.mp hj).1).mpr hj⟩

/-- alike stands -/
def Like (M : Mc) (i j : Nat) : Prop := ∀ w, Ov M.ls w → M.fin (M.run i w) = M.fin (M.run j w)
def keyOf (cl : List Nat) (M : Mc) (i : Nat) : List Nat := cl.getD i 0 :: (M.tos i).map fun t => cl.getD t 0
def keysOf (cl : List Nat) (M : Mc) : List (List Nat) := (List.range M.n).map (keyOf cl M)
/-- a round of the classes' search -/
structure Rnd (M : Mc) (cl : List Nat) (many : Nat) : Prop where
  len : cl.length = M.n
  up : ∀ i j, i < M.n → j < M.n → Like M i j → cl.getD i 0 = cl.getD j 0
  dn : ∀ i j, i < M.n → j < M.n → cl.getD i 0 = cl.getD j 0 → M.fin i = M.fin j
  cnt : many = 0 ∨ ((∀ a ∈ cl, a < many) ∧ ∀ a, a < many → a ∈ cl)
section
variable {M : Mc} {cl : List Nat} {many : Nat}
theorem Like.go {i j c : Nat} (h : Like M i j) (hc : c ∈ M.ls) : Like M (M.go i c) (M.go j c) := fun w hw => h (c :: w) (.cons hc hw)
theorem keys_len : (keysOf cl M).length = M.n := by simp [keysOf]
theorem keys_get {i : Nat} (h : i < M.n) : (keysOf cl M)[i]? = some (keyOf cl M i) := by
  unfold keysOf; rw [List.getElem?_map, List.getElem?_range h]; rfl
theorem getD_of {l : List Nat} {i a : Nat} (h : l[i]? = some a) : l.getD i 0 = a := by rw [List.getD_eq_getElem?_getD, h]; rfl
theorem ranks_eq_iff {i j : Nat} (hi : i < M.n) (hj : j < M.n) : (ranks (keysOf cl M)).getD i 0 = (ranks (keysOf cl M)).getD j 0 ↔ keyOf cl M i = keyOf cl M j := by
  have e1 := ranks_get (keys_get (cl := cl) hi)
  have e2 := ranks_get (keys_get (cl := cl) hj)
  rw [getD_of e1, getD_of e2, ← ranks_inj (keys_get (cl := cl) hi) (keys_get (cl := cl) hj), e1, e2]
  constructor
  · intro h; rw [h]
  · intro h; exact Option.some.inj h
theorem key_cl {i j : Nat} (h : keyOf cl M i = keyOf cl M j) : cl.getD i 0 = cl.getD j 0 := (List.cons.inj h).1
theorem key_go (O : M.Ok) {i j c : Nat} (hi : i < M.n) (hj : j < M.n) (hc : c ∈ M.ls) (h : keyOf cl M i = keyOf cl M j) : cl.getD (M.go i c) 0 = cl.getD (M.go j c) 0 := by
  have h2 := (List.cons.inj h).2
  have e1 := O.tos_get hi (O.idx hc)
  have e2 := O.tos_get hj (O.idx hc)
  have e3 := congrArg (fun l => l[M.ls.idxOf c]?) h2
  simp only [List.getElem?_map, e1, e2] at e3
  exact Option.some.inj e3
theorem Rnd.next (R : Rnd M cl many) (O : M.Ok) : Rnd M (ranks (keysOf cl M)) (dis (keysOf cl M)).length := by
  refine ⟨by rw [ranks_len, keys_len], fun i j hi hj h => (ranks_eq_iff hi hj).mpr ?_, fun i j hi hj h => R.dn i j hi hj (key_cl ((ranks_eq_iff hi hj).mp h)), .inr ⟨fun a => ranks_lt, fun a => ranks_onto⟩⟩
  unfold keyOf
  congr 1
  · exact R.up i j hi hj h
  · obtain ⟨r1, _, _, t1, l1, _⟩ := O.row hi
    obtain ⟨r2, _, _, t2, l2, _⟩ := O.row hj
    refine List.ext_getElem? fun k => ?_
    rw [List.getElem?_map, List.getElem?_map]
    by_cases hk : k < M.ls.length
    · have hc := List.getElem?_eq_getElem hk
      rw [O.tos_get hi hc, O.tos_get hj hc]
      show some _ = some _
      congr 1
      exact R.up _ _ (O.go_lt _ _) (O.go_lt _ _) (h.go (List.mem_of_getElem? hc))
    · rw [List.getElem?_eq_none (by rw [← t1, l1]; omega), List.getElem?_eq_none (by rw [← t2, l2]; omega)]
theorem Rnd.pos (O : M.Ok) : 1 ≤ (dis (keysOf cl M)).length := by
  have : (dis (keysOf cl M)) ≠ [] := fun e => by
    have h := (dis_mem (keysOf cl M) (keyOf cl M 0)).mpr (List.mem_of_getElem? (keys_get O.pos))
    rw [e] at h; cases h
  exact List.length_pos_iff.mpr this
theorem Rnd.cnt_le : (dis (keysOf cl M)).length ≤ M.n := by
  have := nodup_le _ (keysOf cl M) (dis_nd (keysOf cl M)) fun x hx => (dis_mem _ x).mp hx
  rwa [keys_len] at this
/-- no fewer classes than before; as many only where each class stays whole -/
theorem Rnd.ge (R : Rnd M cl many) (O : M.Ok) : many ≤ (dis (keysOf cl M)).length ∧ (many = (dis (keysOf cl M)).length → ∀ i j, i < M.n → j < M.n → cl.getD i 0 = cl.getD j 0 → keyOf cl M i = keyOf cl M j) := by
  rcases R.cnt with z | ⟨z1, z2⟩
  · subst z
    exact ⟨Nat.zero_le _, fun h => absurd h (by have := Rnd.pos (cl := cl) O; omega)⟩
  · -- the first signs of the keys
    have hmem : ∀ a, a < many → a ∈ (dis (keysOf cl M)).map fun k => k.headD 0 := fun a ha => by
      obtain ⟨i, hi⟩ := List.mem_iff_getElem?.mp (z2 a ha)
      have hin : i < M.n := by rw [← R.len]; exact (List.getElem?_eq_some_iff.mp hi).1
      refine List.mem_map.mpr ⟨keyOf cl M i, (dis_mem _ _).mpr (List.mem_of_getElem? (keys_get hin)), ?_⟩
      show cl.getD i 0 = a
      exact getD_of hi
    have hle : many ≤ (dis (keysOf cl M)).length := by
      have := nodup_le (List.range many) _ List.nodup_range fun x hx => hmem x (List.mem_range.mp hx)
      simpa using this
    refine ⟨hle, fun he i j hi hj hcl => Classical.byContradiction fun hne => ?_⟩
    have hki := (dis_mem _ _).mpr (List.mem_of_getElem? (keys_get (cl := cl) hi))
    have hkj := (dis_mem _ _).mpr (List.mem_of_getElem? (keys_get (cl := cl) hj))
    have := nodup_le (List.range many) (((dis (keysOf cl M)).erase (keyOf cl M j)).map fun k => k.headD 0) List.nodup_range fun x hx => by
      obtain ⟨k, hk, e⟩ := List.mem_map.mp (hmem x (List.mem_range.mp hx))
      by_cases hkk : k = keyOf cl M j
      · refine List.mem_map.mpr ⟨keyOf cl M i, (List.mem_erase_of_ne hne).mpr hki, ?_⟩
        rw [← e, hkk]; exact hcl
      · exact List.mem_map.mpr ⟨k, (List.mem_erase_of_ne hkk).mpr hk, e⟩
    rw [List.length_range, List.length_map, List.length_erase_of_mem hkj] at this
    have := List.length_pos_of_mem hkj
    omega
/-- the classes, when no more are found -/
structure Classes (M : Mc) (cl : List Nat) : Prop where
  len : cl.length = M.n
  iff : ∀ i j, i < M.n → j < M.n → (cl.getD i 0 = cl.getD j 0 ↔ Like M i j)
  fresh : Fresh cl
theorem Rnd.done (R : Rnd M cl many) (O : M.Ok) (h : (dis (keysOf cl M)).length = many) : Classes M (ranks (keysOf cl M)) := by
  have R' := R.next O
  have st := (R.ge O).2 h.symm
  refine ⟨R'.len, fun i j hi hj => ⟨fun e => ?_, R'.up i j hi hj⟩, fresh_ranks _⟩
  have e' := key_cl ((ranks_eq_iff hi hj).mp e)
  intro w hw
  clear e
  induction w generalizing i j with
  | nil => exact R.dn i j hi hj e'
  | cons c w ih =>
    rw [Mc.run_cons, Mc.run_cons]
    exact ih (M.go i c) (M.go j c) (O.go_lt _ _) (O.go_lt _ _) (key_go O hi hj hw.hd (st i j hi hj e')) hw.tl
theorem rnd_first (O : M.Ok) (h1 : cl.length = M.n) (h2 : ∀ i, i < M.n → cl.getD i 0 = if M.fin i then 1 else 0) : Rnd M cl 0 :=
  ⟨h1, fun i j hi hj h => by rw [h2 i hi, h2 j hj, show M.fin i = M.fin j from h [] .nil], fun i j hi hj h => by
    rw [h2 i hi, h2 j hj] at h; cases e1 : M.fin i <;> cases e2 : M.fin j <;> simp [e1, e2] at h <;> rfl, .inl rfl⟩
/-- the rows of the classes: each class's row by any of its stands -/
structure Rows (M : Mc) (cl : List Nat) (rows : List (Bool × List Nat)) : Prop where
  len : ∀ a, a < rows.length ↔ a ∈ cl
  row : ∀ a, a < rows.length → ∃ i, i < M.n ∧ cl.getD i 0 = a ∧ rows[a]? = some (M.fin i, (M.tos i).map fun t => cl.getD t 0)
variable {rows : List (Bool × List Nat)}
theorem Classes.zero (C : Classes M cl) (O : M.Ok) : cl.getD 0 0 = 0 := by
  have h0 : 0 < cl.length := by rw [C.len]; exact O.pos
  have e := List.getElem?_eq_getElem h0
  rw [getD_of e]
  rcases C.fresh 0 _ e with ⟨j, hj, _⟩ | ⟨_, h⟩
  · omega
  · refine Classical.byContradiction fun z => ?_
    obtain ⟨j, hj, _⟩ := h 0 (by omega)
    omega
theorem Classes.any (C : Classes M cl) (O : M.Ok) (R : Rows M cl rows) {i : Nat} (hi : i < M.n) : rows[cl.getD i 0]? = some (M.fin i, (M.tos i).map fun t => cl.getD t 0) := by
  have hm : cl.getD i 0 ∈ cl := by
    have e := List.getElem?_eq_getElem (by rw [C.len]; exact hi : i < cl.length)
    rw [getD_of e]; exact List.mem_of_getElem? e
  obtain ⟨j, hj, e1, e2⟩ := R.row _ ((R.len _).mpr hm)
  rw [e2]
  have lk := (C.iff j i hj hi).mp e1
  congr 2
  · exact lk [] .nil
  · obtain ⟨r1, _, _, t1, l1, _⟩ := O.row hi
    obtain ⟨r2, _, _, t2, l2, _⟩ := O.row hj
    refine List.ext_getElem? fun k => ?_
    rw [List.getElem?_map, List.getElem?_map]
    by_cases hk : k < M.ls.length
    · have hc := List.getElem?_eq_getElem hk
      rw [O.tos_get hi hc, O.tos_get hj hc]
      show some _ = some _
      congr 1
      exact (C.iff _ _ (O.go_lt _ _) (O.go_lt _ _)).mpr (lk.go (List.mem_of_getElem? hc))
    · rw [List.getElem?_eq_none (by rw [← t2, l2]; omega), List.getElem?_eq_none (by rw [← t1, l1]; omega)]
theorem Classes.run (C : Classes M cl) (O : M.Ok) (R : Rows M cl rows) {w : Wd} (hw : Ov M.ls w) : ∀ {i : Nat}, i < M.n → (Mc.mk M.ls rows).run (cl.getD i 0) w = cl.getD (M.run i w) 0 := by
  induction w with
  | nil => intro i _; rfl
  | cons c w ih =>
    intro i hi
    rw [Mc.run_cons, Mc.run_cons]
    have e1 : ((M.tos i).map fun t => cl.getD t 0)[M.ls.idxOf c]? = some (cl.getD (M.go i c) 0) := by
      rw [List.getElem?_map, O.tos_get hi (O.idx hw.hd)]; rfl
    have : (Mc.mk M.ls rows).go (cl.getD i 0) c = cl.getD (M.go i c) 0 := Mc.go_eq (M := ⟨M.ls, rows⟩) O.nd (C.any O R hi) (O.idx hw.hd) e1
    rw [this]
    exact ih hw.tl (O.go_lt _ _)
theorem Classes.fin (C : Classes M cl) (O : M.Ok) (R : Rows M cl rows) {i : Nat} (hi : i < M.n) : (Mc.mk M.ls rows).fin (cl.getD i 0) = M.fin i := (Mc.fin_eq (M := ⟨M.ls, rows⟩) (r := (M.fin i, (M.tos i).map fun t => cl.getD t 0)) (C.any O R hi))
theorem Classes.lang (C : Classes M cl) (O : M.Ok) (R : Rows M cl rows) {w : Wd} (hw : Ov M.ls w) : (Mc.mk M.ls rows).lang w = M.lang w := by
  have e := C.run O R hw O.pos
  rw [C.zero O] at e
  unfold Mc.lang
  rw [e, C.fin O R (O.run0_lt w)]
theorem Classes.le (C : Classes M cl) (R : Rows M cl rows) : rows.length ≤ M.n := by
  have := nodup_le (List.range rows.length) cl List.nodup_range fun x hx => (R.len x).mp (List.mem_range.mp hx)
  rw [List.length_range, C.len] at this; exact this
theorem Classes.min (C : Classes M cl) (O : M.Ok) (R : Rows M cl rows) (hr : ∀ s, s < M.n → ∃ w, Ov M.ls w ∧ M.run 0 w = s) : (Mc.mk M.ls rows).Min := by
  have hpos : 1 ≤ rows.length := by
    have h0 : 0 < cl.length := by rw [C.len]; exact O.pos
    have e := List.getElem?_eq_getElem h0
    have e2 := C.zero O
    rw [getD_of e] at e2
    have := (R.len 0).mpr (by rw [← e2]; exact List.mem_of_getElem? e)
    omega
  have hin : ∀ r ∈ rows, r.2.length = M.ls.length ∧ ∀ t ∈ r.2, t < rows.length := fun r hm => by
    obtain ⟨a, ha⟩ := List.mem_iff_getElem?.mp hm
    obtain ⟨i, hi, e1, e2⟩ := R.row a (List.getElem?_eq_some_iff.mp ha).1
    rw [ha] at e2; cases e2
    obtain ⟨r1, _, _, t1, l1, b1⟩ := O.row hi
    refine ⟨by rw [List.length_map, ← t1, l1], fun t ht => ?_⟩
    obtain ⟨x, hx, rfl⟩ := List.mem_map.mp ht
    have hxn := b1 x (by rw [t1]; exact hx)
    refine (R.len _).mpr ?_
    have e := List.getElem?_eq_getElem (by rw [C.len]; exact hxn : x < cl.length)
    rw [getD_of e]; exact List.mem_of_getElem? e
  have ok : (Mc.mk M.ls rows).Ok := ⟨O.lpos, O.lle, O.abc, O.asc, hpos, Nat.le_trans (C.le R) O.le, fun r hm => (hin r hm).1, fun r hm => (hin r hm).2⟩
  refine { ok with reach := fun s hs => ?_, red := fun s t hs ht h => ?_ }
  · obtain ⟨i, hi, e1, _⟩ := R.row s hs
    obtain ⟨w, hw, rfl⟩ := hr i hi
    refine ⟨w, hw, ?_⟩
    have e := C.run O R hw O.pos
    rw [C.zero O] at e
    rw [e, e1]
  · obtain ⟨i, hi, e1, _⟩ := R.row s hs
    obtain ⟨j, hj, e2, _⟩ := R.row t ht
    rw [← e1, ← e2]
    refine (C.iff i j hi hj).mpr fun w hw => ?_
    have := h w hw
    rw [← e1, ← e2, C.run O R hw hi, C.run O R hw hj, C.fin O R (O.run_lt hi w), C.fin O R (O.run_lt hj w)] at this
    exact this
end
end Sw
/-! Texts of words, small readings, comprehensions by a function, data on the heap. -/
namespace Sw
open PySem PySem.Spec PyProof.Rows L2 LamX NdefX
theorem S_app (u v : Wd) : S u ++ S v = S (u ++ v) := by
  show (⟨u.toArray ++ v.toArray⟩ : Str) = ⟨(u ++ v).toArray⟩
  simp
theorem S_len (w : Wd) : (S w).length = w.length := by show w.toArray.size = _; simp
theorem S_cps (w : Wd) : (S w).cps.toList = w := rfl
theorem S_inj {u v : Wd} (h : S u = S v) : u = v := by
  have := congrArg (fun s : Str => s.cps.toList) h
  exact this
theorem S_nil : S [] = ("" : Str) := by decide +kernel
theorem sgn_S (w : Wd) : sgn (S w) = w.map fun c => VS [c] := rfl
theorem S_get {w : Wd} {i c : Nat} : (S w).cps[i]? = some c ↔ w[i]? = some c := by
  show w.toArray[i]? = some c ↔ _
  simp
theorem S_of (s : Str) : s = S s.cps.toList := by cases s; simp [S]
theorem sIx_one {n : Nat} (h : 1 ≤ n) : HT.sIx n 0 (some 1) = 1 := by
  unfold HT.sIx
  simp
  omega
section
variable {X : Cx}
theorem pe_globI {x : Str} {n : Int} {pos : Pos} (hg : Gl X x) (h : ∃ t, X.mg x = some (.int n t)) (hd : (x == ("__debug__" : Str)) = false := by decide +kernel) : PE X (.Name x pos) (tC (.int n)) := by
  obtain ⟨t, e⟩ := h
  exact pe_glob hg e ⟨t, rfl⟩ hd
theorem pe_globS {x z : Str} {pos : Pos} (hg : Gl X x) (h : ∃ t, X.mg x = some (.str z t)) (hd : (x == ("__debug__" : Str)) = false := by decide +kernel) : PE X (.Name x pos) (tC (.str z)) := by
  obtain ⟨t, e⟩ := h
  exact pe_glob hg e ⟨t, rfl⟩ hd
end
section
variable {K : PySem.W.Frag}
theorem k_ii : PySem.W.kitOne K (.type "int") (.type "int") = some true := kit_ty (by decide +kernel)
theorem k_ib : PySem.W.kitOne K (.type "int") (.type "bool") = some false := kit_ty (by decide +kernel)
theorem k_is : PySem.W.kitOne K (.type "int") (.type "str") = some false := kit_ty (by decide +kernel)
theorem k_ss : PySem.W.kitOne K (.type "str") (.type "str") = some true := kit_ty (by decide +kernel)
theorem k_bb : PySem.W.kitOne K (.type "bool") (.type "bool") = some true := kit_ty (by decide +kernel)
theorem k_bs : PySem.W.kitOne K (.type "bool") (.type "str") = some false := kit_ty (by decide +kernel)
theorem k_tt : PySem.W.kitOne K (.type "tuple") (.type "tuple") = some true := kit_ty (by decide +kernel)
end
/-- f at 0, .., n - 1 -/
def tab (f : Nat → V) (n : Nat) : List V := (List.range n).map f
theorem tab_len (f : Nat → V) (n : Nat) : (tab f n).length = n := by unfold tab; simp
theorem tab_succ (f : Nat → V) (n : Nat) : tab f (n + 1) = tab f n ++ [f n] := by unfold tab; rw [List.range_succ, List.map_append]; rfl
theorem tab_eq {f : Nat → V} {n : Nat} {xs : List V} (hl : xs.length = n) (h : ∀ i x, xs[i]? = some x → f i = x) : tab f n = xs := by
  refine List.ext_getElem? fun i => ?_
  unfold tab
  rw [List.getElem?_map]
  by_cases hi : i < n
  · rw [List.getElem?_range hi, List.getElem?_eq_getElem (by omega : i < xs.length)]
    exact congrArg some (h i _ (List.getElem?_eq_getElem _))
  · rw [List.getElem?_eq_none (by simp; omega), List.getElem?_eq_none (by omega)]; rfl
/-- a comprehension whose i-th item is f i -/
theorem lc_map {J : It} {n : Nat} {G : Hp → Prop} {Y : Nat → Hp → V → Hp → Prop} (w : Walk J n G Y) {g : TG} {te : TE} {vs : List Nat} {σ : L2.St} {H1 : Hp} {D : Addr} {Qd : Hp → Prop} (R : Hp → Prop) (f : Nat → V) (hn : n ≤ sizeLine)
    (h0 : R (upd H1 D (.lst []))) (hG : ∀ i H, i ≤ n → R H → H D = some (.lst (tab f i)) → G H) (hR : ∀ H xs ys, R H → H D = some (.lst xs) → R (upd H D (.lst ys)))
    (hs : ∀ i x H H' (Q : VK), i < n → R H → H D = some (.lst (tab f i)) → Y i H x H' → (∀ H4, H4 D = some (.lst (tab f i)) → R H4 → Q (f i) H4) → g x (wipe σ vs) H' fun σ2 H2 => wipe σ2 vs = wipe σ vs ∧ te σ2 H2 Q)
    (hd : ∀ H, R H → H D = some (.lst (tab f n)) → Qd H) :
    ∃ W : Nat → Nat → Hp → Prop, (∃ m, W 0 m (upd H1 D (.lst []))) ∧ ∀ (i m : Nat) (H : Hp), W i m H → It.stop J i H ∧ Qd H ∨ It.go J i H ∧ ∃ Nx : Hp → Prop, (∀ (H' : Hp), Nx H' → ∃ m', m' < m ∧ W (i + 1) m' H') ∧
      ∀ (x : V) (H' : Hp), It.yld J i H x H' → g x (wipe σ vs) H' fun σ2 H2 => wipe σ2 vs = wipe σ vs ∧ tYes σ2 H2 fun b H3 => if b = true then te σ2 H3 fun y H4 => ∃ acc, H4 D = some (.lst acc) ∧ acc.length < sizeLine ∧ Nx (upd H4 D (.lst (acc ++ [y]))) else Nx H3 := by
  refine lc_it w (tt := tYes) (fun i H => R H ∧ H D = some (.lst (tab f i))) ⟨h0, upd_same⟩ (fun i H hi h => hG i H hi h.1 h.2) (fun i x H H' hi h y => ?_) (fun H h => hd H h.1 h.2)
  exact hs i x H H' _ hi h.1 h.2 y fun H4 hD hr => ⟨_, hD, by rw [tab_len]; omega, hR _ _ _ hr hD, by rw [upd_same, tab_succ]⟩
/-! the rules with the written part as it is named outside a comprehension -/
section
variable {X : Cx} (K : PySem.W.Frag) (h : X.K = K)
include h
theorem ixL_K : IxR X (rIxL K) := h ▸ ix_list
theorem ixT_K : IxR X (rIxT K) := h ▸ ix_tup
theorem slL_K : SlR X (rSlL K) := h ▸ sl_list
theorem slT_K : SlR X (rSlT K) := h ▸ sl_tup
theorem slTA_K : SlR X (rSlA K) := h ▸ sl_tupA
theorem inSeq_K : OpR X (compareOp .In) (rIn K false) := h ▸ op_in_seq
theorem notInSeq_K : OpR X (compareOp .NotIn) (rIn K true) := h ▸ op_notIn_seq
theorem all_K (hc : X.calm = true) : CallR X (.builtin "all") (rAll K) := h ▸ cr_all hc
theorem any_K (hc : X.calm = true) : CallR X (.builtin "any") (rAny K) := h ▸ cr_any hc
theorem isi_K : CallR X (.builtin "isinstance") (rIsi K) := h ▸ call_isi
theorem eqD_K (hu : X.A.units + 64 < cLine) : OpR X (compareOp .Eq) (rEqD K) := h ▸ op_eqD hu
theorem catA_K : OpR X (binaryOp .Add) (rCatA K) := h ▸ op_catA
theorem len_K : CallR X (.builtin "len") (fun xs H Q => ∃ x n, xs = [x] ∧ LenV K x H n ∧ Q (V.int (n : Nat)) H) := h ▸ call_len
theorem tupOf_K : CallR X (.type "tuple") (fun xs H Q => ∃ p ys, xs = [V.ref p] ∧ ((SqL K H p ys ∧ ∀ l, H l = none → Q (V.ref l) (upd H l (.tup ys))) ∨ SqT K H p ys ∧ Q (V.ref p) H)) := h ▸ call_tuple_of
theorem lstOf_K : CallR X (.type "list") (fun xs H Q => ∃ p ys, xs = [V.ref p] ∧ (SqL K H p ys ∨ SqT K H p ys) ∧ ∀ l, H l = none → Q (V.ref l) (upd H l (.lst ys))) := h ▸ call_list_of
theorem pi_listK {tg l : Expr} {tl : TE} (he : PE X l tl) : PI X tg l (iList K tl) := h ▸ pi_list he
theorem pi_tupK {tg l : Expr} {tl : TE} (he : PE X l tl) : PI X tg l (iTup K tl) := h ▸ pi_tup he
theorem pi_zip2K {e e2 : Expr} {ta : TA} {p pos tpos : Pos} {elts : List Expr} {kk : Nat} (hg : Gl X "zip") (hm : X.mg "zip" = none) (ha : PA X [e, e2] ta) (hs : starEach [e, e2] X.env = (false, eval e X.env) :: starEach [e2] X.env := by rfl) (hpl : (backTo pos (starEach [e2] X.env)).any (·.1) = false := by rfl) :
    PI X (.Tuple elts kk tpos) (.Call (.Name "zip" p) [e, e2] [] pos) (iZip2 K ta) := h ▸ pi_zip2 hg hm ha (hs := hs) (hpl := hpl)
theorem pg_tupK (n : Nat) {pos : Pos} {es : List Expr} {k : Nat} {t : TGs} (hc : X.calm = true) (hg : PGs X es t) (h1 : (assignEach es X.env).length = n := by rfl) (h2 : (assignEach es X.env).findIdx? (·.1) = none := by rfl) : PG X (.Tuple es k pos) (gTup K n t) := h ▸ pg_tup hc hg h1 h2
theorem pe_fldK {e : Expr} {f : Str} {pos : Pos} {ta : TE} (he : PE X e ta) (hb : attributeBase e f X.env (eval e X.env) = eval e X.env) : PE X (.Attribute e f pos) (tFld K ta f) := h ▸ pe_fld he hb
end
end Sw
/-! Rules that the layer lacks. -/
namespace Sw
open PySem PySem.Spec PyProof.Rows L2 LamX NdefX
section
variable {X : Cx} {CX : CXT} {k n : Nat} {f C : Addr} {fd : FuncData} {ps ks : List Str} {sp : Sp} {E : XK} {m : Str} {pos apos : Pos} {e o : Expr} {es : List Expr} {kws : List Keyword} {ta : TE} {t tk : TA} {g : List Value → List Value → List Value} {gV : List V → List V → List V}
/-- o.m(e, .., k = e) -/
def tMethN (C : Addr) (m : Str) (n nk : Nat) (sp : Sp) (gV : List V → List V → List V) (E : XK) (ta : TE) (t tk : TA) : TE := fun σ H Q => ta σ H fun x H1 => ∃ a dx fs, x = .ref a ∧ H1 a = some (.ins C dx fs) ∧ fs.lookup m = none ∧
  t σ H1 fun vs H2 => tk σ H2 fun zs H3 => vs.length = n ∧ zs.length = nk ∧ sp (gV (x :: vs) zs) H3 Q E
theorem pe_methN {pl : Sem Bool} (he : PE X o ta) (c : Cls X.K C) (hm : Meth X.K C m f) (F : FnOk X.prog X.w X.K X.mg X.base CX k f fd ps sp) (hr : Room k X.A) (hb : KBn X.K fd ps (n + 1) ks g gV) (hx : Passes CX X E) (ha : PA X (e :: es) t) (hk : PK X kws tk)
    (hall : (backToKw pos (keywordEach kws X.env)).all (·.1.isSome) = true := by rfl) (hks : (backToKw pos (keywordEach kws X.env)).filterMap (·.1) = ks := by rfl)
    (hst : starEach (e :: es) X.env = (false, eval e X.env) :: starEach es X.env := by rfl) (hpl : (((backTo pos (starEach (e :: es) X.env)).any (·.1)) || ((backToKw pos (keywordEach kws X.env)).any (·.1.isNone))) = false := by rfl)
    (ht : eval (.Call (.Attribute o m apos) (e :: es) kws pos) X.env = (do
      let ov ← eval o X.env
      standAt apos.atName
      let (f, first) ← holding [ov] (getMethod ov m pl)
      callWith pos f first (backTo pos (starEach (e :: es) X.env)) (backToKw pos (keywordEach kws X.env))) := by rfl) :
    PE X (.Call (.Attribute o m apos) (e :: es) kws pos) (tMethN C m n ks.length sp gV E ta t tk) := by
  refine ⟨fun pins s σ H Q I h => ?_⟩
  refine PySem.W.methodCall_KW (pl := pl) (thn (he.run pins s σ H _ I h) fun u s1 ⟨x, H1, I1, rx, a, dx, fs, ex, ea, l, q⟩ => ?_) ht
  subst ex
  obtain rfl : u = Value.ref a := rx
  refine getmeth_ok I1 ea c hm l ?_
  refine PySem.W.callWith_KW (first := [.ref a]) (h₀ := X.base) I.ok.mod.kin hm.kp hall (thn (ha.run pos pins s1 σ H1 _ I1 q) fun us s2 ⟨vs, H2, I2, r, q2⟩ => (thn (hk.run pos pins s2 σ H2 _ I2 q2) fun ws s3 ⟨zs, H3, I3, r3, q3⟩ => ⟨I3.kIn, ?_⟩)) hpl hst
  rw [hks]
  exact run_fnN (us := .ref a :: us) (vs := .ref a :: vs) F hr hb hx I3 (.cons rfl r) r3 (by rw [List.length_cons, q3.1]) q3.2.1 q3.2.2
end

/-! ### x, *rest = .. -/
theorem pgs_star {X : Cx} {e : Expr} {p : Pos} {es : List Expr} {t : TG} {u : TGs} (h : PG X e t) (hs : PGs X es u)
    (ha : (assignEach (.Starred e p :: es) X.env).map (·.2) = assign e X.env :: (assignEach es X.env).map (·.2) := by rfl) : PGs X (.Starred e p :: es) (gCons t u) := by
  refine ⟨fun pins s σ H vs us Q I r q => ?_⟩
  obtain ⟨v, r', rfl, q⟩ := q
  cases r with
  | cons rv rr =>
    rw [ha]
    refine PyProof.Rows.assignInOrder_cons (thn (h.run pins s σ H v _ _ I rv q) fun _ s1 ⟨σ1, H1, I1, q1⟩ => hs.run pins s1 σ1 H1 _ _ Q I1 rr q1)
theorem star_items {prog : Program} {w : World} {A : Around} {E : Value → Shared → Prop} {s : Shared} {v : Value} {ax : Addr} {T : String} {y : Value} {ys : List Value} {St : Addr → Nat → Heap → Prop} {o : Obj} {Q : List Value → Shared → Prop}
    (hT : T = "str_ascii_iterator" ∨ T = "str_iterator" ∨ T = "list_iterator" ∨ T = "tuple_iterator") (hna : ∀ Q', Q' false s → wpAny (model prog w) A (notIterableAtAll v) Q' E s)
    (hit : ∀ Q', Q' (.ref s.heap.objs.size) { s with heap := s.heap.push o } → wpAny (model prog w) A (pyIter v) Q' E s) (hax : ax < s.heap.objs.size)
    (W : ∀ I, ax ≠ I → PySem.Walks prog w A.in1 I [I, ax] [I] (y :: ys).toArray.size (fun i v => (y :: ys).toArray[i]? = some v) (St I)) (hSt : St s.heap.objs.size 0 (s.heap.push o))
    (hTy : ∀ (i : Nat) (u : Shared) I, St I i u.heap → u.TypeIs (.ref I) T) (hat : ∀ i h I, St I i h → I < h.objs.size ∧ ax < h.objs.size) (hz : (y :: ys).length ≤ sizeLine)
    (h : ∀ (h' : Heap) (tk : Nat), (∀ b o, s.heap.get? b = some o → h'.get? b = some o) → Q [y, .ref h'.objs.size] { s with heap := h'.push { cls := .type "list", data := .seq ys.toArray }, toks := tk }) :
    wpAny (model prog w) A (unpackItems v 2 (some 1)) Q E s := by
  have hne : ax ≠ s.heap.objs.size := Nat.ne_of_lt hax
  have W1 := W s.heap.objs.size hne
  have kp0 : ∀ b ob, s.heap.get? b = some ob → (s.heap.push o).get? b = some ob := fun b ob e => Heap.get?_push_of_some _ e
  unfold unpackItems
  refine wpAny_bind (hna _ ?_)
  simp only [Bool.false_eq_true, if_false]
  refine wpAny_bind (wpAny_holding (hit _ ?_))
  refine wpAny_bind (wpAny_holding ?_)
  unfold draw
  refine wpAny_bind (W1.of_in1.item 0 _ _ _ (by simp) hSt fun v1 h1 tk1 hv hS1 k1 => ?_)
  have hv' : v1 = y := by simpa using hv.symm
  subst hv'
  refine wpAny_bind (wpAny_holding ?_)
  unfold draw
  refine wpAny_pure (wpAny_pure ?_)
  simp only [List.length_cons, List.length_nil, Nat.lt_irrefl, if_false]
  have b1 : ∀ b ob, s.heap.get? b = some ob → h1.get? b = some ob := fun b ob e => k1 b ob (by simp only [List.mem_singleton]; exact Nat.ne_of_lt (Heap.lt_size e)) (kp0 b ob e)
  refine wpAny_bind (wpAny_holding (PySem.W.kun_collect (St := St s.heap.objs.size) hT W1 (fun i u => hTy i u _) (k := 1) (by simp) hS1 (hat _ _ _ hS1).1 (hat _ _ _ hS1).2 (fun h2 tk2 k2 => ?_) (by simpa using hz)))
  have e1 : ((v1 :: ys).toArray.toList.drop 1) = ys := rfl
  rw [e1]
  have e2 : ¬ (ys.length < 2 - 1 - 1) := by omega
  simp only [e2, if_false]
  have e3 : ys.length - (2 - 1 - 1) = ys.length := by omega
  rw [e3, List.take_length, List.drop_length]
  refine wpAny_bind (wpAny_newList (wpAny_pure (h h2 tk2 fun b ob e => k2 b ob (Nat.ne_of_lt (Heap.lt_size e)) (b1 b ob e))) (by simp at hz; omega))
section
variable {X : Cx}
/-- x, *rest = the list (tuple) at a -/
def gStar (K : PySem.W.Frag) (t : TGs) : TG := fun v σ H Q => ∃ a x xs, v = .ref a ∧ (SqL K H a (x :: xs) ∨ SqT K H a (x :: xs)) ∧ ∀ p, H p = none → t [x, .ref p] σ (upd H p (.lst xs)) Q
theorem pg_star {pos p2 : Pos} {e1 e2 : Expr} {k : Nat} {t : TGs} (hc : X.A.handled = none) (hg : PGs X [e1, .Starred e2 p2] t) (hl : (assignEach [e1, .Starred e2 p2] X.env).length = 2 := by rfl) (hi : (assignEach [e1, .Starred e2 p2] X.env).findIdx? (·.1) = some 1 := by rfl) :
    PG X (.Tuple [e1, .Starred e2 p2] k pos) (gStar X.K t) := by
  refine ⟨fun pins s σ H v u Q I r h => ?_⟩
  obtain ⟨a, x, xs, rfl, hsq, h⟩ := h
  obtain rfl : u = Value.ref a := r
  rw [PyProof.Rows.assign_Tuple]
  refine wpAny_bind (wpAny_standAt ?_)
  unfold unpack
  rw [hl, hi]
  refine wpAny_bind (wpAny_holding ?_)
  have fin : ∀ (y : Value) (ys : List Value), RelV x y → Vals xs ys → ys.length ≤ sizeLine → ∀ (h' : Heap) (tk : Nat), (∀ b o, s.heap.get? b = some o → h'.get? b = some o) →
      wpAny (model X.prog X.w) X.A (assignInOrder ((assignEach [e1, .Starred e2 p2] X.env).map (·.2)) [y, .ref h'.objs.size]) (fun _ s' => ∃ σ' H', L2.Inv X pins σ' H' s' ∧ Q σ' H') X.xe { s with heap := h'.push { cls := .type "list", data := .seq ys.toArray }, toks := tk } := fun y ys ry rys hz h' tk k => by
    have I1 : L2.Inv X pins σ H { s with heap := h', toks := tk } := I.kept k
    have hf := I1.hok.fresh (Nat.le_refl _)
    have I2 := I1.lnew (t' := tk) rys (by rw [rys.length]; exact hz)
    exact hg.run pins _ σ _ [x, .ref h'.objs.size] _ Q I2 (.cons ry (.cons rfl .nil)) (h _ hf)
  rcases hsq with hsq | hsq
  · obtain ⟨its, rv, pl, hz⟩ := I.list hsq
    cases rv with
    | @cons _ y _ ys ry rys =>
      have hL := pl.isList
      have hlt : a < s.heap.objs.size := by obtain ⟨o, e, _⟩ := hL; exact Heap.lt_size e
      have hzz : (y :: ys).length ≤ sizeLine := by rw [List.length_cons] at hz ⊢; rw [← rys.length]; exact hz
      refine star_items (T := "list_iterator") (ax := a) (St := fun I i h => h.IsListIter I a i ∧ h.IsList a (y :: ys).toArray) (.inr (.inr (.inl rfl))) (fun Q' q => ?_) (fun Q' q => wpAny_pyIter_list hL q) hlt (fun I ne => Walks.list (A := X.A.in1) hc I a ne _) ⟨⟨_, Heap.get?_push_size _ rfl, rfl, rfl⟩, ?_⟩ (fun i u I q => q.1.typeIs) (fun i h I q => ⟨?_, ?_⟩) hzz (fun h' tk k => fin y ys ry rys ?_ h' tk k)
      · unfold notIterableAtAll
        refine wpAny_bind (wpAny_specialOf hL.typeIs slot_list_iter.lookup ?_)
        simp only [Option.isSome, if_true]
        exact wpAny_pure q
      · obtain ⟨o, e, q⟩ := hL
        exact ⟨o, Heap.get?_push_of_some _ e, q⟩
      · obtain ⟨⟨o, e, _⟩, _⟩ := q; exact Heap.lt_size e
      · obtain ⟨_, ⟨o, e, _⟩⟩ := q; exact Heap.lt_size e
      · rw [List.length_cons] at hzz; omega
  · obtain ⟨its, rv, pl, hz⟩ := I.tuple hsq
    cases rv with
    | @cons _ y _ ys ry rys =>
      have hL : s.heap.IsTuple a (y :: ys).toArray := pl
      have hlt : a < s.heap.objs.size := by obtain ⟨o, e, _⟩ := hL; exact Heap.lt_size e
      have hzz : (y :: ys).length ≤ sizeLine := by rw [List.length_cons] at hz ⊢; rw [← rys.length]; exact hz
      refine star_items (T := "tuple_iterator") (ax := a) (St := fun I i h => h.IsTupleIter I a i ∧ h.IsTuple a (y :: ys).toArray) (.inr (.inr (.inr rfl))) (fun Q' q => ?_) (fun Q' q => wpAny_pyIter_tuple hL q) hlt (fun I ne => Walks.tuple (A := X.A.in1) hc I a ne _) ⟨⟨_, Heap.get?_push_size _ rfl, rfl, rfl⟩, ?_⟩ (fun i u I q => q.1.typeIs) (fun i h I q => ⟨?_, ?_⟩) hzz (fun h' tk k => fin y ys ry rys ?_ h' tk k)
      · unfold notIterableAtAll
        refine wpAny_bind (wpAny_specialOf hL.typeIs PyProof.Rows.slot_tuple_iter.lookup ?_)
        simp only [Option.isSome, if_true]
        exact wpAny_pure q
      · obtain ⟨o, e, q⟩ := hL
        exact ⟨o, Heap.get?_push_of_some _ e, q⟩
      · obtain ⟨⟨o, e, _⟩, _⟩ := q; exact Heap.lt_size e
      · obtain ⟨_, ⟨o, e, _⟩⟩ := q; exact Heap.lt_size e
      · rw [List.length_cons] at hzz; omega
end

/-! ### enumerate of a text -/
def Itn (z : Str) : It := ⟨fun i _ => i < z.cps.size, fun i H v H' => ∃ T c, v = .ref T ∧ H T = none ∧ H' = upd H T (.tup [.int (i : Nat), .str ⟨#[c]⟩]) ∧ z.cps[i]? = some c, fun i _ => z.cps.size ≤ i⟩
theorem turn_enumS {P : Program} {w : World} {K : PySem.W.Frag} {elts : List Expr} {kk : Nat} {tpos : Pos} {z : Str} {e it : Addr} (h1 : e ≠ it) :
    Turn P w K (.Tuple elts kk tpos) (Itn z) [e, it] e (fun i h => (∃ old, IsEnum h e it (i : Nat) old) ∧ (Sc.txt z).St h it i ∧ i ≤ z.cps.size) where
  mem := by simp
  obj := fun i h st b hb => by
    obtain ⟨⟨old, he⟩, s1, _⟩ := st
    have e' : b = e ∨ b = it := by simpa using hb
    rcases e' with q | q
    · rw [q]; exact ⟨_, he, fun v q => nomatch q⟩
    · rw [q]; exact s1.obj
  keep := fun i h h' st k => by
    obtain ⟨⟨old, he⟩, s1, hl⟩ := st
    exact ⟨⟨old, k e (by simp) _ he⟩, s1.at_ fun o q => k it (by simp) o q, hl⟩
  item := by
    intro X hP hw hK hc i pins s σ H E I hf st hg
    subst hP hw hK
    obtain ⟨⟨old, he⟩, s1, _⟩ := st
    have hq : (Sc.txt z).Is X.K H (sgn z) := rfl
    obtain ⟨fp1, P1, St1, D1, a1, b1, r1, m1, n1⟩ := sc_draws (A := X.A.in1) (I.ok.hd hc) I hq s1 (hf it (by simp))
    have hel : e < s.heap.objs.size := Heap.lt_size he
    have hgl : i < (sgn z).length := by simpa [sgn] using (show i < z.cps.size from hg)
    refine wpAny_pyNext_enum_itemC D1 he a1 hgl h1 (n1 e (hf e (by simp)) h1) fun u h' tk p1 eo t1' hT hsz hk => ?_
    obtain ⟨x, ex, ru⟩ := r1 i u p1
    obtain ⟨c, ec, rfl⟩ : ∃ c, z.cps[i]? = some c ∧ x = .str ⟨#[c]⟩ := by
      unfold sgn at ex
      rw [List.getElem?_map] at ex
      cases q : z.cps.toList[i]? with
      | none => rw [q] at ex; cases ex
      | some c => rw [q] at ex; exact ⟨c, by simpa using q, (Option.some.inj ex).symm⟩
    refine ⟨_, rfl, wpAny_letOwnedTupleGo_enum (s := { s with heap := h', toks := tk + 1 }) eo fun h'' e'' sb => ?_⟩
    have hT2 : h''.get? s.heap.objs.size = some { cls := .type "tuple", data := .seq #[.int (i : Nat) tk, u] } := (sb.2 _ (Nat.ne_of_gt hel)).trans hT
    have new : ObjOk X.prog X.w (upd H s.heap.objs.size (.tup [.int (i : Nat), .str ⟨#[c]⟩])) h'' s.heap.objs.size (.tup [.int (i : Nat), .str ⟨#[c]⟩]) :=
      ⟨by show 2 ≤ sizeLine; decide, [.int (i : Nat) tk, u], .cons ⟨tk, rfl⟩ (.cons ru .nil), ⟨_, hT2, rfl, _, rfl⟩⟩
    have I1 : L2.Inv X pins σ (upd H s.heap.objs.size (.tup [.int (i : Nat), .str ⟨#[c]⟩])) { s with heap := h'', toks := tk + 1 } :=
      I.turnedNew (t' := tk + 1) (ch := [e, it]) (fun c o hb q => (sb.2 c (fun q' => hb (by simp [q']))).trans (hk c o (fun q' => hb (by simp [q'])) (fun q' => hb (by simp [q'])) q)) hf (Nat.le_refl _) new
    refine ⟨.ref s.heap.objs.size, _, I1, rfl, ⟨_, c, rfl, I.hok.fresh (Nat.le_refl _), rfl, ec⟩, ⟨⟨_, e''⟩, ?_, hg⟩, fun b hcm => ?_⟩
    · exact (b1 _ _ t1').at_ fun o q => (sb.2 _ h1.symm).trans q
    · have hlt : b < s.heap.objs.size := by
        have e' : b = e ∨ b = it := by simpa using hcm
        rcases e' with q | q
        · rw [q]; exact hel
        · rw [q]; obtain ⟨_, e1, _⟩ := s1.obj; exact Heap.lt_size e1
      rw [upd_ne (Nat.ne_of_lt hlt)]
      exact (hf b hcm).1
  done := by
    intro X hP hw hK hc i pins s σ H E I hf st hg
    subst hP hw hK
    obtain ⟨⟨old, he⟩, s1, hle⟩ := st
    have hi : i = (sgn z).length := by
      have : (sgn z).length = z.cps.size := by simp [sgn]
      have hg' : z.cps.size ≤ i := hg
      omega
    subst hi
    have hq : (Sc.txt z).Is X.K H (sgn z) := rfl
    obtain ⟨fp1, P1, St1, D1, a1, b1, r1, m1, n1⟩ := sc_draws (A := X.A.in1) (I.ok.hd hc) I hq s1 (hf it (by simp))
    exact wpAny_pyNext_enum_endD D1 he a1 fun h' hk => ⟨rfl, I.turnedL (t' := s.toks) (ch := [e, it]) (fun c o hb q => hk c o (fun q' => hb (by simp [q'])) q) hf⟩
  self := fun A i s Q E st h => by
    obtain ⟨⟨old, he⟩, _⟩ := st
    exact wpAny_pyIter_enum he h
def iEnumS (ta : TA) : TI := fun σ H R => ta σ H fun vs H1 => ∃ z, vs = [.str z] ∧ R (Itn z) H1
theorem pi_enumS {X : Cx} {e : Expr} {ta : TA} {p pos tpos : Pos} {elts : List Expr} {kk : Nat} (hg : Gl X "enumerate") (hm : X.mg "enumerate" = none) (ha : PA X [e] ta) (hs : starEach [e] X.env = [(false, eval e X.env)] := by rfl) :
    PI X (.Tuple elts kk tpos) (.Call (.Name "enumerate" p) [e] [] pos) (iEnumS ta) := by
  refine ⟨fun pins s σ H R I h => ?_⟩
  refine Call_ (ld_blt I hg hm PyProof.Rows.boot_enumerate (PyProof.Rows.callWith_type1 (thn (ha.run pos pins s σ H _ I h) fun us s1 ⟨vs, H1, I1, r1, q1⟩ => ?_) hs rfl))
  obtain ⟨z, ex, q⟩ := q1
  subst ex
  cases r1 with
  | cons r rr =>
    cases rr
    obtain ⟨t, rfl⟩ := (show ∃ t, _ = Value.str z t from r)
    refine call_enumerate_str fun h' he hi hsz hk => wpAny_pyIter_enum he ?_
    have I2 : L2.Inv X pins σ H1 { s1 with heap := h' } := I1.kept (t' := s1.toks) hk
    refine ⟨s1.heap.objs.size + 1, [s1.heap.objs.size + 1, s1.heap.objs.size], _, _, H1, rfl, I2, turn_enumS (z := z) (e := s1.heap.objs.size + 1) (it := s1.heap.objs.size) (show (s1.heap.objs.size + 1 : Nat) ≠ s1.heap.objs.size by omega), ⟨⟨_, he⟩, ⟨t, hi⟩, Nat.zero_le _⟩, fun b hcm => ?_, q⟩
    have e' : b = s1.heap.objs.size + 1 ∨ b = s1.heap.objs.size := by simpa using hcm
    have hle : s1.heap.objs.size ≤ b := by
      rcases e' with z | z <;> rw [z]
      · exact Nat.le_succ _
      · exact Nat.le_refl _
    exact I1.fpOk hle (I1.hok.fresh hle)
theorem walk_enumS {z : Str} : Walk (Itn z) z.cps.size (fun _ => True) (YPair (fun i => some (.int (i : Nat))) (fun i => z.cps[i]?.map fun c => V.str ⟨#[c]⟩)) :=
  ⟨fun i H hi h => hi, fun H h => Nat.le_refl _, fun i H x H' hi h ⟨T, c, e1, e2, e3, e4⟩ => ⟨T, _, _, e1, e2, e3, rfl, by show Option.map _ z.cps[i]? = _; rw [e4]; rfl⟩⟩

/-! ### len(o), o an own instance -/
theorem call_lenOwn {X : Cx} {k : Nat} {C f : Addr} {fd : FuncData} {ps : List Str} {sp : Sp} (c : Cls X.K C) (hm : Meth X.K C "__len__" f) (F : FnOk X.prog X.w X.K X.mg X.base CX0 k f fd ps sp) (hr : Room (k + 1) X.A) (hb : Binds X.K fd ps []) :
    CallR X (.builtin "len") (fun xs H Q => ∃ a dx fs, xs = [.ref a] ∧ H a = some (.ins C dx fs) ∧ sp [.ref a] H (fun v H' => ∃ n : Nat, v = .int n ∧ (n : Int) < 2 ^ 63 ∧ Q (.int n) H') E0) := by
  intro pins s σ H xs us Q I r h
  obtain ⟨a, dx, fs, rfl, ha, h⟩ := h
  cases r with
  | cons r rr =>
    cases rr
    obtain rfl : _ = Value.ref a := r
    obtain ⟨h1, _, h3, h4, mA, ns, _⟩ := I.hok a _ ha
    obtain ⟨m, hns, _⟩ := I.loc
    have hF : PyProof.Rows.Fr X.base X.env.locals s.heap m := ⟨hns, I.bk, Nat.le_trans I.ok.bsz I.ok.above⟩
    obtain ⟨od, hod⟩ : ∃ od, s.heap.get? dx = some od := by
      obtain ⟨o, _, _, e, _⟩ := ns
      exact ⟨o, e⟩
    refine PySem.W.len_K (C := C) (f := f) hF I.ok.mod.kin (ox := PySem.W.instObj C dx) (od := some od) ⟨h4, rfl, rfl, hod⟩ hm.at_ hm.fn ?_
    have hl : ([Value.ref a] ++ []).length = ps.length := by have := F.len _ _ _ _ h; simpa using this
    refine wpAny_call (codeAny_mono (F.run X.A.in1 X.stack s H ⟨[.ref a], []⟩ ([.ref a] ++ []) [.ref a] _ E0 hr.in1 I.env0.in1 (hb s [.ref a] I.kIn hl) (show Vals [V.ref a] [Value.ref a] from .cons rfl .nil) h) fun r s' hq => ?_)
    cases r with
    | error e => exact hq.elim
    | ok fl =>
      cases fl with
      | ret u =>
        obtain ⟨v, H', I', rv, n, rfl, hn, q⟩ := I.after hq
        obtain ⟨t, rfl⟩ := (show ∃ t, u = Value.int n t from rv)
        exact ⟨⟨Int.natCast_nonneg n, hn⟩, .int n, H', I'.tok _, ⟨_, rfl⟩, q⟩
      | next => exact False.elim hq
      | brk => exact False.elim hq
      | cont => exact False.elim hq

/-! ### a call of what an expression gives -/
/-- a function value that keeps a promise -/
structure Fv (P : Program) (w : World) (K : PySem.W.Frag) (mg : Str → Option Value) (base : Heap) (CX : CXT) (k : Nat) (f : Addr) (sp : Sp) : Prop where
  ex : ∃ fd ps, PySem.W.keepIn K (.ref f) = true ∧ Binds K fd ps [] ∧ FnOk P w K mg base CX k f fd ps sp
def tCallV (P : Program) (w : World) (K : PySem.W.Frag) (mg : Str → Option Value) (base : Heap) (CX : CXT) (k : Nat) (E : XK) (tf : TE) (t : TA) : TE := fun σ H Q => tf σ H fun v H1 => ∃ f sp, v = .ref f ∧ Fv P w K mg base CX k f sp ∧ t σ H1 fun vs H2 => sp vs H2 Q E
theorem pe_callV {X : Cx} {CX : CXT} {k : Nat} {E : XK} {fe e : Expr} {es : List Expr} {pos : Pos} {tf : TE} {t : TA} (hf : PE X fe tf) (hr : Room k X.A) (hx : Passes CX X E) (ha : PA X (e :: es) t)
    (hev : eval (.Call fe (e :: es) [] pos) X.env = (do
      let fv ← eval fe X.env
      callWith pos fv [] (backTo pos (starEach (e :: es) X.env)) (backToKw pos (keywordEach [] X.env))) := by rfl)
    (he : starEach (e :: es) X.env = (false, eval e X.env) :: starEach es X.env := by rfl) (hpl : (backTo pos (starEach es X.env)).any (·.1) = false := by rfl) :
    PE X (.Call fe (e :: es) [] pos) (tCallV X.prog X.w X.K X.mg X.base CX k E tf t) := by
  refine ⟨fun pins s σ H Q I h => ?_⟩
  refine PyProof.Rows.Call_ (thn (hf.run pins s σ H _ I h) fun u s1 ⟨v, H1, I1, rv, f, sp, ev, G, ht⟩ => ?_) hev
  subst ev
  obtain rfl : u = Value.ref f := rv
  obtain ⟨fd, ps, kp, b, F⟩ := G.ex
  exact PySem.W.callWith_K (first := []) (h₀ := X.base) I.ok.mod.kin kp (thn (ha.run pos pins s1 σ H1 _ I1 ht) fun us s2 ⟨vs, H2, I2, r, q⟩ => ⟨I2.kIn, run_fn (dvs := []) (ds := []) F hr b .nil hx I2 r (by rw [List.append_nil]; exact q)⟩) he hpl
/-- o.m(e, .., k = e) by a promise -/
structure PmK (P : Program) (w : World) (K : PySem.W.Frag) (mg : Str → Option Value) (base : Heap) (CX : CXT) (k : Nat) (C : Addr) (m : Str) (n : Nat) (ps ks : List Str) (sp : Sp) : Prop where
  ex : ∃ f fd, Meth K C m f ∧ KBn K fd ps (n + 1) ks (fun us ws => us ++ ws) (fun us ws => us ++ ws) ∧ FnOk P w K mg base CX k f fd ps sp
theorem pe_methK {X : Cx} {CX : CXT} {k n : Nat} {C : Addr} {ps ks : List Str} {sp : Sp} {E : XK} {m : Str} {pos apos : Pos} {e o : Expr} {es : List Expr} {kws : List Keyword} {ta : TE} {t tk : TA} {pl : Sem Bool} (he : PE X o ta) (c : Cls X.K C) (h : PmK X.prog X.w X.K X.mg X.base CX k C m n ps ks sp) (hr : Room k X.A) (hx : Passes CX X E) (ha : PA X (e :: es) t) (hk : PK X kws tk)
    (hall : (backToKw pos (keywordEach kws X.env)).all (·.1.isSome) = true := by rfl) (hks : (backToKw pos (keywordEach kws X.env)).filterMap (·.1) = ks := by rfl)
    (hst : starEach (e :: es) X.env = (false, eval e X.env) :: starEach es X.env := by rfl) (hpl : (((backTo pos (starEach (e :: es) X.env)).any (·.1)) || ((backToKw pos (keywordEach kws X.env)).any (·.1.isNone))) = false := by rfl)
    (ht : eval (.Call (.Attribute o m apos) (e :: es) kws pos) X.env = (do
      let ov ← eval o X.env
      standAt apos.atName
      let (f, first) ← holding [ov] (getMethod ov m pl)
      callWith pos f first (backTo pos (starEach (e :: es) X.env)) (backToKw pos (keywordEach kws X.env))) := by rfl) :
    PE X (.Call (.Attribute o m apos) (e :: es) kws pos) (tMethN C m n ks.length sp (fun us ws => us ++ ws) E ta t tk) := by
  obtain ⟨f, fd, hm, hb, F⟩ := h.ex
  exact pe_methN he c hm F hr hb hx ha hk hall hks hst hpl ht
/-! ### more promises by where the defs stand -/
section
variable {P : Program} {w : World} {K : PySem.W.Frag} {mg : Str → Option Value} {base : Heap} {CX : CXT} {k : Nat} {x q : Str} {C : Addr} {st : Stmt} {N ps : List Str} {sp : Sp} {kw : Str} {dv : V}
abbrev BindsKw (x q : Str) (st : Stmt) (ps : List Str) (kw : Str) : Prop := ∀ (D : Addr) (doc pm : Value) (an : Option Addr) (cdv ct : Value) (us : List Value) (c : Value), us.length + 1 = ps.length → KwChain D [(kw, c)] (bindArgs (PySem.W.fnOf x q (defArgs st) (defBody st) (defScope st) Value.none (Value.ref D) doc pm an cdv ct) { pos := us }) (ps.zip (us ++ [c]))
theorem FunD.bindsKw {f : Addr} {fd : FuncData} (F : FunD K x q (defArgs st) (defBody st) (defScope st) [] [(kw, dv)] f fd) (h : BindsKw x q st ps kw) (hps : 1 ≤ ps.length) : ∃ ds, Vals [dv] ds ∧ Binds K fd ps ds := by
  refine F.binds0 (ps.length - 1) (by simp) (by simp; omega) fun D doc pm an cdv ct us ks hl hk => ?_
  match ks, hk with
  | [c], _ => exact h D doc pm an cdv ct us c (by omega)
theorem DefF.prK (F : DefF K mg x st [(kw, dv)]) (S : FnScope N ps (defScope st)) (b : BindsKw x x st ps kw) (hps : 1 ≤ ps.length) (len : SpLen sp ps) (h : ∀ f cdv, Body P w K mg base CX k N x st f cdv sp) : Pr P w K mg base CX (k + 1) x ps [dv] sp := by
  obtain ⟨f, fd, F, g⟩ := F
  obtain ⟨ds, v, bb⟩ := FunD.bindsKw F b hps
  exact ⟨f, fd, ds, g, F.kp, bb, v, F.ok S len fun cdv A outer s H vs Q E hr hs => h f cdv A outer s H vs Q E hr hs⟩
abbrev BindsBy (x q : Str) (st : Stmt) (ps : List Str) (n : Nat) (kw : Str) : Prop := ∀ (kV doc pm : Value) (an : Option Addr) (cdv ct : Value) (us : List Value) (c : Value), us.length = n + 1 → bindArgs (PySem.W.fnOf x q (defArgs st) (defBody st) (defScope st) Value.none kV doc pm an cdv ct) { pos := us, kw := [(kw, c)] } = pure (ps.zip (us ++ [c]))
theorem MetF.both {n : Nat} (F : MetF K C x q st [(kw, dv)]) (S : FnScope N ps (defScope st)) (b : BindsKw x q st ps kw) (hps : 1 ≤ ps.length) (b2 : BindsBy x q st ps n kw) (len : SpLen sp ps) (h : ∀ f cdv, Body P w K mg base CX k N q st f cdv sp) :
    Pm P w K mg base CX (k + 1) C x ps [dv] sp ∧ PmK P w K mg base CX (k + 1) C x n ps [kw] sp := by
  obtain ⟨f, fd, F, g⟩ := F
  obtain ⟨ds, v, bb⟩ := FunD.bindsKw F b hps
  have G := F.ok (P := P) (w := w) (mg := mg) (base := base) (CX := CX) (k := k) S len fun cdv A outer s H vs Q E hr hs => h f cdv A outer s H vs Q E hr hs
  refine ⟨⟨f, fd, ds, g, bb, v, G⟩, ⟨f, fd, g, ⟨fun s us ws _ hl hw => ?_, fun a b => a.append b⟩, G⟩⟩
  obtain ⟨oc, od, dV, kV, doc, pm, an, cdv, ct, osl, e, _, _, hd, _⟩ := F.ex
  have hd' : dV = .none := by
    rcases hd with ⟨_, e⟩ | ⟨e, _⟩
    · exact e
    · exact absurd rfl e
  subst hd'; subst e
  match ws, hw with
  | [c], _ => exact .of_eq (b2 kV doc pm an cdv ct us c hl)
end
end Sw
/-! What machines, walks, algebras are on the heap. -/
namespace Sw
open PySem PySem.Spec PyProof.Rows L2 LamX NdefX
abbrev vi (n : Nat) : V := .int (n : Nat)
def nis (l : List Nat) : List V := l.map vi
theorem nis_len (l : List Nat) : (nis l).length = l.length := by simp [nis]
theorem nis_get {l : List Nat} {i n : Nat} (h : l[i]? = some n) : (nis l)[i]? = some (vi n) := by unfold nis; rw [List.getElem?_map, h]; rfl
theorem nis_inv {l : List Nat} {i : Nat} {x : V} (h : (nis l)[i]? = some x) : ∃ n, l[i]? = some n ∧ x = vi n := by
  unfold nis at h; rw [List.getElem?_map] at h
  cases e : l[i]? with
  | none => rw [e] at h; cases h
  | some n => rw [e] at h; exact ⟨n, rfl, (Option.some.inj h).symm⟩
theorem refs_get {as : List Addr} {i : Nat} {a : Addr} (h : as[i]? = some a) : (as.map V.ref)[i]? = some (.ref a) := by rw [List.getElem?_map, h]; rfl
theorem refs_inv {as : List Addr} {i : Nat} {x : V} (h : (as.map V.ref)[i]? = some x) : ∃ a, as[i]? = some a ∧ x = .ref a := by
  rw [List.getElem?_map] at h
  cases e : as[i]? with
  | none => rw [e] at h; cases h
  | some n => rw [e] at h; exact ⟨n, rfl, (Option.some.inj h).symm⟩
theorem vs_get {ws : List Wd} {i : Nat} {w : Wd} (h : ws[i]? = some w) : (ws.map VS)[i]? = some (VS w) := by rw [List.getElem?_map, h]; rfl
theorem vs_inv {ws : List Wd} {i : Nat} {x : V} (h : (ws.map VS)[i]? = some x) : ∃ w, ws[i]? = some w ∧ x = VS w := by
  rw [List.getElem?_map] at h
  cases e : ws[i]? with
  | none => rw [e] at h; cases h
  | some n => rw [e] at h; exact ⟨n, rfl, (Option.some.inj h).symm⟩
/-! ### rows, machines -/
def RowAt (H : Hp) (a : Addr) (r : Bool × List Nat) : Prop := ∃ t, H a = some (.tup [.bl r.1, .ref t]) ∧ H t = some (.tup (nis r.2))
def RowsIn (H : Hp) (as : List Addr) (rows : List (Bool × List Nat)) : Prop := as.length = rows.length ∧ ∀ (i : Nat) a r, as[i]? = some a → rows[i]? = some r → RowAt H a r
def RowsAt (H : Hp) (p : Addr) (rows : List (Bool × List Nat)) : Prop := ∃ as : List Addr, H p = some (.lst (as.map .ref)) ∧ RowsIn H as rows
def fM (ls : Wd) (p : Addr) : List (Str × V) := [("letters_told", VS ls), ("stand_rows", .ref p)]
def MachAt (CM : Addr) (H : Hp) (a : Addr) (M : Mc) : Prop := ∃ dx p, H a = some (.ins CM dx (fM M.ls p)) ∧ RowsAt H p M.rows
section
variable {H H' : Hp} {CM CA CW a p : Addr} {M : Mc} {r : Bool × List Nat} {rows : List (Bool × List Nat)} {as : List Addr}
theorem RowAt.sol (h : RowAt H a r) (e : Sol H H') : RowAt H' a r := by obtain ⟨t, h1, h2⟩ := h; exact ⟨t, e _ _ h1 trivial, e _ _ h2 trivial⟩
theorem RowsIn.sol (h : RowsIn H as rows) (e : Sol H H') : RowsIn H' as rows := ⟨h.1, fun i a r h1 h2 => (h.2 i a r h1 h2).sol e⟩
theorem RowsAt.sol (h : RowsAt H p rows) (e : Sol H H') : RowsAt H' p rows := by obtain ⟨as, h1, h2⟩ := h; exact ⟨as, e _ _ h1 trivial, h2.sol e⟩
theorem MachAt.sol (h : MachAt CM H a M) (e : Sol H H') : MachAt CM H' a M := by obtain ⟨dx, p, h1, h2⟩ := h; exact ⟨dx, p, e _ _ h1 trivial, h2.sol e⟩
theorem RowsIn.get (h : RowsIn H as rows) {i : Nat} (hr : rows[i]? = some r) : ∃ a, as[i]? = some a ∧ RowAt H a r := by
  have hi : i < as.length := by rw [h.1]; exact (List.getElem?_eq_some_iff.mp hr).1
  exact ⟨_, List.getElem?_eq_getElem hi, h.2 i _ r (List.getElem?_eq_getElem hi) hr⟩
theorem RowsIn.inv (h : RowsIn H as rows) {i : Nat} {x : V} (hx : (as.map V.ref)[i]? = some x) : ∃ a r, x = .ref a ∧ rows[i]? = some r ∧ RowAt H a r := by
  obtain ⟨a, ha, rfl⟩ := refs_inv hx
  have hi : i < rows.length := by rw [← h.1]; exact (List.getElem?_eq_some_iff.mp ha).1
  exact ⟨a, _, rfl, List.getElem?_eq_getElem hi, h.2 i a _ ha (List.getElem?_eq_getElem hi)⟩
theorem RowAt.mut (h : RowAt H a r) {o : HO} (hp : ∀ xs, H p ≠ some (.tup xs)) : RowAt (upd H p o) a r := by
  obtain ⟨t, h1, h2⟩ := h
  exact ⟨t, by rw [upd_ne fun e => hp _ (e ▸ h1)]; exact h1, by rw [upd_ne fun e => hp _ (e ▸ h2)]; exact h2⟩
theorem RowsIn.mut (h : RowsIn H as rows) {o : HO} (hp : ∀ xs, H p ≠ some (.tup xs)) : RowsIn (upd H p o) as rows := ⟨h.1, fun i a r h1 h2 => (h.2 i a r h1 h2).mut hp⟩
theorem notTup {o : HO} (h : H p = some o) (n : ∀ xs, o ≠ .tup xs) : ∀ xs, H p ≠ some (.tup xs) := fun xs e => n xs (Option.some.inj (h.symm.trans e))
theorem lstNT {xs : List V} (h : H p = some (.lst xs)) : ∀ ys, H p ≠ some (.tup ys) := notTup h fun _ e => by cases e
theorem dkNT {xs : List (Key × V)} (h : H p = some (.dK xs)) : ∀ ys, H p ≠ some (.tup ys) := notTup h fun _ e => by cases e
theorem dtNT {xs : List (List Key × V)} (h : H p = some (.dT xs)) : ∀ ys, H p ≠ some (.tup ys) := notTup h fun _ e => by cases e
theorem sl {n : Nat} (h : n ≤ 10000) : n ≤ sizeLine := Nat.le_trans h (by show _ ≤ 2 ^ 24; decide)
theorem slt {n : Nat} (h : n ≤ 10000) : n < sizeLine := Nat.lt_of_le_of_lt h (by show _ < 2 ^ 24; decide)
end
theorem fM_l (ls : Wd) (p : Addr) : (fM ls p).lookup ("letters_told" : Str) = some (VS ls) := by rfl
theorem fM_r (ls : Wd) (p : Addr) : (fM ls p).lookup ("stand_rows" : Str) = some (.ref p) := by
  unfold fM; rw [List.lookup_cons]
  rw [show (("stand_rows" : Str) == ("letters_told" : Str)) = false by decide +kernel]; rfl
theorem fM_put (ls : Wd) (p : Addr) : putF "stand_rows" (.ref p) (putF "letters_told" (VS ls) []) = fM ls p := by
  show (if ("letters_told" : Str) = "stand_rows" then [(("letters_told" : Str), V.ref p)] else (("letters_told" : Str), VS ls) :: putF "stand_rows" (.ref p) []) = _
  rw [if_neg (by decide +kernel)]; rfl
theorem fM_no (ls : Wd) (p : Addr) {m : Str} (h1 : (m == ("letters_told" : Str)) = false) (h2 : (m == ("stand_rows" : Str)) = false) : (fM ls p).lookup m = none := by
  unfold fM; rw [List.lookup_cons, h1]; simp only; rw [List.lookup_cons, h2]; rfl
end Sw
/-! The first checks. -/
namespace Sw
open PySem PySem.Spec PyProof.Rows L2 LamX NdefX
section
variable {P : Program} {w : World} {K : PySem.W.Frag} {mg : Str → Option Value} {base : Heap} {CM CA CW CG : Addr}
def spIsNumber : Sp := fun vs H Q _ => ∃ i a b : Int, vs = [.int i, .int a, .int b] ∧ Q (.bl (decide (a ≤ i) && decide (i ≤ b))) H
theorem ok_is_number (T : Tx K mg CM CA CW CG) : Pr P w K mg base CX0 1 "is_number" P_is_number [] spIsNumber := by
  refine T.d_is_number.pr sc_is_number (fun _ _ _ _ _ _ us hl => match us, hl with | [_, _, _], _ => rfl) (fun vs H Q E h => ?_) (fun f cdv A outer s H vs Q E hr h => ?_)
  · obtain ⟨i, a, b, rfl, _⟩ := h; rfl
  · obtain ⟨i, a, b, rfl, q⟩ := h
    refine ⟨_, (PSs.nox (pss_one (ps_ret (pe_and (pe_callB call_isi rfl T.z_isinstance (by decide +kernel) (pa_cons (pv 0) (pa_cons (pe_bltn (v := .ty "int") rfl T.z_int (by decide +kernel) rfl) pa_nil))) (pe_and (pe_not (pe_callB call_isi rfl T.z_isinstance (by decide +kernel) (pa_cons (pv 0) (pa_cons (pe_bltn (v := .ty "bool") rfl T.z_bool (by decide +kernel) rfl) pa_nil)))) (pe_one (pe_chain op_le op_le (pv 1) (pv 0) (pv 2)))))))), ?_⟩
    refine ⟨_, rfl, _, _, _, _, _, rfl, .ty _, .base (.int _), k_ii, _, rfl, ?_⟩
    refine ⟨_, rfl, _, _, _, _, _, rfl, .ty _, .base (.int _), k_ib, _, rfl, _, rfl, ?_⟩
    refine ⟨_, rfl, _, rfl, _, _, rfl, rfl, _, rfl, ?_⟩
    by_cases h1 : a ≤ i
    · rw [decide_eq_true h1] at q ⊢
      exact ⟨_, rfl, _, _, rfl, rfl, q⟩
    · rw [decide_eq_false h1] at q ⊢
      exact q
theorem small_in {c : Nat} (h1 : 97 ≤ c) (h2 : c ≤ 122) : c ∈ ("abcdefghijklmnopqrstuvwxyz" : Str).cps.toList := by
  have h : ∀ k, k < 26 → (97 + k) ∈ ("abcdefghijklmnopqrstuvwxyz" : Str).cps.toList := by decide +kernel
  have := h (c - 97) (by omega)
  rwa [show 97 + (c - 97) = c by omega] at this
def bls (n : Nat) : List Bool := List.replicate n true
theorem tab_bls (n : Nat) : tab (fun _ => V.bl true) n = (bls n).map V.bl := by
  refine tab_eq (by simp [bls]) fun i x h => ?_
  rw [List.getElem?_map] at h
  cases e : (bls n)[i]? with
  | none => rw [e] at h; cases h
  | some b =>
    rw [e] at h
    have hb := List.mem_of_getElem? e
    unfold bls at hb
    have := List.eq_of_mem_replicate hb
    subst this
    exact Option.some.inj h
theorem all_bls (n : Nat) : (bls n).all id = true := by unfold bls; simp
def spIsLetters : Sp := fun vs H Q _ => ∃ ls : Wd, vs = [VS ls] ∧ Abc ls ∧ ∀ H', Same H H' → Q (.bl true) H'
theorem ok_is_letters (T : Tx K mg CM CA CW CG) : Pr P w K mg base CX0 1 "is_letters" P_is_letters [] spIsLetters := by
  refine T.d_is_letters.pr sc_is_letters (fun _ _ _ _ _ _ us hl => match us, hl with | [_], _ => rfl) (fun vs H Q E h => ?_) (fun f cdv A outer s H vs Q E hr h => ?_)
  · obtain ⟨ls, rfl, _⟩ := h; rfl
  · obtain ⟨ls, rfl, O, q⟩ := h
    have hsl : (S ls).length ≤ sizeLine := by rw [S_len]; have := O.lle; show _ ≤ 2 ^ 24; omega
    refine ⟨_, (PSs.nox (pss_cons (ps_if (PW.pt (pw_or (pt_not (pt_val (pe_callB call_isi rfl T.z_isinstance (by decide +kernel) (pa_cons (pv 0) (pa_cons (pe_bltn (v := .ty "str") rfl T.z_str (by decide +kernel) rfl) pa_nil))))) (pw_or1 (pt_not (pt_chain op_le op_le pe_int (pe_callB call_len rfl T.z_len boot_len (pa_cons (pv 0) pa_nil)) (pe_globI rfl T.i_MOST_LETTERS))))))
 (pss_one (ps_ret pe_bl))
 pss_nil)
 (pss_one (ps_ret (pe_and (pe_callB (cr_all rfl) rfl T.z_all (by decide +kernel) (pa_cons (pe_lc (own := [("sign", 1)]) rfl sc_is_letters.nd (pi_str (pv 0)) (blkOk_by (own := [("sign", 1)]) (N := N_is_letters) (sc := defScope s_is_letters) (by decide +kernel)) (fun _ _ _ _ _ => (pg_name (i := 1) sc_is_letters.nd rfl (Or.inl rfl) (Or.inr rfl))) (fun _ _ _ _ _ => pts_nil) (fun _ _ _ _ _ => (pe_cmpR op_in_sign (pv 1) (pe_globS rfl T.s_SMALL) (by rfl)))) pa_nil)) (pe_one (pe_callB (cr_all rfl) rfl T.z_all (by decide +kernel) (pa_cons (pe_lc (own := [("one", 2), ("other", 3)]) rfl sc_is_letters.nd (pi_zip2 rfl T.z_zip (pa_cons (pv 0) (pa_cons (pe_slice sl_str (pv 0) (po_some pe_int) po_none) pa_nil))) (blkOk_by (own := [("one", 2), ("other", 3)]) (N := N_is_letters) (sc := defScope s_is_letters) (by decide +kernel)) (fun _ _ _ _ _ => (pg_tupK K rfl 2 rfl (pgs_cons (pg_name (i := 2) sc_is_letters.nd rfl (Or.inl rfl) (Or.inr rfl)) (pgs_cons (pg_name (i := 3) sc_is_letters.nd rfl (Or.inl rfl) (Or.inr rfl)) pgs_nil)))) (fun _ _ _ _ _ => pts_nil) (fun _ _ _ _ _ => (pe_cmpR op_lt_str (pv 2) (pv 3) (nomark _)))) pa_nil)))))))), ?_⟩
    refine ⟨_, rfl, _, _, _, _, _, rfl, .ty _, .base (.str _), k_ss, _, rfl, ?_⟩
    refine ⟨_, rfl, _, _, rfl, ⟨hsl, rfl⟩, _, _, rfl, rfl, _, rfl, ?_⟩
    rw [S_len, decide_eq_true (show (1 : Int) ≤ (ls.length : Nat) by have := O.lpos; omega)]
    refine ⟨_, _, rfl, rfl, _, rfl, ?_⟩
    rw [decide_eq_true (show ((ls.length : Nat) : Int) ≤ 4 by have := O.lle; omega)]
    refine ⟨_, rfl, _, rfl, fun D hD => lc_map (walk_str (z := S ls)) (Same H) (fun _ => .bl true) (by exact hsl) (same_new hD) (fun _ _ _ _ _ => trivial) (fun H2 xs ys r _ => same_mut r hD) (fun i x H2 H' Q' hi r hD2 ⟨e1, c, hc, e2⟩ k => ?_) (fun H2 r hD2 => ?_)⟩
    · subst e1; subst e2
      refine ⟨rfl, _, rfl, c, _, rfl, rfl, ?_⟩
      have hm := List.mem_of_getElem? (S_get.mp hc)
      rw [decide_eq_true (small_in (O.abc c hm).1 (O.abc c hm).2)]
      exact k _ hD2 r
    · refine ⟨_, _, rfl, .of (by rw [hD2, tab_bls]), true, by rw [all_bls], ?_⟩
      have hcut : sgn (cutS (S ls) (some 1) none) = (ls.drop 1).map fun c => VS [c] := by
        show ((List.take _ (List.drop _ ls)).toArray.toList).map _ = _
        have e1 : HT.sIx (S ls).length 0 (some 1) = 1 := by rw [S_len]; exact sIx_one O.lpos
        have e2 : HT.sIx (S ls).length (S ls).length none = ls.length := by rw [S_len]; rfl
        rw [e1, e2, List.take_of_length_le (by simp)]
        rfl
      have hr0 : ∀ H3, Same H2 H3 → Same H H3 := fun H3 e b o q => e b o (r b o q)
      refine ⟨_, rfl, _, rfl, _, rfl, _, rfl, hsl, .txt (S ls), .txt _, _, _, rfl, rfl, rfl, fun D2 hD3 => lc_map walk_zip2 (Same H2) (fun _ => .bl true) ?_ (same_new hD3) (fun _ _ _ _ _ => ⟨rfl, rfl⟩) (fun H3 xs ys r _ => same_mut r hD3) (fun i x H3 H' Q' hi r3 hD4 ⟨t, x1, y1, e1, ht, e2, hx, hy⟩ k => ?_) (fun H3 r3 hD4 => ?_)⟩
      · rw [sgn_S, List.length_map]; exact Nat.le_trans (Nat.min_le_left _ _) (by have := O.lle; show _ ≤ 2 ^ 24; omega)
      · subst e1; subst e2
        dsimp only at hx hy
        rw [hcut, List.getElem?_map, List.getElem?_drop] at hy
        rw [sgn_S, List.getElem?_map] at hx
        cases h1 : ls[i]? with
        | none => rw [h1] at hx; cases hx
        | some c1 =>
          cases h2 : ls[1 + i]? with
          | none => rw [h2] at hy; cases hy
          | some c2 =>
            rw [h1] at hx; rw [h2] at hy
            cases hx; cases hy
            have hlt : c1 < c2 := by
              obtain ⟨a1, b1⟩ := List.getElem?_eq_some_iff.mp h1
              obtain ⟨a2, b2⟩ := List.getElem?_eq_some_iff.mp h2
              have := List.pairwise_iff_getElem.mp O.asc i (1 + i) a1 a2 (by omega)
              omega
            refine ⟨t, _, rfl, .inl (.inl upd_same), rfl, _, _, rfl, _, _, rfl, rfl, rfl, _, rfl, _, rfl, _, _, rfl, rfl, ?_⟩
            rw [decide_eq_true (show (S [c1]).cps.toList < (S [c2]).cps.toList from List.Lex.rel hlt)]
            exact k _ (by rw [upd_ne (ne_of_none hD4 ht)]; exact hD4) fun b o q => by rw [upd_ne (ne_of_none (r3 b o q) ht)]; exact r3 b o q
      · refine ⟨_, _, rfl, .of (by rw [hD4, tab_bls]), ?_⟩
        rw [all_bls]
        exact q _ (hr0 _ r3)
def spNeedLetters : Sp := fun vs H Q _ => ∃ ls : Wd, vs = [VS ls] ∧ Abc ls ∧ ∀ H', Same H H' → Q .non H'
theorem ok_need_letters (T : Tx K mg CM CA CW CG) : Pr P w K mg base CX0 2 "need_letters" P_need_letters [] spNeedLetters := by
  refine T.d_need_letters.pr sc_need_letters (fun _ _ _ _ _ _ us hl => match us, hl with | [_], _ => rfl) (fun vs H Q E h => ?_) (fun f cdv A outer s H vs Q E hr h => ?_)
  · obtain ⟨ls, rfl, _⟩ := h; rfl
  · obtain ⟨ls, rfl, O, q⟩ := h
    refine ⟨_, (PSs.nox (pss_one (ps_if (pt_not (pt_val (pe_callP (ok_is_letters T) (hr.mono (by decide)) rfl pass0 (pa_cons (pv 0) pa_nil))))
 (pss_one ps_never)
 pss_nil))), ?_⟩
    exact ⟨_, rfl, ls, rfl, O, fun H' e => ⟨_, rfl, q _ e⟩⟩
theorem sl2 {n : Nat} (h : n ≤ 100000) : n ≤ sizeLine := Nat.le_trans h (by show _ ≤ 2 ^ 24; decide)
def spIsWordTo : Sp := fun vs H Q _ => ∃ (ls u : Wd) (m : Nat), vs = [VS ls, VS u, vi m] ∧ Ov ls u ∧ u.length ≤ m ∧ u.length ≤ 20000 ∧ ∀ H', Same H H' → Q (.bl true) H'
theorem ok_is_word_to (T : Tx K mg CM CA CW CG) : Pr P w K mg base CX0 1 "is_word_to" P_is_word_to [] spIsWordTo := by
  refine T.d_is_word_to.pr sc_is_word_to (fun _ _ _ _ _ _ us hl => match us, hl with | [_, _, _], _ => rfl) (fun vs H Q E h => ?_) (fun f cdv A outer s H vs Q E hr h => ?_)
  · obtain ⟨ls, u, m, rfl, _⟩ := h; rfl
  · obtain ⟨ls, u, m, rfl, hov, hm, hz, q⟩ := h
    have hsl : (S u).length ≤ sizeLine := by rw [S_len]; exact sl2 (by omega)
    refine ⟨_, (PSs.nox (pss_one (ps_ret (pe_and (pe_callB call_isi rfl T.z_isinstance (by decide +kernel) (pa_cons (pv 1) (pa_cons (pe_bltn (v := .ty "str") rfl T.z_str (by decide +kernel) rfl) pa_nil))) (pe_and (pe_cmpR op_le (pe_callB call_len rfl T.z_len boot_len (pa_cons (pv 1) pa_nil)) (pv 2) (nomark _)) (pe_one (pe_callB (cr_all rfl) rfl T.z_all (by decide +kernel) (pa_cons (pe_lc (own := [("sign", 3)]) rfl sc_is_word_to.nd (pi_str (pv 1)) (blkOk_by (own := [("sign", 3)]) (N := N_is_word_to) (sc := defScope s_is_word_to) (by decide +kernel)) (fun _ _ _ _ _ => (pg_name (i := 3) sc_is_word_to.nd rfl (Or.inl rfl) (Or.inr rfl))) (fun _ _ _ _ _ => pts_nil) (fun _ _ _ _ _ => (pe_cmpR op_in_sign (pv 3) (pv 0) (by rfl)))) pa_nil)))))))), ?_⟩
    refine ⟨_, rfl, _, _, _, _, _, rfl, .ty _, .base (.str _), k_ss, _, rfl, ?_⟩
    refine ⟨_, rfl, _, _, rfl, ⟨hsl, rfl⟩, _, rfl, _, _, rfl, rfl, _, rfl, ?_⟩
    rw [decide_eq_true (show (((S u).length : Nat) : Int) ≤ (m : Nat) by rw [S_len]; omega)]
    refine ⟨_, rfl, _, rfl, fun D hD => lc_map (walk_str (z := S u)) (Same H) (fun _ => .bl true) (by exact hsl) (same_new hD) (fun _ _ _ _ _ => trivial) (fun H2 xs ys r _ => same_mut r hD) (fun i x H2 H' Q' hi r hD2 ⟨e1, c, hc, e2⟩ k => ?_) (fun H2 r hD2 => ?_)⟩
    · subst e1; subst e2
      refine ⟨rfl, _, rfl, _, rfl, c, _, rfl, rfl, ?_⟩
      rw [decide_eq_true (show c ∈ (S ls).cps.toList from hov c (List.mem_of_getElem? (S_get.mp hc)))]
      exact k _ hD2 r
    · refine ⟨_, _, rfl, .of (by rw [hD2, tab_bls]), ?_⟩
      rw [all_bls]
      exact q _ r
def spIsWord : Sp := fun vs H Q _ => ∃ (ls u : Wd), vs = [VS ls, VS u] ∧ Abc ls ∧ Ov ls u ∧ u.length ≤ 20000 ∧ ∀ H', Same H H' → Q (.bl true) H'
theorem ok_is_word (T : Tx K mg CM CA CW CG) : Pr P w K mg base CX0 3 "is_word" P_is_word [] spIsWord := by
  refine T.d_is_word.pr sc_is_word (fun _ _ _ _ _ _ us hl => match us, hl with | [_, _], _ => rfl) (fun vs H Q E h => ?_) (fun f cdv A outer s H vs Q E hr h => ?_)
  · obtain ⟨ls, u, rfl, _⟩ := h; rfl
  · obtain ⟨ls, u, rfl, O, hov, hz, q⟩ := h
    refine ⟨_, (PSs.nox (pss_cons (ps_expr (pe_callP (ok_need_letters T) (hr.mono (by decide)) rfl pass0 (pa_cons (pv 0) pa_nil)))
 (pss_one (ps_ret (pe_callP (ok_is_word_to T) (hr.mono (by decide)) rfl pass0 (pa_cons (pv 0) (pa_cons (pv 1) (pa_cons (pe_globI rfl T.i_MOST_IN_WORD) pa_nil)))))))), ?_⟩
    exact ⟨_, rfl, ls, rfl, O, fun H1 e1 => ⟨_, rfl, _, rfl, ls, u, 20000, rfl, hov, hz, hz, fun H2 e2 => q _ fun b o z => e2 b o (e1 b o z)⟩⟩
def spNeedWord : Sp := fun vs H Q _ => ∃ (ls u : Wd) (m : Nat), vs = [VS ls, VS u, vi m] ∧ Ov ls u ∧ u.length ≤ m ∧ u.length ≤ 20000 ∧ ∀ H', Same H H' → Q .non H'
theorem ok_need_word (T : Tx K mg CM CA CW CG) : Pr P w K mg base CX0 2 "need_word" P_need_word [V.int 20000] spNeedWord := by
  refine T.d_need_word.prK sc_need_word (fun D doc pm an cdv ct us c hl => match us, hl with | [_, _], _ => ⟨_, _, _, _, _, _, rfl, rfl, rfl⟩) (by decide) (fun vs H Q E h => ?_) (fun f cdv A outer s H vs Q E hr h => ?_)
  · obtain ⟨ls, u, m, rfl, _⟩ := h; rfl
  · obtain ⟨ls, u, m, rfl, hov, hm, hz, q⟩ := h
    refine ⟨_, (PSs.nox (pss_one (ps_if (pt_not (pt_val (pe_callP (ok_is_word_to T) (hr.mono (by decide)) rfl pass0 (pa_cons (pv 0) (pa_cons (pv 1) (pa_cons (pv 2) pa_nil))))))
 (pss_one ps_never)
 pss_nil))), ?_⟩
    exact ⟨_, rfl, _, rfl, _, rfl, ls, u, m, rfl, hov, hm, hz, fun H' e => ⟨_, rfl, q _ e⟩⟩
def spIsStand : Sp := fun vs H Q _ => ∃ (a : Addr) (r : Bool × List Nat) (many size : Nat), vs = [.ref a, vi many, vi size] ∧ RowAt H a r ∧ r.2.length = size ∧ (∀ t ∈ r.2, t < many) ∧ size ≤ 4 ∧ ∀ H', Same H H' → Q (.bl true) H'
theorem ok_is_stand (T : Tx K mg CM CA CW CG) : Pr P w K mg base CX0 2 "is_stand" P_is_stand [] spIsStand := by
  refine T.d_is_stand.pr sc_is_stand (fun _ _ _ _ _ _ us hl => match us, hl with | [_, _, _], _ => rfl) (fun vs H Q E h => ?_) (fun f cdv A outer s H vs Q E hr h => ?_)
  · obtain ⟨a, r, many, size, rfl, _⟩ := h; rfl
  · obtain ⟨a, r, many, size, rfl, ⟨t, h1, h2⟩, hl, hlt, hs, q⟩ := h
    refine ⟨_, (PSs.nox (pss_cons (ps_if (PW.pt (pw_or (pt_not (pt_val (pe_callB call_isi rfl T.z_isinstance (by decide +kernel) (pa_cons (pv 0) (pa_cons (pe_bltn (v := .ty "tuple") rfl T.z_tuple (by decide +kernel) rfl) pa_nil))))) (pw_or (pt_cmpR op_ne (pe_callB call_len rfl T.z_len boot_len (pa_cons (pv 0) pa_nil)) pe_int (nomark _)) (pw_or1 (pt_not (pt_val (pe_callB call_isi rfl T.z_isinstance (by decide +kernel) (pa_cons (pe_ix ix_tup (pv 0) pe_int (fun _ _ => rfl)) (pa_cons (pe_bltn (v := .ty "bool") rfl T.z_bool (by decide +kernel) rfl) pa_nil)))))))))
 (pss_one (ps_ret pe_bl))
 pss_nil)
 (pss_cons (ps_if (PW.pt (pw_or (pt_not (pt_val (pe_callB call_isi rfl T.z_isinstance (by decide +kernel) (pa_cons (pe_ix ix_tup (pv 0) pe_int (fun _ _ => rfl)) (pa_cons (pe_bltn (v := .ty "tuple") rfl T.z_tuple (by decide +kernel) rfl) pa_nil))))) (pw_or1 (pt_cmpR op_ne (pe_callB call_len rfl T.z_len boot_len (pa_cons (pe_ix ix_tup (pv 0) pe_int (fun _ _ => rfl)) pa_nil)) (pv 2) (nomark _)))))
 (pss_one (ps_ret pe_bl))
 pss_nil)
 (pss_one (ps_ret (pe_callB (cr_all rfl) rfl T.z_all (by decide +kernel) (pa_cons (pe_lc (own := [("to", 3)]) rfl sc_is_stand.nd (pi_tup (pe_ix ix_tup (pv 0) pe_int (fun _ _ => rfl))) (blkOk_by (own := [("to", 3)]) (N := N_is_stand) (sc := defScope s_is_stand) (by decide +kernel)) (fun _ _ _ _ _ => (pg_name (i := 3) sc_is_stand.nd rfl (Or.inl rfl) (Or.inr rfl))) (fun _ _ _ _ _ => pts_nil) (fun _ _ _ _ _ => (pe_callP (ok_is_number T) (hr.mono (by decide)) rfl pass0 (pa_cons (pv 3) (pa_cons pe_int (pa_cons (pe_op op_sub (pv 1) pe_int) pa_nil)))))) pa_nil))))))), ?_⟩
    refine ⟨_, rfl, _, _, _, _, _, rfl, .ty _, .base (.tup h1), k_tt, _, rfl, ?_⟩
    refine ⟨_, rfl, _, 2, rfl, .inr ⟨_, .inl (.inl h1), rfl⟩, rfl, _, rfl, ?_⟩
    refine iteNS rfl ?_
    refine ⟨_, rfl, _, _, 0, _, rfl, rfl, .inl (.inl h1), rfl, _, _, _, _, _, rfl, .ty _, .base (.bl _), k_bb, _, rfl, ?_⟩
    refine ⟨_, rfl, _, _, 1, _, rfl, rfl, .inl (.inl h1), rfl, _, _, _, _, _, rfl, .ty _, .base (.tup h2), k_tt, _, rfl, ?_⟩
    refine ⟨_, rfl, _, _, 1, _, rfl, rfl, .inl (.inl h1), rfl, _, size, rfl, .inr ⟨_, .inl (.inl h2), by rw [nis_len, hl]⟩, ?_⟩
    refine ⟨_, rfl, rfl, _, rfl, iteNS rfl ?_⟩
    refine ⟨_, rfl, _, _, 1, _, rfl, rfl, .inl (.inl h1), rfl, _, rfl, ⟨_, .inl (.inl h2)⟩, fun D hD => lc_map (walk_tup (xs := nis r.2)) (Same H) (fun _ => .bl true) (by rw [nis_len, hl]; exact sl (by omega)) (same_new hD) (fun i H2 hi r hD2 => .inl (.inl (r _ _ h2))) (fun H2 xs ys r _ => same_mut r hD) (fun i x H2 H' Q' hi r1 hD2 ⟨e1, hx⟩ k => ?_) (fun H2 r hD2 => ?_)⟩
    · subst e1
      obtain ⟨n, hn, rfl⟩ := nis_inv hx
      have hlt := hlt n (List.mem_of_getElem? hn)
      refine ⟨rfl, _, rfl, _, rfl, _, _, rfl, rfl, _, _, _, rfl, ?_⟩
      rw [decide_eq_true (show (0 : Int) ≤ (n : Nat) by omega), decide_eq_true (show ((n : Nat) : Int) ≤ (many : Nat) - 1 by omega)]
      exact k _ hD2 r1
    · refine ⟨_, _, rfl, .of (by rw [hD2, tab_bls]), ?_⟩
      rw [all_bls]
      exact q _ r
end
end Sw
/-! The machine's methods. -/
namespace Sw
open PySem PySem.Spec PyProof.Rows L2 LamX NdefX
theorem at_one {ls : Wd} {c i : Nat} : StrLaws.At (S ls) (S [c]) (S ls).length i ↔ ls[i]? = some c := by
  unfold StrLaws.At Builtin.Str.subAt
  rw [S_len, S_len]
  show i + 1 ≤ ls.length ∧ ((ls.toArray.extract i (i + 1)) == [c].toArray) = true ↔ _
  constructor
  · rintro ⟨h1, h2⟩
    have h3 : ls.toArray.extract i (i + 1) = [c].toArray := by simpa using h2
    have h4 : (ls.drop i).take 1 = [c] := by
      have := congrArg Array.toList h3
      simpa [List.take_drop] using this
    have h5 : ((ls.drop i).take 1)[0]? = some c := by rw [h4]; rfl
    rw [List.getElem?_take, if_pos (by omega), List.getElem?_drop] at h5
    simpa using h5
  · intro h
    obtain ⟨hlt, e⟩ := List.getElem?_eq_some_iff.mp h
    refine ⟨by omega, ?_⟩
    have : ls.toArray.extract i (i + 1) = [c].toArray := by
      apply Array.ext
      · simp; omega
      · intro j h1 h2
        simp at h2; subst h2
        simp [e]
    simp [this]
theorem occ_idx {ls : Wd} {c : Nat} (h : c ∈ ls) : ∃ rest, Builtin.Str.occurrences (S ls) (S [c]) 0 (S ls).length 1 = ls.idxOf c :: rest := by
  have hl : ls.idxOf c < ls.length := List.idxOf_lt_length_iff.mpr h
  have hg : ls[ls.idxOf c]? = some c := by rw [List.getElem?_eq_getElem hl, List.getElem_idxOf]
  rcases StrLaws.occ_head (S ls) (S [c]) 1 (Nat.le_refl _) with ⟨_, h2⟩ | ⟨i, r, h1, h2, h3⟩
  · exact absurd (at_one.mpr hg) (h2 _)
  · have e : i = ls.idxOf c := by
      have hi := at_one.mp h2
      rcases Nat.lt_trichotomy i (ls.idxOf c) with z | z | z
      · exact absurd hi (fun q => by
          obtain ⟨a, b⟩ := List.getElem?_eq_some_iff.mp q
          unfold List.idxOf at z
          have := List.not_of_lt_findIdx z
          simp [b] at this)
      · exact z
      · exact absurd (at_one.mpr hg) (h3 _ z)
    rw [e] at h1
    exact ⟨r, h1⟩
section
variable {P : Program} {w : World} {K : PySem.W.Frag} {mg : Str → Option Value} {base : Heap} {CM CA CW CG : Addr}
theorem kit_lt : PySem.W.kitAny K (.type "list") [.type "list", .type "tuple"] = some true := by
  have h : PySem.W.kitOne K (.type "list") (.type "list") = some true := kit_ty (by decide +kernel)
  simp [PySem.W.kitAny, h]
def spMachInit (CM : Addr) : Sp := fun vs H Q _ => ∃ (a p dx : Addr) (M : Mc), vs = [.ref a, VS M.ls, .ref p] ∧ H a = some (.ins CM dx []) ∧ RowsAt H p M.rows ∧ M.Ok ∧ ∀ H', MachAt CM H' a M → (∀ b o, H b = some o → b ≠ a → H' b = some o) → Q .non H'
theorem ok_Machine_init (T : Tx K mg CM CA CW CG) : Pm P w K mg base CX0 3 CM "__init__" P_Machine_init [] (spMachInit CM) := by
  refine T.d_Machine_init.pm sc_Machine_init (fun _ _ _ _ _ _ us hl => match us, hl with | [_, _, _], _ => rfl) (fun vs H Q E h => ?_) (fun f cdv A outer s H vs Q E hr h => ?_)
  · obtain ⟨a, p, dx, M, rfl, _⟩ := h; rfl
  · obtain ⟨a, p, dx, M, rfl, ha, ⟨as, hp, hrs⟩, O, q⟩ := h
    refine ⟨_, (PSs.nox (pss_cons (ps_expr (pe_callP (ok_need_letters T) (hr.mono (by decide)) rfl pass0 (pa_cons (pv 1) pa_nil)))
 (pss_cons (ps_if (PW.pt (pw_or (pt_not (pt_val (pe_callB call_isiT rfl T.z_isinstance (by decide +kernel) (pa_cons (pv 2) (pa_cons (pe_tup (pa_cons (pe_bltn (v := .ty "list") rfl T.z_list (by decide +kernel) rfl) (pa_cons (pe_bltn (v := .ty "tuple") rfl T.z_tuple (by decide +kernel) rfl) pa_nil))) pa_nil))))) (pw_or1 (pt_not (pt_chain op_le op_le pe_int (pe_callB call_len rfl T.z_len boot_len (pa_cons (pv 2) pa_nil)) (pe_globI rfl T.i_MOST_STANDS))))))
 (pss_one ps_never)
 pss_nil)
 (pss_cons (ps_if (pt_not (pt_val (pe_callB (cr_all rfl) rfl T.z_all (by decide +kernel) (pa_cons (pe_lc (own := [("row", 3)]) rfl sc_Machine_init.nd (pi_list (pv 2)) (blkOk_by (own := [("row", 3)]) (N := N_Machine_init) (sc := defScope s_Machine_init) (by decide +kernel)) (fun _ _ _ _ _ => (pg_name (i := 3) sc_Machine_init.nd rfl (Or.inl rfl) (Or.inr rfl))) (fun _ _ _ _ _ => pts_nil) (fun _ _ _ _ _ => (pe_callP (ok_is_stand T) (hr.mono (by decide)) rfl pass0 (pa_cons (pv 3) (pa_cons (pe_callB (len_K K rfl) rfl T.z_len boot_len (pa_cons (pv 2) pa_nil)) (pa_cons (pe_callB (len_K K rfl) rfl T.z_len boot_len (pa_cons (pv 1) pa_nil)) pa_nil)))))) pa_nil))))
 (pss_one ps_never)
 pss_nil)
 (pss_cons (ps_fld (pv 0) (pv 1) rfl)
 (pss_one (ps_fld (pv 0) (pe_callTy call_list_of rfl T.z_list (by decide +kernel) (pa_cons (pv 2) pa_nil)) rfl))))))), ?_⟩
    refine ⟨_, rfl, M.ls, rfl, O.abc_, fun H1 e1 => ?_⟩
    have hp1 := e1 _ _ hp
    have ha1 := e1 _ _ ha
    have hl : (as.map V.ref).length = M.n := by rw [List.length_map, hrs.1]; rfl
    refine ⟨_, rfl, by show 2 ≤ sizeLine; decide, fun t ht => ?_⟩
    have e2 : Same H1 (upd H1 t (.tup [.ty "list", .ty "tuple"])) := same_new ht
    have hp2 := e2 _ _ hp1
    have ha2 := e2 _ _ ha1
    refine ⟨_, _, _, _, _, _, rfl, upd_same, .cons (.ty _) (.cons (.ty _) .nil), .base (.lst hp2), kit_lt, _, rfl, ?_⟩
    refine ⟨_, rfl, _, M.n, rfl, .inl ⟨_, .of hp2, hl.symm⟩, _, _, rfl, rfl, _, rfl, ?_⟩
    rw [decide_eq_true (show (1 : Int) ≤ (M.n : Nat) by have := O.pos; omega)]
    refine ⟨_, _, rfl, rfl, _, rfl, ?_⟩
    rw [decide_eq_true (show ((M.n : Nat) : Int) ≤ 60 by have := O.le; omega)]
    generalize hH2 : upd H1 t (.tup [.ty "list", .ty "tuple"]) = H2 at *
    have hrs2 : RowsIn H2 as M.rows := hrs.sol ((Sol.of e1).trans (.of e2))
    refine ⟨_, rfl, _, rfl, ⟨_, .of hp2⟩, fun D hD => lc_map (walk_list (xs := as.map V.ref)) (Same H2) (fun _ => .bl true) (by rw [hl]; have := O.le; exact sl (by omega)) (same_new hD) (fun i H3 hi r hD2 => .of (r _ _ hp2)) (fun H3 xs ys r _ => same_mut r hD) (fun i x H3 H' Q' hi r1 hD2 ⟨e3, hx⟩ k => ?_) (fun H3 r hD2 => ?_)⟩
    · subst e3
      obtain ⟨a1, r, rfl, hr1, hat⟩ := hrs2.inv hx
      have hrm := List.mem_of_getElem? hr1
      refine ⟨rfl, _, rfl, _, rfl, _, M.n, rfl, .inl ⟨_, .of (r1 _ _ hp2), hl.symm⟩, _, rfl, _, M.ls.length, rfl, ⟨by rw [S_len]; have := O.lle; exact sl (by omega), (S_len _).symm⟩, a1, r, M.n, M.ls.length, rfl, hat.sol (.of r1), O.wid r hrm, O.ins r hrm, O.lle, fun H4 e4 => ?_⟩
      exact k _ (e4 _ _ hD2) fun b o z => e4 b o (r1 b o z)
    · refine ⟨_, _, rfl, .of (by rw [hD2, tab_bls]), _, rfl, ?_⟩
      rw [all_bls]
      have ha3 := r _ _ ha2
      have hp3 := r _ _ hp2
      refine ⟨_, rfl, _, rfl, a, CM, dx, [], rfl, ha3, T.clCM, T.nCM_letters_told, by show 0 < 1000; decide, ?_⟩
      generalize hH4 : upd H3 a (.ins CM dx (putF "letters_told" (VS M.ls) [])) = H4
      have npa : p ≠ a := ne_of hp3 ha3 (by intro z; cases z)
      have hp4 : H4 p = some (.lst (as.map .ref)) := by rw [← hH4, upd_ne npa]; exact hp3
      have ha4 : H4 a = some (.ins CM dx (putF "letters_told" (VS M.ls) [])) := by rw [← hH4]; exact upd_same
      refine ⟨_, rfl, _, _, rfl, .inl (.of hp4), fun l hl => ?_⟩
      have nla : a ≠ l := ne_of_none ha4 hl
      refine ⟨_, rfl, a, CM, dx, _, rfl, by rw [upd_ne nla]; exact ha4, T.clCM, T.nCM_stand_rows, by show 1 < 1000; decide, ?_⟩
      have kp : ∀ b o, H2 b = some o → b ≠ a → (upd (upd H4 l (.lst (as.map .ref))) a (.ins CM dx (putF "stand_rows" (.ref l) (putF "letters_told" (VS M.ls) [])))) b = some o := fun b o z n => by
        have h3 := r b o z
        have h4 : H4 b = some o := by rw [← hH4, upd_ne n]; exact h3
        rw [upd_ne n, upd_ne (ne_of_none h4 hl)]; exact h4
      refine q _ ⟨dx, l, ?_, as, ?_, ⟨hrs.1, fun i a1 r1 h1 h2 => ?_⟩⟩ fun b o z n => kp b o (e2 b o (e1 b o z)) n
      · rw [upd_same, fM_put]
      · rw [upd_ne nla.symm, upd_same]
      · obtain ⟨t1, h3, h4⟩ := hrs2.2 i a1 r1 h1 h2
        exact ⟨t1, kp _ _ h3 (ne_of h3 ha2 (by intro z; cases z)), kp _ _ h4 (ne_of h4 ha2 (by intro z; cases z))⟩
def spMachLetters (CM : Addr) : Sp := fun vs H Q _ => ∃ (a : Addr) (M : Mc), vs = [.ref a] ∧ MachAt CM H a M ∧ Q (VS M.ls) H
theorem ok_Machine_letters (T : Tx K mg CM CA CW CG) : Pm P w K mg base CX0 1 CM "letters" P_Machine_letters [] (spMachLetters CM) := by
  refine T.d_Machine_letters.pm sc_Machine_letters (fun _ _ _ _ _ _ us hl => match us, hl with | [_], _ => rfl) (fun vs H Q E h => ?_) (fun f cdv A outer s H vs Q E hr h => ?_)
  · obtain ⟨a, M, rfl, _⟩ := h; rfl
  · obtain ⟨a, M, rfl, ⟨dx, p, h1, h2⟩, q⟩ := h
    refine ⟨_, (PSs.nox (pss_one (ps_ret (pe_fld (pv 0) rfl)))), ?_⟩
    exact ⟨_, rfl, a, CM, dx, _, _, rfl, h1, T.clCM, T.nCM_letters_told, fM_l _ _, q⟩
def spMachRows (CM : Addr) : Sp := fun vs H Q _ => ∃ (a : Addr) (M : Mc), vs = [.ref a] ∧ MachAt CM H a M ∧ ∀ H' p, Same H H' → H p = none → RowsAt H' p M.rows → Q (.ref p) H'
theorem ok_Machine_rows (T : Tx K mg CM CA CW CG) : Pm P w K mg base CX0 1 CM "rows" P_Machine_rows [] (spMachRows CM) := by
  refine T.d_Machine_rows.pm sc_Machine_rows (fun _ _ _ _ _ _ us hl => match us, hl with | [_], _ => rfl) (fun vs H Q E h => ?_) (fun f cdv A outer s H vs Q E hr h => ?_)
  · obtain ⟨a, M, rfl, _⟩ := h; rfl
  · obtain ⟨a, M, rfl, ⟨dx, p, h1, as, h2, h3⟩, q⟩ := h
    refine ⟨_, (PSs.nox (pss_one (ps_ret (pe_callTy call_list_of rfl T.z_list (by decide +kernel) (pa_cons (pe_fld (pv 0) rfl) pa_nil))))), ?_⟩
    refine ⟨_, rfl, a, CM, dx, _, _, rfl, h1, T.clCM, T.nCM_stand_rows, fM_r _ _, _, _, rfl, .inl (.of h2), fun l hl => ?_⟩
    exact q _ l (same_new hl) hl ⟨as, upd_same, h3.sol (.of (same_new hl))⟩
def spBehind (CM : Addr) : Sp := fun vs H Q _ => ∃ (a : Addr) (M : Mc) (u : Wd) (st : Nat), vs = [.ref a, VS u, vi st] ∧ MachAt CM H a M ∧ M.Ok ∧ Ov M.ls u ∧ u.length ≤ 20000 ∧ st < M.n ∧ ∀ H', Same H H' → Q (vi (M.run st u)) H'
theorem ok_behind (T : Tx K mg CM CA CW CG) : Pm P w K mg base CX0 3 CM "behind" P_Machine_behind [V.int 0] (spBehind CM) ∧ PmK P w K mg base CX0 3 CM "behind" 1 P_Machine_behind ["stand"] (spBehind CM) := by
  refine T.d_Machine_behind.both sc_Machine_behind (fun D doc pm an cdv ct us c hl => match us, hl with | [_, _], _ => ⟨_, _, _, _, _, _, rfl, rfl, rfl⟩) (by decide) (fun kV doc pm an cdv ct us c hl => match us, hl with | [_, _], _ => by rfl) (fun vs H Q E h => ?_) (fun f cdv A outer s H vs Q E hr h => ?_)
  · obtain ⟨a, M, u, st, rfl, _⟩ := h; rfl
  · obtain ⟨a, M, u, st, rfl, hM, O, hov, hz, hst, q⟩ := h
    refine ⟨_, (PSs.nox (pss_cons (ps_expr (pe_callP (ok_need_word T) (hr.mono (by decide)) rfl pass0 (pa_cons (pe_fld (pv 0) rfl) (pa_cons (pv 1) pa_nil))))
 (pss_cons (ps_if (pt_not (pt_val (pe_callP (ok_is_number T) (hr.mono (by decide)) rfl pass0 (pa_cons (pv 2) (pa_cons pe_int (pa_cons (pe_op op_sub (pe_callB call_len rfl T.z_len boot_len (pa_cons (pe_fld (pv 0) rfl) pa_nil)) pe_int) pa_nil))))))
 (pss_one ps_never)
 pss_nil)
 (pss_cons (ps_for PassesOwn.never rfl (pi_str (pv 1)) (pg_name (i := 3) sc_Machine_behind.nd rfl (Or.inl rfl) (Or.inl rfl))
 (pss_one (ps_set (i := 2) sc_Machine_behind.nd rfl (Or.inl rfl) (pe_ix ix_tup (pe_ix ix_tup (pe_ix ix_list (pe_fld (pv 0) rfl) (pv 2) (fun _ _ => rfl)) pe_int (fun _ _ => rfl)) (pe_bm PySem.F.plainAttrs_str PySem.F.slot_str_index PySem.F.type_str_index mt_sindex (pe_fld (pv 0) rfl) (pa_cons (pv 3) pa_nil)) (fun _ _ => rfl)))))
 (pss_one (ps_ret (pv 2))))))), ?_⟩
    have hM0 := hM
    obtain ⟨dx, p, h1, as, h2, h3⟩ := hM
    refine ⟨_, rfl, a, CM, dx, _, _, rfl, h1, T.clCM, T.nCM_letters_told, fM_l _ _, _, rfl, M.ls, u, 20000, rfl, hov, hz, hz, fun H1 e1 => ?_⟩
    have h1' := e1 _ _ h1
    have h2' := e1 _ _ h2
    have hln : (as.map V.ref).length = M.n := by rw [List.length_map, h3.1]; rfl
    refine ⟨_, rfl, _, rfl, a, CM, dx, _, _, rfl, h1', T.clCM, T.nCM_stand_rows, fM_r _ _, _, M.n, rfl, .inl ⟨_, .of h2', hln.symm⟩, _, _, rfl, rfl, _, _, _, rfl, ?_⟩
    rw [decide_eq_true (show (0 : Int) ≤ (st : Nat) by omega), decide_eq_true (show ((st : Nat) : Int) ≤ (M.n : Nat) - 1 by omega)]
    refine ⟨_, rfl, ?_⟩
    refine ⟨_, rfl, _, rfl, for_it (walk_str (z := S u)) (fun i σ H2 => ∃ v, σ = [some (.ref a), some (VS u), some (vi (M.run st (u.take i))), v] ∧ Same H H2) ⟨none, rfl, e1⟩ (fun _ _ _ _ _ => trivial) (fun i x σ H2 H' hi ⟨v, hσ, r⟩ ⟨e2, c, hc, e3⟩ => ?_) (fun σ H2 ⟨v, hσ, r⟩ => ?_)⟩
    · subst hσ; subst e2; subst e3
      have hcu := S_get.mp hc
      have hcl := hov c (List.mem_of_getElem? hcu)
      have hlt : M.run st (u.take i) < M.n := O.run_lt hst _
      obtain ⟨r0, hr0, _, ht, hw, _⟩ := O.row hlt
      obtain ⟨a0, ha0, t0, hx1, hx2⟩ := h3.get hr0
      obtain ⟨rest, ho⟩ := occ_idx hcl
      have hk : (nis r0.2)[M.ls.idxOf c]? = some (vi (M.go (M.run st (u.take i)) c)) := nis_get (by rw [ht]; exact O.tos_get hlt (O.idx hcl))
      refine ⟨_, rfl, a, CM, dx, _, _, rfl, r _ _ h1, T.clCM, T.nCM_stand_rows, fM_r _ _, _, rfl, p, _, _, _, rfl, rfl, .of (r _ _ h2), atI_nat (refs_get ha0), _, _, 1, _, rfl, rfl, .inl (.inl (r _ _ hx1)), rfl, ?_⟩
      refine ⟨_, rfl, a, CM, dx, _, _, rfl, r _ _ h1, T.clCM, T.nCM_letters_told, fM_l _ _, rfl, _, rfl, _, _, _, _, rfl, rfl, ho, _, _, _, _, rfl, rfl, .inl (.inl (r _ _ hx2)), atI_nat hk, ?_⟩
      refine ⟨some (VS [c]), ?_, r⟩
      have e : u.take (i + 1) = u.take i ++ [c] := by rw [List.take_add_one, hcu]; rfl
      rw [e, Mc.run_app]; rfl
    · subst hσ
      have e : u.take (S u).cps.size = u := List.take_of_length_le (by show _ ≤ u.toArray.size; simp)
      refine ⟨_, rfl, ?_⟩
      rw [e]; exact q _ r
theorem ok_Machine_behind (T : Tx K mg CM CA CW CG) : Pm P w K mg base CX0 3 CM "behind" P_Machine_behind [V.int 0] (spBehind CM) := (ok_behind T).1
end
end Sw
/-! Dicts by a list of keys. -/
namespace Sw
open PySem PySem.Spec PyProof.Rows L2 LamX NdefX
section
variable {α κ : Type} [DecidableEq κ] [BEq α] [LawfulBEq α]
/-- keys numbered in their order, from n -/
def idxFrom (f : α → κ) : Nat → List α → List (κ × V)
  | _, [] => []
  | n, a :: l => (f a, vi n) :: idxFrom f (n + 1) l
theorem idxFrom_snoc (f : α → κ) (t : α) : ∀ (n : Nat) (l : List α), idxFrom f n (l ++ [t]) = idxFrom f n l ++ [(f t, vi (n + l.length))]
  | n, [] => rfl
  | n, a :: l => by
    show (f a, vi n) :: idxFrom f (n + 1) (l ++ [t]) = (f a, vi n) :: (idxFrom f (n + 1) l ++ _)
    rw [idxFrom_snoc f t (n + 1) l, List.length_cons]
    congr 3
    have : n + 1 + l.length = n + (l.length + 1) := by omega
    rw [this]
theorem idxFrom_len (f : α → κ) : ∀ (n : Nat) (l : List α), (idxFrom f n l).length = l.length
  | _, [] => rfl
  | n, a :: l => by show (idxFrom f (n + 1) l).length + 1 = _; rw [idxFrom_len f (n + 1) l]; rfl
theorem valV_cons (k k' : κ) (v : V) (kvs : List (κ × V)) : valV ((k, v) :: kvs) k' = if k = k' then some v else valV kvs k' := by
  unfold valV
  rw [List.find?_cons]
  by_cases h : k = k'
  · simp [h]
  · simp [h]
theorem valV_idx {f : α → κ} (hf : ∀ a b, f a = f b → a = b) (a : α) : ∀ (n : Nat) (l : List α), valV (idxFrom f n l) (f a) = if a ∈ l then some (vi (n + l.idxOf a)) else none
  | n, [] => by simp [idxFrom, valV]
  | n, b :: l => by
    rw [idxFrom, valV_cons, valV_idx hf a (n + 1) l]
    by_cases h : b = a
    · subst h; simp
    · have h1 : f b ≠ f a := fun e => h (hf _ _ e)
      rw [if_neg h1]
      by_cases h2 : a ∈ l
      · rw [if_pos h2, if_pos (List.mem_cons_of_mem _ h2), List.idxOf_cons, show (b == a) = false by simpa using h]
        show some (vi _) = some (vi (n + (_ + 1)))
        rw [Nat.add_assoc, Nat.add_comm 1]
      · rw [if_neg h2, if_neg (by simp [h2]; exact fun e => h e.symm)]
/-- keys that all hold True -/
def setOf (f : α → κ) (l : List α) : List (κ × V) := l.map fun a => (f a, V.bl true)
theorem setOf_len (f : α → κ) (l : List α) : (setOf f l).length = l.length := by simp [setOf]
theorem setOf_snoc (f : α → κ) (l : List α) (t : α) : setOf f (l ++ [t]) = setOf f l ++ [(f t, V.bl true)] := by simp [setOf]
theorem valV_set {f : α → κ} (hf : ∀ a b, f a = f b → a = b) (a : α) : ∀ l : List α, valV (setOf f l) (f a) = if a ∈ l then some (V.bl true) else none
  | [] => by simp [setOf, valV]
  | b :: l => by
    show valV ((f b, V.bl true) :: setOf f l) (f a) = _
    rw [valV_cons, valV_set hf a l]
    by_cases h : b = a
    · subst h; simp
    · rw [if_neg (fun e => h (hf _ _ e))]
      by_cases h2 : a ∈ l
      · rw [if_pos h2, if_pos (List.mem_cons_of_mem _ h2)]
      · rw [if_neg h2, if_neg (by simp [h2]; exact fun e => h e.symm)]
end
def ik (n : Nat) : Key := Sum.inl (n : Int)
theorem ik_inj (a b : Nat) (h : ik a = ik b) : a = b := by
  unfold ik at h; have := Sum.inl.inj h; omega
def tk (l : List Nat) : List Key := l.map ik
theorem tk_inj (a b : List Nat) (h : tk a = tk b) : a = b := by
  unfold tk at h
  induction a generalizing b with
  | nil => cases b with | nil => rfl | cons x b => cases h
  | cons y a ih =>
    cases b with
    | nil => cases h
    | cons x b =>
      simp only [List.map_cons, List.cons.injEq] at h
      rw [ik_inj _ _ h.1, ih b h.2]
theorem tk_kV (l : List Nat) : (tk l).map kV = nis l := by
  unfold tk nis
  rw [List.map_map]
  apply List.map_congr_left
  intro a _; rfl
theorem get_ik {H : Hp} {a : Addr} {kvs : List (Key × V)} {n : Nat} {r : Option V} (h : H a = some (.dK kvs)) (e : valV kvs (ik n) = r) : DGet H a (vi n) r := by
  have := DGet.k (k := ik n) h
  rw [e] at this; exact this
theorem get_tk {H : Hp} {a b : Addr} {kvs : List (List Key × V)} {l : List Nat} {r : Option V} (h : H a = some (.dT kvs)) (hb : H b = some (.tup (nis l))) (e : valV kvs (tk l) = r) : DGet H a (.ref b) r := by
  have := DGet.t (k := tk l) h (by rw [tk_kV]; exact hb)
  rw [e] at this; exact this
end Sw
/-! gone_through. -/
namespace Sw
open PySem PySem.Spec PyProof.Rows L2 LamX NdefX
/-- what the search holds between two turns -/
structure GI (ls : Wd) (b : Nat) (stp : Nat → Nat → Nat) (en : Nat → Bool) (N : Nat) (ord : List Nat) (rows : List (Bool × List Nat)) : Prop where
  nd : ord.Nodup
  hd : ord[0]? = some b
  lt : ∀ s ∈ ord, s < N
  reach : ∀ s ∈ ord, ∃ w, Ov ls w ∧ w.foldl stp b = s
  row : ∀ (i s : Nat), i < rows.length → ord[i]? = some s → ∃ tos : List Nat, rows[i]? = some (en s, tos) ∧ tos.length = ls.length ∧ ∀ (k c : Nat), ls[k]? = some c → ∃ j, tos[k]? = some j ∧ ord[j]? = some (stp s c)
section
variable {ls : Wd} {b N : Nat} {stp : Nat → Nat → Nat} {en : Nat → Bool} {ord : List Nat} {rows : List (Bool × List Nat)}
theorem GI.le (g : GI ls b stp en N ord rows) : ord.length ≤ N := by
  have := nodup_le ord (List.range N) g.nd fun x hx => List.mem_range.mpr (g.lt x hx)
  simpa using this
theorem app_get {α : Type} {l m : List α} {i : Nat} {x : α} (h : l[i]? = some x) : (l ++ m)[i]? = some x := by
  rw [List.getElem?_append_left (List.getElem?_eq_some_iff.mp h).1]; exact h
theorem snoc_get {α : Type} (l : List α) (x : α) : (l ++ [x])[l.length]? = some x := by simp
theorem GI.ext (g : GI ls b stp en N ord rows) {t : Nat} (hn : t ∉ ord) (ht : t < N) (hr : ∃ w, Ov ls w ∧ w.foldl stp b = t) (hle : rows.length ≤ ord.length) : GI ls b stp en N (ord ++ [t]) rows := by
  refine ⟨?_, app_get g.hd, fun s hs => ?_, fun s hs => ?_, fun i s hi h => ?_⟩
  · rw [List.nodup_append]
    refine ⟨g.nd, by simp, fun x hx y hy e => ?_⟩
    rw [List.mem_singleton] at hy; subst hy; subst e; exact hn hx
  · rcases List.mem_append.mp hs with h | h
    · exact g.lt s h
    · rw [List.mem_singleton.mp h]; exact ht
  · rcases List.mem_append.mp hs with h | h
    · exact g.reach s h
    · rw [List.mem_singleton.mp h]; exact hr
  · have h' : ord[i]? = some s := by rw [List.getElem?_append_left (by omega)] at h; exact h
    obtain ⟨tos, e1, e2, e3⟩ := g.row i s hi h'
    refine ⟨tos, e1, e2, fun k c hk => ?_⟩
    obtain ⟨j, a1, a2⟩ := e3 k c hk
    exact ⟨j, a1, app_get a2⟩
theorem GI.add (g : GI ls b stp en N ord rows) {s : Nat} {tos : List Nat} (hs : ord[rows.length]? = some s) (hl : tos.length = ls.length) (h : ∀ (k c : Nat), ls[k]? = some c → ∃ j, tos[k]? = some j ∧ ord[j]? = some (stp s c)) : GI ls b stp en N ord (rows ++ [(en s, tos)]) := by
  refine ⟨g.nd, g.hd, g.lt, g.reach, fun i t hi ht => ?_⟩
  rw [List.length_append, List.length_singleton] at hi
  by_cases hi' : i < rows.length
  · obtain ⟨tos', e1, e2⟩ := g.row i t hi' ht
    exact ⟨tos', app_get e1, e2⟩
  · obtain rfl : i = rows.length := by omega
    rw [hs] at ht; cases ht
    exact ⟨tos, snoc_get _ _, hl, h⟩
theorem GI.done (g : GI ls b stp en N ord rows) (h : rows.length = ord.length) : Gone ls b stp en N rows ord :=
  ⟨g.nd, g.hd, g.lt, g.reach, h, fun i s hi => g.row i s (by rw [h]; exact (List.getElem?_eq_some_iff.mp hi).1) hi⟩
end
structure GJ (ls : Wd) (b : Nat) (stp : Nat → Nat → Nat) (en : Nat → Bool) (N : Nat) (ord : List Nat) (rows : List (Bool × List Nat)) (st : Nat) (tos : List Nat) (k : Nat) : Prop where
  gi : GI ls b stp en N ord rows
  at_ : ord[rows.length]? = some st
  len : tos.length = k
  tos : ∀ (i c : Nat), i < k → ls[i]? = some c → ∃ j, tos[i]? = some j ∧ ord[j]? = some (stp st c)
section
variable {P : Program} {w : World} {K : PySem.W.Frag} {mg : Str → Option Value} {base : Heap} {CM CA CW CG : Addr}
def spStp (ls : Wd) (N : Nat) (stp : Nat → Nat → Nat) : Sp := fun vs H Q _ => ∃ s c, vs = [vi s, VS [c]] ∧ s < N ∧ c ∈ ls ∧ ∀ H', Same H H' → Q (vi (stp s c)) H'
def spEn (N : Nat) (en : Nat → Bool) : Sp := fun vs H Q _ => ∃ s, vs = [vi s] ∧ s < N ∧ ∀ H', Same H H' → Q (.bl (en s)) H'
def spGone (P : Program) (w : World) (K : PySem.W.Frag) (mg : Str → Option Value) (base : Heap) : Sp := fun vs H Q _ => ∃ (ls : Wd) (b N : Nat) (stp : Nat → Nat → Nat) (en : Nat → Bool) (fs fe : Addr), vs = [VS ls, vi b, .ref fs, .ref fe] ∧ Abc ls ∧ b < N ∧ N ≤ 60 ∧ (∀ s c, s < N → c ∈ ls → stp s c < N) ∧
  Cb P w K mg base 1 fs H (spStp ls N stp) ∧ Cb P w K mg base 1 fe H (spEn N en) ∧ ∀ H' p rows ord, Gone ls b stp en N rows ord → Same H H' → H p = none → RowsAt H' p rows → Q (.ref p) H'
theorem Cb.keep_same {k : Nat} {f : Addr} {H H' : Hp} {sp : Sp} (c : Cb P w K mg base k f H sp) (e : Same H H') : Cb P w K mg base k f H' sp := c.keep (.of e)
theorem ok_gone_through (T : Tx K mg CM CA CW CG) : Pr P w K mg base CX0 2 "gone_through" P_gone_through [] (spGone P w K mg base) := by
  refine T.d_gone_through.pr sc_gone_through (fun _ _ _ _ _ _ us hl => match us, hl with | [_, _, _, _], _ => rfl) (fun vs H Q E h => ?_) (fun f cdv A outer s H vs Q E hr h => ?_)
  · obtain ⟨ls, b, N, stp, en, fs, fe, rfl, _⟩ := h; rfl
  · obtain ⟨ls, b, N, stp, en, fs, fe, rfl, O, hb, hN, hst, cs, ce, q⟩ := h
    have hu := hu_of hr
    refine ⟨_, (PSs.nox (pss_cons (ps_par3 (i := 4) (j := 5) (l := 6) (by rfl) sc_gone_through.nd rfl rfl rfl (by decide) (by decide) (by decide) rfl rfl rfl (pa_cons (pe_disp (pps_cons (pv 1) pe_int pps_nil) (by rfl) (by rfl) (fun z => by cases z) (by decide)) (pa_cons (pe_lst (pa_cons (pv 1) pa_nil)) (pa_cons (pe_lst pa_nil) pa_nil))) (by rfl))
 (pss_cons (ps_while PassesOwn.never (pt_cmpR op_lt (pe_callB call_len rfl T.z_len boot_len (pa_cons (pv 6) pa_nil)) (pe_callB call_len rfl T.z_len boot_len (pa_cons (pv 5) pa_nil)) (nomark _))
 (pss_cons (ps_par (i := 7) (j := 8) (by rfl) sc_gone_through.nd rfl rfl (by decide) rfl rfl (pa_cons (pe_ix ix_list (pv 5) (pe_callB call_len rfl T.z_len boot_len (pa_cons (pv 6) pa_nil)) (fun _ _ => rfl)) (pa_cons (pe_lst pa_nil) pa_nil)) (by rfl))
 (pss_cons (ps_for PassesOwn.never rfl (pi_str (pv 0)) (pg_name (i := 9) sc_gone_through.nd rfl (Or.inl rfl) (Or.inl rfl))
 (pss_cons (ps_set (i := 10) sc_gone_through.nd rfl (Or.inl rfl) (pe_callF (i := 2) hr rfl (.inl rfl) (pa_cons (pv 7) (pa_cons (pv 9) pa_nil))))
 (Evl.pss_cut (ps_if (pt_cmp (pc_dnotin hu (pv 10) (pv 4)))
 (pss_cons (ps_dput hu (pv 4) (pv 10) (pe_callB call_len rfl T.z_len boot_len (pa_cons (pv 5) pa_nil)) rfl)
 (pss_one (ps_expr (pe_bm PySem.F.plainAttrs_list PySem.F.slot_list_append PySem.F.type_list_append mt_append (pv 5) (pa_cons (pv 10) pa_nil)))))
 pss_nil)
 (pss_one (ps_expr (pe_bm PySem.F.plainAttrs_list PySem.F.slot_list_append PySem.F.type_list_append mt_append (pv 8) (pa_cons (pe_dget hu (pv 4) (pv 10) (fun _ _ => rfl)) pa_nil)))))))
 (pss_one (ps_expr (pe_bm PySem.F.plainAttrs_list PySem.F.slot_list_append PySem.F.type_list_append mt_append (pv 6) (pa_cons (pe_tup (pa_cons (pe_callTy call_bool1 rfl T.z_bool (by decide +kernel) (pa_cons (pe_callF (i := 3) hr rfl (.inl rfl) (pa_cons (pv 7) pa_nil)) pa_nil)) (pa_cons (pe_callTy call_tuple_of rfl T.z_tuple (by decide +kernel) (pa_cons (pv 8) pa_nil)) pa_nil))) pa_nil)))))))
 (pss_one (ps_ret (pv 6)))))), ?_⟩
    refine fun D hD => ⟨_, rfl, upd_same, [(ik b, vi 0)], rfl, by show 1 ≤ 15; decide, ?_⟩
    have eD : upd (upd H D (.dK [])) D (.dK (mergeK [] [(ik b, vi 0)])) = upd H D (.dK (idxFrom ik 0 [b])) := by
      funext x; unfold upd; split <;> rfl
    rw [eD]
    have s1 : Same H (upd H D (.dK (idxFrom ik 0 [b]))) := same_new hD
    refine ⟨_, rfl, by show 1 ≤ 2 ^ 24; decide, fun O1 hO => ?_⟩
    refine ⟨by show 0 ≤ 2 ^ 24; decide, fun R hR => ⟨_, _, _, rfl, ?_⟩⟩
    have nDO : D ≠ O1 := ne_of_none upd_same hO
    have nDR : D ≠ R := ne_of_none (by rw [upd_ne nDO]; exact upd_same) hR
    have nOR : O1 ≠ R := ne_of_none upd_same hR
    have hO0 : H O1 = none := s1.free hO
    have hR0 : H R = none := by
      have := (show Same (upd H D (.dK (idxFrom ik 0 [b]))) (upd (upd H D (.dK (idxFrom ik 0 [b]))) O1 (.lst [vi b])) from same_new hO).free hR
      exact s1.free this
    refine while_by (fun σ H1 => ∃ (ord : List Nat) (rows : List (Bool × List Nat)) (as : List Addr) (v1 v2 v3 v4 : Option V), σ = [some (VS ls), some (vi b), some (.ref fs), some (.ref fe), some (.ref D), some (.ref O1), some (.ref R), v1, v2, v3, v4] ∧ GI ls b stp en N ord rows ∧ rows.length ≤ ord.length ∧ Same H H1 ∧ H1 D = some (.dK (idxFrom ik 0 ord)) ∧ H1 O1 = some (.lst (nis ord)) ∧ H1 R = some (.lst (as.map .ref)) ∧ RowsIn H1 as rows)
      (fun σ H1 => N - (match H1 R with | some (.lst xs) => xs.length | _ => 0)) ?_ ?_ ?_
    · refine ⟨[b], [], [], none, none, none, none, rfl, ⟨by simp, rfl, fun s hs => ?_, fun s hs => ?_, fun i s hi _ => absurd hi (by simp)⟩, by simp, ?_, ?_, ?_, upd_same, rfl, fun i a r h => by cases h⟩
      · rw [List.mem_singleton.mp hs]; exact hb
      · rw [List.mem_singleton.mp hs]; exact ⟨[], .nil, rfl⟩
      · exact fun c o z => by rw [upd_ne (ne_of_none z hR0), upd_ne (ne_of_none z hO0)]; exact s1 c o z
      · rw [upd_ne nDR, upd_ne nDO]; exact upd_same
      · rw [upd_ne nOR]; exact upd_same
    · rintro σ H1 ⟨ord, rows, as, v1, v2, v3, v4, rfl, g, hle, e1, hD1, hO1, hR1, hrs⟩
      have hlr : (as.map V.ref).length = rows.length := by rw [List.length_map, hrs.1]
      have hlo : (nis ord).length = ord.length := nis_len _
      have hoN := g.le
      refine ⟨_, rfl, _, rows.length, rfl, .inl ⟨_, .of hR1, hlr.symm⟩, _, rfl, _, ord.length, rfl, .inl ⟨_, .of hO1, hlo.symm⟩, _, _, rfl, rfl, _, rfl, ?_⟩
      refine ite2 (fun hlt => ?_) (fun hge => ?_)
      · have hlt' : rows.length < ord.length := by have := of_decide_eq_true hlt; omega
        have hs := List.getElem?_eq_getElem hlt'
        generalize hsd : ord[rows.length] = st at hs
        have hstN : st < N := g.lt st (List.mem_of_getElem? hs)
        refine ⟨_, rfl, _, rfl, _, rows.length, rfl, .inl ⟨_, .of hR1, hlr.symm⟩, _, _, _, _, rfl, rfl, .of hO1, atI_nat (nis_get hs), by show 0 ≤ 2 ^ 24; decide, fun L hL => ⟨_, _, rfl, ?_⟩⟩
        have e2 : Same H1 (upd H1 L (.lst [])) := same_new hL
        have hL0 : H L = none := e1.free hL
        have nLD : L ≠ D := (ne_of_none hD1 hL).symm
        have nLO : L ≠ O1 := (ne_of_none hO1 hL).symm
        have nLR : L ≠ R := (ne_of_none hR1 hL).symm
        refine ⟨_, rfl, _, rfl, for_it (walk_str (z := S ls)) (fun k σ H2 => ∃ (ord : List Nat) (tos : List Nat) (v3 v4 : Option V), σ = [some (VS ls), some (vi b), some (.ref fs), some (.ref fe), some (.ref D), some (.ref O1), some (.ref R), some (vi st), some (.ref L), v3, v4] ∧ GJ ls b stp en N ord rows st tos k ∧ Same H H2 ∧ H2 D = some (.dK (idxFrom ik 0 ord)) ∧ H2 O1 = some (.lst (nis ord)) ∧ H2 R = some (.lst (as.map .ref)) ∧ RowsIn H2 as rows ∧ H2 L = some (.lst (nis tos)))
          ⟨ord, [], v3, v4, rfl, ⟨g, hs, rfl, fun i c h => absurd h (Nat.not_lt_zero _)⟩, fun c o z => e2 c o (e1 c o z), e2 _ _ hD1, e2 _ _ hO1, e2 _ _ hR1, hrs.sol (.of e2), upd_same⟩ (fun _ _ _ _ _ => trivial) ?_ ?_⟩
        · rintro k x σ H2 H2' hk ⟨ord, tos, v3, v4, rfl, gj, r, hD2, hO2, hR2, hrs2, hL2⟩ ⟨rfl, c, hc, rfl⟩
          have hcu := S_get.mp hc
          have hcl := List.mem_of_getElem? hcu
          refine ⟨fs, _, rfl, cs.keep_same r, _, rfl, _, rfl, .refl _, st, c, rfl, hstN, hcl, fun H3 e3 => ?_⟩
          have hD3 := e3 _ _ hD2
          have hO3 := e3 _ _ hO2
          have hL3 := e3 _ _ hL2
          have r3 : Same H H3 := fun c o z => e3 c o (r c o z)
          refine ⟨fun σ H4 => ∃ (ord2 : List Nat) (j : Nat), σ = [some (VS ls), some (vi b), some (.ref fs), some (.ref fe), some (.ref D), some (.ref O1), some (.ref R), some (vi st), some (.ref L), some (VS [c]), some (vi (stp st c))] ∧ GJ ls b stp en N ord2 rows st tos k ∧ ord2[j]? = some (stp st c) ∧ valV (idxFrom ik 0 ord2) (ik (stp st c)) = some (vi j) ∧ Same H H4 ∧ H4 D = some (.dK (idxFrom ik 0 ord2)) ∧ H4 O1 = some (.lst (nis ord2)) ∧ H4 R = some (.lst (as.map .ref)) ∧ RowsIn H4 as rows ∧ H4 L = some (.lst (nis tos)), ?_, ?_⟩
          · by_cases hm : stp st c ∈ ord
            · refine ⟨_, rfl, _, rfl, D, _, rfl, get_ik hD3 (by rw [valV_idx ik_inj, if_pos hm]), _, rfl, ?_⟩
              exact ⟨ord, ord.idxOf (stp st c), rfl, gj, by rw [List.getElem?_eq_getElem (List.idxOf_lt_length_iff.mpr hm), List.getElem_idxOf], by rw [valV_idx ik_inj, if_pos hm, Nat.zero_add], r3, hD3, hO3, e3 _ _ hR2, hrs2.sol (.of e3), hL3⟩
            · have hv : valV (idxFrom ik 0 ord) (ik (stp st c)) = none := by rw [valV_idx ik_inj, if_neg hm]
              have hle2 := gj.gi.le
              refine ⟨_, rfl, _, rfl, D, _, rfl, get_ik hD3 hv, _, rfl, ?_⟩
              refine ⟨_, rfl, _, ord.length, rfl, .inl ⟨_, .of hO3, (nis_len _).symm⟩, _, rfl, _, rfl, D, _, rfl, DPut.k (k := ik (stp st c)) hD3 (by rw [idxFrom_len]; exact slt (by omega)), ?_⟩
              rw [putK_new _ hv]
              have eD2 : idxFrom ik 0 ord ++ [(ik (stp st c), vi ord.length)] = idxFrom ik 0 (ord ++ [stp st c]) := by rw [idxFrom_snoc, Nat.zero_add]
              refine ⟨_, rfl, .inl ⟨rfl, _, .of (by rw [upd_ne nDO.symm]; exact hO3)⟩, _, rfl, _, _, _, rfl, rfl, by rw [upd_ne nDO.symm]; exact hO3, by rw [nis_len]; exact slt (by omega), ?_⟩
              have hreach : ∃ w, Ov ls w ∧ w.foldl stp b = stp st c := by
                obtain ⟨w, hw, ew⟩ := gj.gi.reach st (List.mem_of_getElem? gj.at_)
                exact ⟨w ++ [c], hw.app (.one hcl), by rw [List.foldl_append, ew]; rfl⟩
              have hlr2 : rows.length < ord.length := (List.getElem?_eq_some_iff.mp gj.at_).1
              refine ⟨ord ++ [stp st c], ord.length, rfl, ⟨gj.gi.ext hm (hst _ _ hstN hcl) hreach (Nat.le_of_lt hlr2), app_get gj.at_, gj.len, fun i c' hi h => ?_⟩, snoc_get _ _, ?_, ?_, ?_, ?_, ?_, ?_, ?_⟩
              · obtain ⟨j, a1, a2⟩ := gj.tos i c' hi h
                exact ⟨j, a1, app_get a2⟩
              · rw [valV_idx ik_inj, if_pos (by simp), Nat.zero_add]
                rw [List.idxOf_append, if_neg hm]; simp
              · exact same_mut (same_mut r3 hD) hO0
              · rw [upd_ne nDO, upd_same, eD2]
              · rw [upd_same]; simp [nis]
              · rw [upd_ne nOR.symm, upd_ne nDR.symm]; exact e3 _ _ hR2
              · exact ((hrs2.sol (.of e3)).mut (dkNT hD3)).mut (lstNT (by rw [upd_ne nDO.symm]; exact hO3))
              · rw [upd_ne nLO, upd_ne nLD]; exact hL3
          · rintro σ H4 ⟨ord2, j, rfl, gj2, hj, hv, r4, hD4, hO4, hR4, hrs4, hL4⟩
            have hk60 : k ≤ 60 := by have : k < ls.length := (List.getElem?_eq_some_iff.mp hcu).1; have := O.lle; omega
            refine ⟨_, rfl, .inl ⟨rfl, _, .of hL4⟩, _, rfl, _, rfl, D, _, rfl, get_ik hD4 hv, _, _, _, rfl, rfl, hL4, by rw [nis_len, gj2.len]; exact slt (by omega), ?_⟩
            refine ⟨ord2, tos ++ [j], _, _, rfl, ⟨gj2.gi, gj2.at_, by rw [List.length_append, gj2.len]; rfl, fun i c' hi h => ?_⟩, same_mut r4 hL0, by rw [upd_ne nLD.symm]; exact hD4, by rw [upd_ne nLO.symm]; exact hO4, by rw [upd_ne nLR.symm]; exact hR4, ?_, by rw [upd_same]; simp [nis]⟩
            · by_cases hik : i < k
              · obtain ⟨j', a1, a2⟩ := gj2.tos i c' hik h
                exact ⟨j', app_get a1, a2⟩
              · obtain rfl : i = k := by omega
                rw [hcu] at h; cases h
                exact ⟨j, by have := snoc_get tos j; rw [gj2.len] at this; exact this, hj⟩
            · exact hrs4.mut (lstNT hL4)
        · rintro σ H2 ⟨ord, tos, v3, v4, rfl, gj, r, hD2, hO2, hR2, hrs2, hL2⟩
          have hlsz : (S ls).cps.size = ls.length := by show ls.toArray.size = _; simp
          rw [hlsz] at gj
          refine ⟨_, rfl, .inl ⟨rfl, _, .of hR2⟩, fe, _, rfl, ce.keep_same r, _, rfl, .refl _, st, rfl, hstN, fun H3 e3 => ?_⟩
          have hL3 := e3 _ _ hL2
          refine .inr ⟨_, rfl, _, rfl, _, _, rfl, .inl ⟨.of hL3, fun t ht => ⟨by show 2 ≤ 2 ^ 24; decide, fun q1 hq1 => ?_⟩⟩⟩
          have nRt : R ≠ t := ne_of_none (e3 _ _ hR2) ht
          have e4 : Same H3 (upd (upd H3 t (.tup (nis tos))) q1 (.tup [.bl (en st), .ref t])) := fun c o z => by rw [upd_ne (ne_of_none ((same_new ht) c o z) hq1)]; exact (same_new ht) c o z
          have hq0 : H3 q1 = none := (show Same H3 (upd H3 t (.tup (nis tos))) from same_new ht).free hq1
          have nq1t : q1 ≠ t := (ne_of_none upd_same hq1).symm
          generalize hH4 : upd (upd H3 t (.tup (nis tos))) q1 (.tup [.bl (en st), .ref t]) = H4 at e4
          have hq4 : H4 q1 = some (.tup [.bl (en st), .ref t]) := by rw [← hH4]; exact upd_same
          have ht4 : H4 t = some (.tup (nis tos)) := by rw [← hH4, upd_ne nq1t.symm]; exact upd_same
          have e5 : Same H2 H4 := fun c o z => e4 c o (e3 c o z)
          have hR4 := e5 _ _ hR2
          have hlr2 : rows.length < ord.length := (List.getElem?_eq_some_iff.mp gj.at_).1
          have hle2 := gj.gi.le
          refine ⟨_, _, _, rfl, rfl, hR4, by rw [hlr]; exact slt (by omega), ⟨ord, rows ++ [(en st, tos)], as ++ [q1], _, _, v3, v4, rfl, gj.gi.add gj.at_ gj.len (fun i c h => gj.tos i c (List.getElem?_eq_some_iff.mp h).1 h), by rw [List.length_append]; exact hlr2, same_mut (fun c o z => e5 c o (r c o z)) hR0, ?_, ?_, ?_, ?_⟩, ?_⟩
          · rw [upd_ne nDR]; exact e5 _ _ hD2
          · rw [upd_ne nOR]; exact e5 _ _ hO2
          · rw [upd_same, List.map_append]; rfl
          · refine RowsIn.mut ⟨by rw [List.length_append, List.length_append, hrs2.1]; rfl, fun i a0 r0 h1 h2 => ?_⟩ (lstNT hR4)
            rw [List.getElem?_append] at h1 h2
            by_cases hi : i < rows.length
            · rw [if_pos (by rw [hrs2.1]; exact hi)] at h1
              rw [if_pos hi] at h2
              exact (hrs2.2 i a0 r0 h1 h2).sol (.of e5)
            · rw [if_neg (by rw [hrs2.1]; exact hi), hrs2.1] at h1
              rw [if_neg hi] at h2
              have hi0 : i - rows.length = 0 := by
                have := (List.getElem?_eq_some_iff.mp h1).1
                simp at this; omega
              rw [hi0] at h1 h2
              cases h1; cases h2
              exact ⟨t, hq4, ht4⟩
          · rw [upd_same, hR1]
            show N - ((as.map V.ref) ++ [V.ref q1]).length < N - (as.map V.ref).length
            rw [List.length_append, hlr, List.length_singleton]
            omega
      · have heq : rows.length = ord.length := by have := of_decide_eq_false (Bool.eq_false_iff.mpr hge); omega
        refine ⟨_, rfl, q _ R rows ord (g.done heq) e1 hR0 ⟨as, hR1, hrs⟩⟩
    · rintro σ H Q Q' hq ⟨a, e1, x, n, e2, l1, b, e3, y, m, e4, l2, i, j, e5, e6, k, e7, q⟩
      exact ⟨a, e1, x, n, e2, l1, b, e3, y, m, e4, l2, i, j, e5, e6, k, e7, hq _ _ q⟩
end
end Sw
/-! d.setdefault(k, v), k a tuple. -/
namespace Sw
open PySem PySem.Spec PyProof.Rows L2 LamX NdefX
theorem setdef_heap {prog : Program} {w : World} {κ : Type} [DecidableEq κ] {knd : HeapKind prog w κ} {A : Around} {E : Value → Shared → Prop} {s : Shared} {d a : Addr} {xs : List (κ × Addr × Value)} {k : κ} {v0 : Value} {Q : Value → Shared → Prop}
    (hr : knd.room A) (hk : knd.is s.heap k a) (hD : Heap.DictOfH knd s.heap d xs) (hz : xs.length ≤ sizeLine) (h1 : ∀ v tk, (atKey xs k).map (·.2) = some v → Q v { s with toks := tk })
    (h2 : atKey xs k = none → ∀ h' tk, Heap.DictOfH knd h' d (storedH xs k a v0) → Heap.SameBut d s.heap h' → Q v0 { s with heap := h', toks := tk }) : wpAny (model prog w) A (dictSetDefault d (.ref a) v0) Q E s := by
  obtain ⟨o, es, ep, ho, hex, hdt, hes, hall, hnd⟩ := id hD
  unfold dictSetDefault
  refine wpAny_holding (wpAny_bind (knd.pyHash hr hk (wpAny_bind (wpAny_dictFind_heap (s := { s with toks := s.toks + knd.draws k }) hr hk ho hdt hes hall hnd (fun hno => ?_) (fun j p hj => ?_)))))
  · have hn := atKey_none_of_get hno
    refine wpAny_bind (wpAny_rule (wpAny_bind (wpAny_updateDictKeys ho hdt (wpAny_pure ?_) (by rw [size_of_entries hes]; exact hz) (by simp))))
    refine h2 hn _ _ ⟨_, _, _, Heap.get?_update_self _ ho (Obj.isFreed_of_dict (Obj.data_mapDictKeys hdt _)), hex.mapDictKeys _, Obj.data_mapDictKeys hdt _, ?_, ?_, ?_⟩ (Heap.SameBut.update _ _ _)
    · rw [storedH_new hn, Array.toList_push, hes, List.map_append]; rfl
    · intro x hx
      rw [storedH_new hn] at hx
      rcases List.mem_append.mp hx with h | h
      · exact knd.keeps (hall x h) ho hdt (Heap.SameBut.update _ _ _)
      · rw [List.mem_singleton.mp h]; exact knd.keeps hk ho hdt (Heap.SameBut.update _ _ _)
    · rw [storedH_new hn, List.map_append, List.nodup_append]
      refine ⟨hnd, by simp, fun x hx y hy e => ?_⟩
      have hy' : y = k := by simpa using hy
      subst hy'; subst e
      exact not_mem_keys_of_get hno hx
  · refine wpAny_bind (wpAny_dictEntries ho hdt ?_)
    rw [entry_at hes j, hj]
    refine wpAny_bind (wpAny_rule (wpAny_pure ?_))
    exact h1 _ _ (by rw [atKey_of_get hnd hj]; rfl)
theorem meets_setdefT {prog : Program} {w : World} {κ : Type} [DecidableEq κ] (knd : HeapKind prog w κ) (d a : Addr) (hsm : (d == sysModules) = false) (v0 : Value) :
    MeetsIn prog w (Builtin.«dict.setdefault» ⟨[.ref d, .ref a, v0], []⟩) fun A R s => knd.room A.in1 ∧ ∃ k xs, knd.is s.heap k a ∧ Heap.DictOfH knd s.heap d xs ∧ xs.length ≤ sizeLine ∧
      (∀ v tk, (atKey xs k).map (·.2) = some v → R (.ok (.ret v)) { s with toks := tk }) ∧ (atKey xs k = none → ∀ h' tk, Heap.DictOfH knd h' d (storedH xs k a v0) → Heap.SameBut d s.heap h' → R (.ok (.ret v0)) { s with heap := h', toks := tk }) := by
  refine MeetsIn.of_wp fun A R s h => ?_
  obtain ⟨hr, k, xs, hk, hD, hz, h1, h2⟩ := h
  unfold Builtin.«dict.setdefault» Builtin.Dict.keyAndDefault
  refine wpAny_bind (wpAny_bind (wpAny_notOrdered_dict hD.typeIs ?_))
  refine wpAny_pure ?_
  simp only [hsm, Bool.false_eq_true, if_false, Option.getD]
  refine wpAny_bind (setdef_heap hr hk hD hz (fun v tk e => wpAny_pure ⟨v, rfl, h1 v tk e⟩) (fun hn h' tk hd sb => wpAny_pure ⟨v0, rfl, h2 hn h' tk hd sb⟩))

def tDSetT (td ty tx : TE) : TE := fun σ H Q => td σ H fun x H1 => ∃ a, x = V.ref a ∧ IsD H1 a ∧ ty σ H1 fun y H2 => tx σ H2 fun z H3 => ∃ (kvs : List (List Key × V)) (k : List Key) (b : Addr), H3 a = some (.dT kvs) ∧ y = .ref b ∧ H3 b = some (.tup (k.map kV)) ∧ kvs.length < sizeLine ∧
  (∀ v, valV kvs k = some v → Q v H3) ∧ (valV kvs k = none → Q z (upd H3 a (.dT (putK kvs k z))))
theorem pe_dsetdT {X : Cx} {o e f : Expr} {td ty tx : TE} {apos cpos : Pos} (hu : X.A.units + 4 < cLine) (hd : PE X o td) (hy : PE X e ty) (hx : PE X f tx) (m : M2 X o "setdefault" apos e f cpos) :
    PE X (.Call (.Attribute o "setdefault" apos) [e, f] [] cpos) (tDSetT td ty tx) := by
  refine ⟨fun pins s σ H Q I h => wpAny_Call_method m.base m.few m.line PySem.F.plainAttrs_dict PySem.F.slot_dict_setdefault PySem.F.type_dict_setdefault (thn (hd.run pins s σ H _ I h) fun u s1 ⟨x, H1, I1, r1, a, ea, hisd, q⟩ => ?_)⟩
  subst ea
  obtain rfl : u = Value.ref a := r1
  obtain ⟨t1, t2, t3⟩ := isD_at I1 hisd
  refine ⟨t1, t2, ?_⟩
  rw [m.trees]
  refine Calls.callWith_builtin rfl (Calls.evalArgs_plain (Calls.spliced_cons (thn (hy.run pins s1 σ H1 _ I1 q) fun u2 s2 ⟨y, H2, I2, r2, q2⟩ => (Calls.spliced_cons (thn (hx.run pins s2 σ H2 _ I2 q2) fun u3 s3 ⟨z, H3, I3, r3, q3⟩ => Calls.spliced_nil ?_)))))
  obtain ⟨kvs, k, b, hk, ey, hb, hz, h1, h2⟩ := q3
  subst ey
  obtain rfl : u2 = Value.ref b := r2
  obtain ⟨hl, hsm, xs, kt, hD⟩ := dt_of I3.hok hk
  have hxl : xs.length = kvs.length := (Paired.length kt).symm
  show wpAny _ _ (call (.builtin "dict.setdefault") ([.ref a] ++ [.ref b, u3]) []) _ _ _
  refine call_meetsIn PySem.F.slot_dict_setdefault hD.typeIs PySem.F.entry_dict_setdefault (PySem.F.args_dict_setdefault_3 _ _ _) (meets_setdefT (tupleKind (mixKind X.prog X.w)) a b hsm u3) ⟨tupleKind_room_in1 (by omega), k, xs, key_of I3.hok hb, hD, by rw [hxl]; exact hl, fun v tk ev => ?_, fun hn h' tk hd' sb => ?_⟩
  · have hv := kt.val k
    rw [ev] at hv
    cases e1 : valV kvs k with
    | none => rw [e1] at hv; exact hv.elim
    | some v' => rw [e1] at hv; exact ⟨v', H3, I3.tok tk, hv, h1 v' e1⟩
  · have hv := kt.val k
    have hno : valV kvs k = none := by
      cases e1 : valV kvs k with
      | none => rfl
      | some v' => rw [e1, hn] at hv; exact hv.elim
    have hlen := length_putK kvs k z
    have hok : ObjOk X.prog X.w (upd H3 a (.dT (putK kvs k z))) h' a (.dT (putK kvs k z)) := ⟨by omega, hsm, _, (kt.put k hb r3).keeps fun c ys e => by
      rw [upd_ne fun z => by rw [z, hk] at e; cases e]; exact e, by obtain ⟨o, es, ep, a1, a2, a3, a4, _, a6⟩ := hd'; exact ⟨o, es, ep, a1, a2, a3, a4, a6⟩⟩
    refine ⟨z, _, d_write I3 (by rw [hk]; trivial) sb ?_ hok, r3, h2 hno⟩
    obtain ⟨o, es, ep, ho, _⟩ := hd'; exact ⟨o, ho⟩
end Sw
/-! classed, least_rows. -/
namespace Sw
open PySem PySem.Spec PyProof.Rows L2 LamX NdefX
theorem rank_take {κ : Type} [BEq κ] [LawfulBEq κ] {ks : List κ} {i : Nat} {k : κ} (h : ks[i]? = some k) :
    dis (ks.take (i + 1)) = (if k ∈ dis (ks.take i) then dis (ks.take i) else dis (ks.take i) ++ [k]) ∧ (dis ks).idxOf k = if k ∈ dis (ks.take i) then (dis (ks.take i)).idxOf k else (dis (ks.take i)).length := by
  have e1 : ks.take (i + 1) = ks.take i ++ [k] := by rw [List.take_add_one, h]; rfl
  have e2 : dis (ks.take (i + 1)) = if k ∈ dis (ks.take i) then dis (ks.take i) else dis (ks.take i) ++ [k] := by
    rw [e1, dis_snoc]
    by_cases hm : k ∈ dis (ks.take i)
    · rw [if_pos hm, if_pos (by simpa using hm)]
    · rw [if_neg hm, if_neg (by simpa using hm)]
  refine ⟨e2, ?_⟩
  obtain ⟨l, e3⟩ := dis_pre (ks.take (i + 1)) (ks.drop (i + 1))
  rw [List.take_append_drop] at e3
  have hin : k ∈ dis (ks.take (i + 1)) := (dis_mem _ _).mpr (by rw [e1]; simp)
  rw [e3, idx_app l hin, e2]
  by_cases hm : k ∈ dis (ks.take i)
  · rw [if_pos hm, if_pos hm]
  · rw [if_neg hm, if_neg hm, List.idxOf_append, if_neg hm]; simp
section
variable {P : Program} {w : World} {K : PySem.W.Frag} {mg : Str → Option Value} {base : Heap} {CM CA CW CG : Addr}
theorem fin_row {M : Mc} {i : Nat} {r : Bool × List Nat} (h : M.rows[i]? = some r) : r.1 = M.fin i ∧ r.2 = M.tos i := ⟨(Mc.fin_eq h).symm, (Mc.tos_eq h).symm⟩
def spClassed : Sp := fun vs H Q _ => ∃ (p : Addr) (M : Mc), vs = [.ref p] ∧ RowsAt H p M.rows ∧ M.Ok ∧ ∀ H' q cl, Classes M cl → Same H H' → H q = none → H' q = some (.lst (nis cl)) → Q (.ref q) H'
theorem ok_classed (T : Tx K mg CM CA CW CG) : Pr P w K mg base CX0 1 "classed" P_classed [] spClassed := by
  refine T.d_classed.pr sc_classed (fun _ _ _ _ _ _ us hl => match us, hl with | [_], _ => rfl) (fun vs H Q E h => ?_) (fun f cdv A outer s H vs Q E hr h => ?_)
  · obtain ⟨p, M, rfl, _⟩ := h; rfl
  · obtain ⟨p, M, rfl, ⟨as, hp, hrs⟩, O, q⟩ := h
    have hu4 : (A.deeper (PyProof.Rows.envOfC "classed" (defScope s_classed) s.heap.objs.size f cdv)).units + 4 < cLine := by have := hr.un; omega
    have hln : (as.map V.ref).length = M.n := by rw [List.length_map, hrs.1]; rfl
    have hn60 := O.le
    refine ⟨_, (PSs.nox (pss_cons (ps_asg (pe_tup (pa_cons (pe_lc (own := [("ends", 5), ("tos", 6)]) rfl sc_classed.nd (pi_list (pv 0)) (blkOk_by (own := [("ends", 5), ("tos", 6)]) (N := N_classed) (sc := defScope s_classed) (by decide +kernel)) (fun _ _ _ _ _ => (pg_tupK K rfl 2 rfl (pgs_cons (pg_name (i := 5) sc_classed.nd rfl (Or.inl rfl) (Or.inr rfl)) (pgs_cons (pg_name (i := 6) sc_classed.nd rfl (Or.inl rfl) (Or.inr rfl)) pgs_nil)))) (fun _ _ _ _ _ => pts_nil) (fun _ _ _ _ _ => (pe_callTy call_int1 rfl T.z_int (by decide +kernel) (pa_cons (pv 5) pa_nil)))) (pa_cons pe_int pa_nil))) (pg_tup rfl (pgs_cons (pg_name (i := 1) sc_classed.nd rfl (Or.inr rfl) (Or.inl rfl)) (pgs_cons (pg_name (i := 2) sc_classed.nd rfl (Or.inl rfl) (Or.inl rfl)) pgs_nil))))
 (pss_one (ps_while PassesOwn.never (pt_val pe_bl)
 (pss_cons (ps_set (i := 3) sc_classed.nd rfl (Or.inr rfl) pe_dnewT)
 (pss_cons (ps_setLc (i := 4) (own := [("at", 7), ("row", 8)]) rfl sc_classed.nd rfl rfl (sw_true rfl rfl rfl (by decide +kernel)) (pi_zip2 rfl T.z_zip (pa_cons (pv 1) (pa_cons (pv 0) pa_nil))) (blkOk_by (own := [("at", 7), ("row", 8)]) (N := N_classed) (sc := defScope s_classed) (by decide +kernel)) (fun _ _ _ _ _ => (pg_tupK K rfl 2 rfl (pgs_cons (pg_name (i := 7) sc_classed.nd rfl (Or.inl rfl) (Or.inr rfl)) (pgs_cons (pg_name (i := 8) sc_classed.nd rfl (Or.inl rfl) (Or.inr rfl)) pgs_nil)))) (fun _ _ _ _ _ => pts_nil) (fun _ _ _ _ _ => (pe_dsetdT hu4 (pv 3) (pe_op (catA_K K rfl) (pe_tup (pa_cons (pv 7) pa_nil)) (pe_callTy (tupOf_K K rfl) rfl T.z_tuple (by decide +kernel) (pa_cons (pe_lc (own := [("to", 9)]) rfl sc_classed.nd (pi_tupK K rfl (pe_ix (ixT_K K rfl) (pv 8) pe_int (fun _ _ => rfl))) (blkOk_by (own := [("to", 9)]) (N := N_classed) (by kernel_rfl)) (fun _ _ _ _ _ => (pg_name (i := 9) sc_classed.nd rfl (Or.inl rfl) (Or.inr rfl))) (fun _ _ _ _ _ => pts_nil) (fun _ _ _ _ _ => (pe_ix (ixL_K K rfl) (pv 1) (pv 9) (fun _ _ => rfl)))) pa_nil))) (pe_callB call_len_dT rfl T.z_len boot_len (pa_cons (pv 3) pa_nil)) ⟨by rfl, by rfl, by rfl, by rfl⟩)))
 (pss_cons (ps_if (pt_cmpR op_eq (pe_callB call_len_dT rfl T.z_len boot_len (pa_cons (pv 3) pa_nil)) (pv 2) (nomark _))
 (pss_one (ps_ret (pv 4)))
 pss_nil)
 (pss_one (ps_asg (pe_tup (pa_cons (pv 4) (pa_cons (pe_callB call_len_dT rfl T.z_len boot_len (pa_cons (pv 3) pa_nil)) pa_nil))) (pg_tup rfl (pgs_cons (pg_name (i := 1) sc_classed.nd rfl (Or.inr rfl) (Or.inl rfl)) (pgs_cons (pg_name (i := 2) sc_classed.nd rfl (Or.inl rfl) (Or.inl rfl)) pgs_nil)))))))))))), ?_⟩
    refine ⟨_, rfl, _, rfl, ⟨_, .of hp⟩, fun D hD => lc_map (walk_list (xs := as.map V.ref)) (Same H) (fun i => vi (if M.fin i then 1 else 0)) (by rw [hln]; exact sl (by omega)) (same_new hD) (fun i H3 hi r hD2 => .of (r _ _ hp)) (fun H3 xs ys r _ => same_mut r hD) (fun i x H3 H' Q' hi r hD2 ⟨e3, hx⟩ k => ?_) (fun H3 r hD2 => ?_)⟩
    · subst e3
      obtain ⟨a1, r1, rfl, hr1, t, ht1, ht2⟩ := hrs.inv hx
      obtain ⟨f1, f2⟩ := fin_row hr1
      refine ⟨_, _, rfl, .inl (.inl (r _ _ ht1)), rfl, _, _, rfl, _, _, rfl, rfl, rfl, _, rfl, .inr ⟨_, rfl, ?_⟩⟩
      have := k _ hD2 r
      rw [f1]
      cases e : M.fin i <;> (rw [e] at this; exact this)
    · rw [hln] at hD2
      have hcl0 : ∃ cl0 : List Nat, tab (fun i => vi (if M.fin i then 1 else 0)) M.n = nis cl0 ∧ Rnd M cl0 0 := by
        refine ⟨(List.range M.n).map fun i => if M.fin i then 1 else 0, by unfold tab nis; rw [List.map_map]; rfl, rnd_first O (by simp) fun i hi => ?_⟩
        rw [List.getD_eq_getElem?_getD, List.getElem?_map, List.getElem?_range hi]; rfl
      obtain ⟨cl0, hcl, R0⟩ := hcl0
      rw [hcl] at hD2
      refine ⟨by show 2 ≤ 2 ^ 24; decide, fun t ht => ⟨t, _, rfl, .inl (.inl upd_same), rfl, _, _, rfl, _, _, rfl, rfl, ?_⟩⟩
      have e1 : Same H3 (upd H3 t (.tup [.ref D, .int 0])) := same_new ht
      refine while_by (fun σ H1 => ∃ (cl : List Nat) (many : Nat) (c : Addr) (v3 v4 v5 v6 v7 v8 v9 : Option V), σ = [some (.ref p), some (.ref c), some (vi many), v3, v4, v5, v6, v7, v8, v9] ∧ Rnd M cl many ∧ many ≤ M.n ∧ Same H H1 ∧ H c = none ∧ H1 c = some (.lst (nis cl)))
        (fun σ _ => match σ with | [_, _, some (.int m), _, _, _, _, _, _, _] => M.n + 1 - m.toNat | _ => 0) ?_ ?_ ?_
      · exact ⟨cl0, 0, D, _, _, _, _, _, _, _, rfl, R0, Nat.zero_le _, fun b o z => e1 b o (r b o z), hD, e1 _ _ hD2⟩
      · rintro σ H1 ⟨cl, many, c, v3, v4, v5, v6, v7, v8, v9, rfl, R, hmn, r1, hc0, hc⟩
        have hp1 := r1 _ _ hp
        have hrs1 : RowsIn H1 as M.rows := hrs.sol (.of r1)
        refine ⟨_, rfl, fun Nm hNm => ?_⟩
        have hNm0 : H Nm = none := r1.free hNm
        have e2 : Same H1 (upd H1 Nm (.dT [])) := same_new hNm
        have ncN : c ≠ Nm := ne_of_none hc hNm
        refine ⟨_, rfl, _, rfl, .lst c, .lst p, _, _, rfl, .of (e2 _ _ hc), .of (e2 _ _ hp1), fun D2 hD2 => ?_⟩
        have hD20 : H1 D2 = none := e2.free hD2
        have nND : Nm ≠ D2 := ne_of_none upd_same hD2
        have hcn : (nis cl).length = M.n := by rw [nis_len, R.len]
        have hkl : (keysOf cl M).length = M.n := keys_len
        refine lc_it (tt := tYes) (walk_zip2 (c := .lst c) (d := .lst p) (xs := nis cl) (ys := as.map V.ref)) (fun i H4 => Same H1 H4 ∧ H4 D2 = some (.lst (tab (fun i => vi ((ranks (keysOf cl M)).getD i 0)) i)) ∧ H4 Nm = some (.dT (idxFrom tk 0 (dis ((keysOf cl M).take i))))) ⟨?_, upd_same, ?_⟩ (fun i H4 _ hP => ⟨.of (hP.1 _ _ hc), .of (hP.1 _ _ hp1)⟩) (fun i x H4 H4' hi hP hY => ?_) (fun H4 hP => ?_)
        · exact same_mut e2 hD20
        · rw [upd_ne nND]; exact upd_same
        · obtain ⟨r4, hD4, hN4⟩ := hP
          obtain ⟨T1, x1, y1, rfl, hT, rfl, hx, hy⟩ := hY
          dsimp only at hx hy
          obtain ⟨ci, hci, rfl⟩ := nis_inv hx
          obtain ⟨a1, ro, rfl, hro, t1, ht1, ht2⟩ := hrs1.inv hy
          obtain ⟨f1, f2⟩ := fin_row hro
          have hiN : i < M.n := (List.getElem?_eq_some_iff.mp hro).1
          have e5 : Same H4 (upd H4 T1 (.tup [vi ci, .ref a1])) := same_new hT
          generalize hH5 : upd H4 T1 (.tup [vi ci, .ref a1]) = H5 at e5
          have r5 : Same H1 H5 := fun b o z => e5 b o (r4 b o z)
          have hN5 := e5 _ _ hN4
          have hD5 := e5 _ _ hD4
          refine ⟨T1, _, rfl, .inl (.inl (by rw [← hH5]; exact upd_same)), rfl, _, _, rfl, _, _, rfl, rfl, rfl, ?_⟩
          refine ⟨_, rfl, Nm, rfl, .inr ⟨_, .inl hN5⟩, ?_⟩
          -- the key
          refine ⟨_, rfl, by show 1 ≤ 2 ^ 24; decide, fun t2 ht2' => ?_⟩
          have e6 : Same H5 (upd H5 t2 (.tup [vi ci])) := same_new ht2'
          have ht26 : upd H5 t2 (.tup [vi ci]) t2 = some (.tup [vi ci]) := upd_same
          generalize hH6 : upd H5 t2 (.tup [vi ci]) = H6 at e6 ht26
          have r6 : Same H1 H6 := fun b o z => e6 b o (r5 b o z)
          refine ⟨_, rfl, _, _, 1, _, rfl, rfl, .inl (.inl (r6 _ _ ht1)), rfl, _, rfl, ⟨_, .inl (.inl (r6 _ _ ht2))⟩, fun D3 hD3 => lc_map (walk_tup (xs := nis ro.2)) (Same H6) (fun j => vi (cl.getD (ro.2.getD j 0) 0)) ?_ (same_new hD3) (fun j H7 _ r7 _ => .inl (.inl (r7 _ _ (r6 _ _ ht2)))) (fun H7 xs ys r7 _ => same_mut r7 hD3) (fun j x H7 H7' Q' hj r7 hD7 hY k => ?_) (fun H7 r7 hD7 => ?_)⟩
          · rw [nis_len, O.wid ro (List.mem_of_getElem? hro)]; have := O.lle; exact sl (by omega)
          · obtain ⟨rfl, hx2⟩ := hY
            obtain ⟨to, hto, rfl⟩ := nis_inv hx2
            have htn := O.ins ro (List.mem_of_getElem? hro) to (List.mem_of_getElem? hto)
            have hg : (nis cl)[to]? = some (vi (cl.getD to 0)) := by
              have := List.getElem?_eq_getElem (by rw [R.len]; exact htn : to < cl.length)
              rw [getD_of this]; exact nis_get this
            refine ⟨rfl, _, rfl, _, rfl, c, _, _, _, rfl, rfl, .of (r7 _ _ (r6 _ _ hc)), atI_nat hg, ?_⟩
            have := k _ hD7 r7
            rw [getD_of hto] at this; exact this
          · have htab : tab (fun j => vi (cl.getD (ro.2.getD j 0) 0)) (nis ro.2).length = nis ((M.tos i).map fun t => cl.getD t 0) := by
              rw [← f2]
              refine tab_eq (by simp [nis]) fun j x hx => ?_
              obtain ⟨n, hn, rfl⟩ := nis_inv hx
              rw [List.getElem?_map] at hn
              cases e : ro.2[j]? with
              | none => rw [e] at hn; cases hn
              | some t => rw [e] at hn; cases hn; rw [getD_of e]
            rw [htab] at hD7
            have hne : nis ((M.tos i).map fun t => cl.getD t 0) ≠ [] := by
              intro z
              have hz : M.ls.length = 0 := by
                have hz := congrArg List.length z
                rw [nis_len, List.length_map, ← f2, O.wid ro (List.mem_of_getElem? hro)] at hz
                exact hz
              have := O.lpos; omega
            refine ⟨_, _, rfl, .inl ⟨.of hD7, fun l hl => ?_⟩⟩
            have e8 : Same H7 (upd H7 l (.tup (nis ((M.tos i).map fun t => cl.getD t 0)))) := same_new hl
            have hl8 : upd H7 l (.tup (nis ((M.tos i).map fun t => cl.getD t 0))) l = some (.tup (nis ((M.tos i).map fun t => cl.getD t 0))) := upd_same
            generalize hH8 : upd H7 l (.tup (nis ((M.tos i).map fun t => cl.getD t 0))) = H8 at e8 hl8
            have ht28 := e8 _ _ (r7 _ _ ht26)
            refine ⟨t2, l, _, _, rfl, rfl, .inl (.inl ht28), .inl (.inl hl8), ?_, (fun e => by cases e), (fun _ e => absurd e hne), fun _ _ p1 hp1' => ?_⟩
            · rw [nis_len, List.length_map, ← f2, O.wid ro (List.mem_of_getElem? hro)]; have := O.lle; show 1 + _ ≤ 2 ^ 24; omega
            have hcg : cl.getD i 0 = ci := getD_of hci
            have hkey : [vi ci] ++ nis ((M.tos i).map fun t => cl.getD t 0) = nis (keyOf cl M i) := by unfold keyOf; rw [hcg]; rfl
            rw [hkey]
            have e9 : Same H8 (upd H8 p1 (.tup (nis (keyOf cl M i)))) := same_new hp1'
            have hp9 : upd H8 p1 (.tup (nis (keyOf cl M i))) p1 = some (.tup (nis (keyOf cl M i))) := upd_same
            generalize hH9 : upd H8 p1 (.tup (nis (keyOf cl M i))) = H9 at e9 hp9
            have r9' : Same H5 H9 := fun b o z => e9 b o (e8 b o (r7 b o (e6 b o z)))
            have r9 : Same H1 H9 := fun b o z => r9' b o (r5 b o z)
            have hN9 := r9' _ _ hN5
            have hD9 := r9' _ _ hD5
            have hki := keys_get (cl := cl) hiN
            obtain ⟨q1, q2⟩ := rank_take hki
            have hdl : (dis ((keysOf cl M).take i)).length ≤ 60 := by
              have h1 := nodup_le _ ((keysOf cl M).take i) (dis_nd ((keysOf cl M).take i)) fun x hx => (dis_mem _ x).mp hx
              rw [List.length_take] at h1; omega
            have hfi : (ranks (keysOf cl M)).getD i 0 = (dis (keysOf cl M)).idxOf (keyOf cl M i) := getD_of (ranks_get hki)
            refine ⟨_, rfl, Nm, _, rfl, hN9, _, tk (keyOf cl M i), p1, hN9, rfl, by rw [tk_kV]; exact hp9, by rw [idxFrom_len]; exact slt (by omega), fun v hv => ?_, fun hv => ?_⟩
            · rw [valV_idx tk_inj] at hv
              by_cases hm : keyOf cl M i ∈ dis ((keysOf cl M).take i)
              · rw [if_pos hm, Nat.zero_add] at hv
                cases hv
                rw [if_pos hm] at q1 q2
                refine ⟨_, hD9, by rw [tab_len]; exact slt (by omega), same_mut r9 hD20, ?_, ?_⟩
                · rw [upd_same, tab_succ]; show some (HO.lst (_ ++ [_])) = some (HO.lst (_ ++ [vi _])); rw [hfi, q2]
                · rw [upd_ne nND, q1]; exact hN9
              · rw [if_neg hm] at hv; cases hv
            · rw [valV_idx tk_inj] at hv
              by_cases hm : keyOf cl M i ∈ dis ((keysOf cl M).take i)
              · rw [if_pos hm] at hv; cases hv
              · rw [if_neg hm] at q1 q2
                have hv2 : valV (idxFrom tk 0 (dis ((keysOf cl M).take i))) (tk (keyOf cl M i)) = none := by rw [valV_idx tk_inj, if_neg hm]
                rw [putK_new _ hv2]
                refine ⟨_, by rw [upd_ne nND.symm]; exact hD9, by rw [tab_len]; exact slt (by omega), same_mut (same_mut r9 hNm) hD20, ?_, ?_⟩
                · rw [upd_same, tab_succ]; show some (HO.lst (_ ++ [_])) = some (HO.lst (_ ++ [vi _])); rw [hfi, q2, idxFrom_len]
                · rw [upd_ne nND, upd_same, q1, idxFrom_snoc, Nat.zero_add, idxFrom_len]
        · obtain ⟨r4, hD4, hN4⟩ := hP
          have hmin : min (nis cl).length (as.map V.ref).length = M.n := by rw [hcn, hln, Nat.min_self]
          rw [hmin] at hD4 hN4
          rw [← hkl, List.take_length] at hN4
          have htab : tab (fun i => vi ((ranks (keysOf cl M)).getD i 0)) M.n = nis (ranks (keysOf cl M)) := by
            refine tab_eq (by rw [nis_len, ranks_len, hkl]) fun j x hx => ?_
            obtain ⟨n, hn, rfl⟩ := nis_inv hx
            rw [getD_of hn]
          rw [htab] at hD4
          obtain ⟨hge, _⟩ := R.ge O
          have hcle := Rnd.cnt_le (cl := cl) (M := M)
          have hlen : ∀ {xs : List (List Nat)}, (idxFrom tk 0 xs).length = xs.length := fun {xs} => idxFrom_len _ _ _
          refine ⟨_, rfl, Nm, _, rfl, hN4, _, rfl, rfl, _, rfl, ?_⟩
          rw [hlen]
          refine ite2 (fun he => ?_) (fun hne => ?_)
          · have he' : (dis (keysOf cl M)).length = many := by have := of_decide_eq_true he; have := V.int.inj this; omega
            exact ⟨_, rfl, q _ D2 _ (R.done O he') (fun b o z => r4 b o (r1 b o z)) (r1.free hD20) hD4⟩
          · have hne' : (dis (keysOf cl M)).length ≠ many := fun e => hne (by rw [e]; exact decide_eq_true rfl)
            refine ⟨_, rfl, _, rfl, Nm, _, rfl, hN4, by show 2 ≤ 2 ^ 24; decide, fun t2 ht2 => ⟨t2, _, rfl, .inl (.inl upd_same), rfl, _, _, rfl, _, _, rfl, rfl, ?_⟩⟩
            rw [hlen]
            have e5 : Same H4 (upd H4 t2 (.tup [.ref D2, vi (dis (keysOf cl M)).length])) := same_new ht2
            refine ⟨⟨_, _, D2, _, _, _, _, _, _, _, rfl, R.next O, hcle, fun b o z => e5 b o (r4 b o (r1 b o z)), r1.free hD20, e5 _ _ hD4⟩, ?_⟩
            show M.n + 1 - (((dis (keysOf cl M)).length : Int)).toNat < M.n + 1 - ((many : Nat) : Int).toNat
            rw [Int.toNat_natCast, Int.toNat_natCast]
            omega
      · rintro σ H Q Q' hq ⟨k, e, q⟩
        exact ⟨k, e, hq _ _ q⟩
end
end Sw
/-! least_rows, built. -/
namespace Sw
open PySem PySem.Spec PyProof.Rows L2 LamX NdefX
/-- the rows found so far -/
structure LR (M : Mc) (cl : List Nat) (i : Nat) (rows : List (Bool × List Nat)) : Prop where
  row : ∀ a, a < rows.length → ∃ j, j < i ∧ cl[j]? = some a ∧ rows[a]? = some (M.fin j, (M.tos j).map fun t => cl.getD t 0)
  lt : ∀ j a, j < i → cl[j]? = some a → a < rows.length
section
variable {M : Mc} {cl : List Nat} {i a : Nat} {rows : List (Bool × List Nat)}
theorem LR.nil : LR M cl 0 [] := ⟨fun a h => absurd h (Nat.not_lt_zero _), fun j a h => absurd h (Nat.not_lt_zero _)⟩
theorem LR.skip (g : LR M cl i rows) (hf : Fresh cl) (h : cl[i]? = some a) (hne : a ≠ rows.length) : LR M cl (i + 1) rows := by
  refine ⟨fun b hb => ?_, fun j b hj hb => ?_⟩
  · obtain ⟨j, h1, h2⟩ := g.row b hb
    exact ⟨j, by omega, h2⟩
  · by_cases hji : j < i
    · exact g.lt j b hji hb
    · obtain rfl : j = i := by omega
      rw [h] at hb; cases hb
      rcases hf j a h with ⟨k, h1, h2⟩ | ⟨h1, h2⟩
      · exact g.lt k a h1 h2
      · -- a is the count
        exfalso; apply hne
        apply Nat.le_antisymm
        · refine Nat.le_of_not_lt fun hlt => ?_
          obtain ⟨k, k1, k2⟩ := h2 rows.length hlt
          exact absurd (g.lt k _ k1 k2) (Nat.lt_irrefl _)
        · refine Nat.le_of_not_lt fun hlt => ?_
          obtain ⟨k, k1, k2, _⟩ := g.row a hlt
          exact absurd (h1 k a k1 k2) (Nat.lt_irrefl _)
theorem LR.add (g : LR M cl i rows) (h : cl[i]? = some rows.length) : LR M cl (i + 1) (rows ++ [(M.fin i, (M.tos i).map fun t => cl.getD t 0)]) := by
  refine ⟨fun b hb => ?_, fun j b hj hb => ?_⟩
  · rw [List.length_append, List.length_singleton] at hb
    by_cases hbl : b < rows.length
    · obtain ⟨j, h1, h2, h3⟩ := g.row b hbl
      exact ⟨j, by omega, h2, app_get h3⟩
    · obtain rfl : b = rows.length := by omega
      exact ⟨i, by omega, h, snoc_get _ _⟩
  · rw [List.length_append, List.length_singleton]
    by_cases hji : j < i
    · have := g.lt j b hji hb; omega
    · obtain rfl : j = i := by omega
      rw [h] at hb; cases hb; omega
theorem LR.done (g : LR M cl M.n rows) (C : Classes M cl) : Rows M cl rows := by
  refine ⟨fun a => ⟨fun ha => ?_, fun ha => ?_⟩, fun a ha => ?_⟩
  · obtain ⟨j, _, h, _⟩ := g.row a ha; exact List.mem_of_getElem? h
  · obtain ⟨j, hj⟩ := List.mem_iff_getElem?.mp ha
    exact g.lt j a (by rw [← C.len]; exact (List.getElem?_eq_some_iff.mp hj).1) hj
  · obtain ⟨j, h1, h2, h3⟩ := g.row a ha
    exact ⟨j, h1, getD_of h2, h3⟩
end
section
variable {P : Program} {w : World} {K : PySem.W.Frag} {mg : Str → Option Value} {base : Heap} {CM CA CW CG : Addr}
/-- classes[to] for to in tos -/
theorem cls_tab {M : Mc} {cl : List Nat} {tos : List Nat} : tab (fun j => vi (cl.getD (tos.getD j 0) 0)) (nis tos).length = nis (tos.map fun t => cl.getD t 0) := by
  refine tab_eq (by simp [nis]) fun j x hx => ?_
  obtain ⟨n, hn, rfl⟩ := nis_inv hx
  rw [List.getElem?_map] at hn
  cases e : tos[j]? with
  | none => rw [e] at hn; cases hn
  | some t => rw [e] at hn; cases hn; rw [getD_of e]
def spLeastRows : Sp := fun vs H Q _ => ∃ (p : Addr) (M : Mc), vs = [.ref p] ∧ RowsAt H p M.rows ∧ M.Ok ∧ ∀ H' q cl rows, Classes M cl → Rows M cl rows → Same H H' → H q = none → RowsAt H' q rows → Q (.ref q) H'
theorem ok_least_rows (T : Tx K mg CM CA CW CG) : Pr P w K mg base CX0 2 "least_rows" P_least_rows [] spLeastRows := by
  refine T.d_least_rows.pr sc_least_rows (fun _ _ _ _ _ _ us hl => match us, hl with | [_], _ => rfl) (fun vs H Q E h => ?_) (fun f cdv A outer s H vs Q E hr h => ?_)
  · obtain ⟨p, M, rfl, _⟩ := h; rfl
  · obtain ⟨p, M, rfl, ⟨as, hp, hrs⟩, O, q⟩ := h
    have hln : (as.map V.ref).length = M.n := by rw [List.length_map, hrs.1]; rfl
    have hn60 := O.le
    refine ⟨_, (PSs.nox (pss_cons (ps_asg (pe_tup (pa_cons (pe_callP (ok_classed T) (hr.mono (by decide)) rfl pass0 (pa_cons (pv 0) pa_nil)) (pa_cons (pe_lst pa_nil) pa_nil))) (pg_tup rfl (pgs_cons (pg_name (i := 1) sc_least_rows.nd rfl (Or.inr rfl) (Or.inl rfl)) (pgs_cons (pg_name (i := 2) sc_least_rows.nd rfl (Or.inl rfl) (Or.inl rfl)) pgs_nil))))
 (pss_cons (ps_for PassesOwn.never rfl (pi_zip2 rfl T.z_zip (pa_cons (pv 1) (pa_cons (pv 0) pa_nil))) (pg_tup rfl (pgs_cons (pg_name (i := 3) sc_least_rows.nd rfl (Or.inl rfl) (Or.inl rfl)) (pgs_cons (pg_tup rfl (pgs_cons (pg_name (i := 4) sc_least_rows.nd rfl (Or.inl rfl) (Or.inl rfl)) (pgs_cons (pg_name (i := 5) sc_least_rows.nd rfl (Or.inl rfl) (Or.inl rfl)) pgs_nil))) pgs_nil)))
 (pss_one (ps_if (pt_cmpR op_eq (pv 3) (pe_callB call_len rfl T.z_len boot_len (pa_cons (pv 2) pa_nil)) (nomark _))
 (pss_one (ps_expr (pe_bm PySem.F.plainAttrs_list PySem.F.slot_list_append PySem.F.type_list_append mt_append (pv 2) (pa_cons (pe_tup (pa_cons (pv 4) (pa_cons (pe_callTy call_tuple_of rfl T.z_tuple (by decide +kernel) (pa_cons (pe_lc (own := [("to", 6)]) rfl sc_least_rows.nd (pi_tup (pv 5)) (blkOk_by (own := [("to", 6)]) (N := N_least_rows) (sc := defScope s_least_rows) (by decide +kernel)) (fun _ _ _ _ _ => (pg_name (i := 6) sc_least_rows.nd rfl (Or.inl rfl) (Or.inr rfl))) (fun _ _ _ _ _ => pts_nil) (fun _ _ _ _ _ => (pe_ix (ixL_K K rfl) (pv 1) (pv 6) (fun _ _ => rfl)))) pa_nil)) pa_nil))) pa_nil))))
 pss_nil)))
 (pss_one (ps_ret (pv 2)))))), ?_⟩
    refine ⟨_, rfl, p, M, rfl, ⟨as, hp, hrs⟩, O, fun H1 c cl C e1 hc0 hc => ?_⟩
    refine ⟨by show 0 ≤ 2 ^ 24; decide, fun F hF => ⟨by show 2 ≤ 2 ^ 24; decide, fun t ht => ⟨t, _, rfl, .inl (.inl upd_same), rfl, _, _, rfl, _, _, rfl, rfl, ?_⟩⟩⟩
    have nFt : F ≠ t := ne_of_none upd_same ht
    have hF0 : H F = none := e1.free hF
    have e2 : Same H1 (upd (upd H1 F (.lst [])) t (.tup [.ref c, .ref F])) := fun b o z => by rw [upd_ne (ne_of_none ((same_new hF) b o z) ht)]; exact (same_new hF) b o z
    have hF2 : upd (upd H1 F (.lst [])) t (.tup [.ref c, .ref F]) F = some (.lst []) := by rw [upd_ne nFt]; exact upd_same
    generalize upd (upd H1 F (.lst [])) t (.tup [.ref c, .ref F]) = H2 at e2 hF2
    have hc2 := e2 _ _ hc
    have hp2 := e2 _ _ (e1 _ _ hp)
    have r2 : Same H H2 := fun b o z => e2 b o (e1 b o z)
    have nFc : F ≠ c := (ne_of_none hc hF).symm
    have nFp : F ≠ p := (ne_of_none (e1 _ _ hp) hF).symm
    have hcn : (nis cl).length = M.n := by rw [nis_len, C.len]
    refine ⟨_, rfl, _, rfl, .lst c, .lst p, _, _, rfl, .of hc2, .of hp2, ?_⟩
    refine for_it (walk_zip2 (c := .lst c) (d := .lst p) (xs := nis cl) (ys := as.map V.ref)) (fun i σ H3 => ∃ (rows : List (Bool × List Nat)) (fs : List Addr) (v3 v4 v5 v6 : Option V), σ = [some (.ref p), some (.ref c), some (.ref F), v3, v4, v5, v6] ∧ LR M cl i rows ∧ rows.length ≤ i ∧ Same H H3 ∧ H3 c = some (.lst (nis cl)) ∧ H3 F = some (.lst (fs.map .ref)) ∧ RowsIn H3 fs rows)
      ⟨[], [], _, _, _, _, rfl, .nil, Nat.le_refl _, r2, hc2, hF2, rfl, fun i a r h => by cases h⟩ (fun i σ H3 _ h => ?_) (fun i x σ H3 H3' hi h hY => ?_) (fun σ H3 h => ?_)
    · obtain ⟨rows, fs, v3, v4, v5, v6, rfl, g, hle, r3, hc3, hF3, hrs3⟩ := h
      exact ⟨.of hc3, .of (r3 _ _ hp)⟩
    · obtain ⟨rows, fs, v3, v4, v5, v6, rfl, g, hle, r3, hc3, hF3, hrs3⟩ := h
      obtain ⟨T1, x1, y1, rfl, hT, rfl, hx, hy⟩ := hY
      dsimp only at hx hy
      obtain ⟨ci, hci, rfl⟩ := nis_inv hx
      obtain ⟨a1, ro, rfl, hro, t1, ht1, ht2⟩ := hrs.inv hy
      obtain ⟨f1, f2⟩ := fin_row hro
      have hiN : i < M.n := (List.getElem?_eq_some_iff.mp hro).1
      have e5 : Same H3 (upd H3 T1 (.tup [vi ci, .ref a1])) := same_new hT
      have hT5 : upd H3 T1 (.tup [vi ci, .ref a1]) T1 = some (.tup [vi ci, .ref a1]) := upd_same
      generalize upd H3 T1 (.tup [vi ci, .ref a1]) = H5 at e5 hT5
      have r5 : Same H H5 := fun b o z => e5 b o (r3 b o z)
      refine ⟨T1, _, rfl, .inl (.inl hT5), rfl, _, _, rfl, _, _, rfl, ⟨a1, _, rfl, .inl (.inl (r5 _ _ ht1)), rfl, _, _, rfl, _, _, rfl, rfl, rfl, ?_⟩⟩
      have hF5 := e5 _ _ hF3
      have hlf : (fs.map V.ref).length = rows.length := by rw [List.length_map, hrs3.1]
      refine ⟨_, rfl, _, rfl, _, rows.length, rfl, .inl ⟨_, .of hF5, hlf.symm⟩, rfl, _, rfl, ?_⟩
      refine ite2 (fun he => ?_) (fun hne => ?_)
      · have he' : ci = rows.length := by have := of_decide_eq_true he; have := V.int.inj this; omega
        subst he'
        have htoslen := O.wid ro (List.mem_of_getElem? hro)
        refine ⟨_, rfl, .inl ⟨rfl, _, .of hF5⟩, _, rfl, _, rfl, _, rfl, ⟨_, .inl (.inl (r5 _ _ ht2))⟩, fun D3 hD3 => lc_map (walk_tup (xs := nis ro.2)) (Same H5) (fun j => vi (cl.getD (ro.2.getD j 0) 0)) ?_ (same_new hD3) (fun j H7 _ r7 _ => .inl (.inl (r7 _ _ (r5 _ _ ht2)))) (fun H7 xs ys r7 _ => same_mut r7 hD3) (fun j x H7 H7' Q' hj r7 hD7 hY k => ?_) (fun H7 r7 hD7 => ?_)⟩
        · rw [nis_len, htoslen]; have := O.lle; exact sl (by omega)
        · obtain ⟨rfl, hx2⟩ := hY
          obtain ⟨to, hto, rfl⟩ := nis_inv hx2
          have htn := O.ins ro (List.mem_of_getElem? hro) to (List.mem_of_getElem? hto)
          have hg : (nis cl)[to]? = some (vi (cl.getD to 0)) := by
            have := List.getElem?_eq_getElem (by rw [C.len]; exact htn : to < cl.length)
            rw [getD_of this]; exact nis_get this
          refine ⟨rfl, _, rfl, _, rfl, c, _, _, _, rfl, rfl, .of (r7 _ _ (e5 _ _ hc3)), atI_nat hg, ?_⟩
          have := k _ hD7 r7
          rw [getD_of hto] at this; exact this
        · rw [cls_tab (M := M), f2] at hD7
          refine ⟨_, _, rfl, .inl ⟨.of hD7, fun l hl => ⟨by show 2 ≤ 2 ^ 24; decide, fun q1 hq1 => ?_⟩⟩⟩
          have e8 : Same H7 (upd (upd H7 l (.tup (nis ((M.tos i).map fun t => cl.getD t 0)))) q1 (.tup [.bl ro.1, .ref l])) := fun b o z => by rw [upd_ne (ne_of_none ((same_new hl) b o z) hq1)]; exact (same_new hl) b o z
          have hq8 : upd (upd H7 l (.tup (nis ((M.tos i).map fun t => cl.getD t 0)))) q1 (.tup [.bl ro.1, .ref l]) q1 = some (.tup [.bl ro.1, .ref l]) := upd_same
          have hl8 : upd (upd H7 l (.tup (nis ((M.tos i).map fun t => cl.getD t 0)))) q1 (.tup [.bl ro.1, .ref l]) l = some (.tup (nis ((M.tos i).map fun t => cl.getD t 0))) := by rw [upd_ne (ne_of_none upd_same hq1)]; exact upd_same
          generalize upd (upd H7 l (.tup (nis ((M.tos i).map fun t => cl.getD t 0)))) q1 (.tup [.bl ro.1, .ref l]) = H8 at e8 hq8 hl8
          have r8 : Same H3 H8 := fun b o z => e8 b o (r7 b o (e5 b o z))
          have hF8 := r8 _ _ hF3
          refine ⟨_, _, _, rfl, rfl, hF8, by rw [hlf]; exact slt (by omega), ?_⟩
          refine ⟨rows ++ [(M.fin i, (M.tos i).map fun t => cl.getD t 0)], fs ++ [q1], _, _, _, _, rfl, g.add hci, by rw [List.length_append, List.length_singleton]; omega, same_mut (fun b o z => r8 b o (r3 b o z)) hF0, by rw [upd_ne nFc.symm]; exact r8 _ _ hc3, by rw [upd_same, List.map_append]; rfl, RowsIn.mut ⟨by rw [List.length_append, List.length_append, hrs3.1]; rfl, fun j a0 r0 h1 h2 => ?_⟩ (lstNT hF8)⟩
          rw [List.getElem?_append] at h1 h2
          by_cases hj : j < rows.length
          · rw [if_pos (by rw [hrs3.1]; exact hj)] at h1
            rw [if_pos hj] at h2
            exact (hrs3.2 j a0 r0 h1 h2).sol (.of r8)
          · rw [if_neg (by rw [hrs3.1]; exact hj), hrs3.1] at h1
            rw [if_neg hj] at h2
            have hj0 : j - rows.length = 0 := by
              have := (List.getElem?_eq_some_iff.mp h1).1
              simp at this; omega
            rw [hj0] at h1 h2
            cases h1; cases h2
            exact ⟨l, by rw [← f1]; exact hq8, hl8⟩
      · have hne' : ci ≠ rows.length := fun e => hne (by rw [e]; exact decide_eq_true rfl)
        exact ⟨rows, fs, _, _, _, _, rfl, g.skip C.fresh hci hne', by omega, r5, e5 _ _ hc3, hF5, hrs3.sol (.of e5)⟩
    · obtain ⟨rows, fs, v3, v4, v5, v6, rfl, g, hle, r3, hc3, hF3, hrs3⟩ := h
      have hmin : min (nis cl).length (as.map V.ref).length = M.n := by rw [hcn, hln, Nat.min_self]
      rw [hmin] at g
      exact ⟨_, rfl, q _ F cl rows C (g.done C) r3 hF0 ⟨fs, hF3, hrs3⟩⟩
def spBuilt (P : Program) (w : World) (K : PySem.W.Frag) (mg : Str → Option Value) (base : Heap) (CM : Addr) : Sp := fun vs H Q _ => ∃ (ls : Wd) (b N : Nat) (stp : Nat → Nat → Nat) (en : Nat → Bool) (fs fe : Addr), vs = [VS ls, vi b, .ref fs, .ref fe, vi 60] ∧ Abc ls ∧ b < N ∧ N ≤ 60 ∧ (∀ s c, s < N → c ∈ ls → stp s c < N) ∧
  Cb P w K mg base 1 fs H (spStp ls N stp) ∧ Cb P w K mg base 1 fe H (spEn N en) ∧ ∀ H' a M, M.Min → M.ls = ls → M.n ≤ N → (∀ u, Ov ls u → M.lang u = en (u.foldl stp b)) → Same H H' → MachAt CM H' a M → Q (.ref a) H'
theorem ok_built (T : Tx K mg CM CA CW CG) : Pr P w K mg base CX0 5 "built" P_built [V.int 60] (spBuilt P w K mg base CM) := by
  refine T.d_built.prK sc_built (fun D doc pm an cdv ct us c hl => match us, hl with | [_, _, _, _], _ => ⟨_, _, _, _, _, _, rfl, rfl, rfl⟩) (by decide) (fun vs H Q E h => ?_) (fun f cdv A outer s H vs Q E hr h => ?_)
  · obtain ⟨ls, b, N, stp, en, fs, fe, rfl, _⟩ := h; rfl
  · obtain ⟨ls, b, N, stp, en, fs, fe, rfl, O, hb, hN, hst, cs, ce, q⟩ := h
    refine ⟨_, (PSs.nox (pss_cons (ps_set (i := 5) sc_built.nd rfl (Or.inl rfl) (pe_callP (ok_least_rows T) (hr.mono (by decide)) rfl pass0 (pa_cons (pe_callP (ok_gone_through T) (hr.mono (by decide)) rfl pass0 (pa_cons (pv 0) (pa_cons (pv 1) (pa_cons (pv 2) (pa_cons (pv 3) pa_nil))))) pa_nil)))
 (pss_cons (ps_if (pt_cmpR op_gt (pe_callB call_len rfl T.z_len boot_len (pa_cons (pv 5) pa_nil)) (pv 4) (nomark _))
 (pss_one ps_never)
 pss_nil)
 (pss_one (ps_ret (pe_makeP T.mkCM T.kpCM (ok_Machine_init T) (hr.mono (by decide)) rfl T.mgCM pass0 (pa_cons (pv 0) (pa_cons (pv 5) pa_nil)))))))), ?_⟩
    refine ⟨_, rfl, _, rfl, _, rfl, _, rfl, ls, b, N, stp, en, fs, fe, rfl, O, hb, hN, hst, cs, ce, fun H1 p rows ord G e1 hp0 hp => ?_⟩
    have O1 : (Mc.mk ls rows).Ok := G.ok O hN
    refine ⟨p, ⟨ls, rows⟩, rfl, hp, O1, fun H2 p2 cl rows2 C R e2 hp2 hat => ?_⟩
    obtain ⟨as, has, hrs⟩ := hat
    have hlr : (as.map V.ref).length = rows2.length := by rw [List.length_map, hrs.1]
    have hle := C.le R
    have hle2 : rows2.length ≤ N := Nat.le_trans hle G.le
    refine ⟨_, rfl, _, rows2.length, rfl, .inl ⟨_, .of has, hlr.symm⟩, _, rfl, _, _, rfl, rfl, _, rfl, ?_⟩
    rw [decide_eq_false (show ¬ (((60 : Nat) : Int) < ((rows2.length : Nat) : Int)) by omega)]
    have M2 : (Mc.mk ls rows2).Min := C.min O1 R (G.reach_ O)
    refine ⟨_, rfl, _, rfl, fun x dx nx ndx ne => ⟨x, p2, dx, ⟨ls, rows2⟩, rfl, upd_same, ?_, M2.toOk, fun H3 hM kp => ⟨rfl, ?_⟩⟩⟩
    · have e3 : Same H2 (upd (upd H2 dx (.own x)) x (.ins CM dx [])) := fun c o z => by rw [upd_ne (ne_of_none z nx), upd_ne (ne_of_none z ndx)]; exact z
      exact RowsAt.sol ⟨as, has, hrs⟩ (.of e3)
    · have e3 : Same H2 H3 := fun c o z => kp c o (by rw [upd_ne (ne_of_none z nx), upd_ne (ne_of_none z ndx)]; exact z) (ne_of_none z nx)
      exact q _ x ⟨ls, rows2⟩ M2 rfl hle2 (fun u hu => by rw [C.lang O1 R hu, G.lang O hu]) (fun c o z => e3 c o (e2 c o (e1 c o z))) hM
end
end Sw
/-! Data on the heap compared. -/
namespace Sw
open PySem PySem.Spec PyProof.Rows L2 LamX NdefX
def Okd (k : Nat) (d : PyData) : Prop := PyData.canLay0 d = true ∧ PyData.depth d ≤ k
theorem okd_mono {k j : Nat} {d : PyData} (h : Okd k d) (hj : k ≤ j) : Okd j d := ⟨h.1, Nat.le_trans h.2 hj⟩
theorem okd_int (i : Int) : Okd 1 (.int i) := ⟨by simp [PyData.canLay0], by simp [PyData.depth]⟩
theorem okd_bl (b : Bool) : Okd 1 (.bool b) := ⟨by simp [PyData.canLay0], by simp [PyData.depth]⟩
theorem okd_str {z : Str} (h : PyData.strOk z = true) : Okd 1 (.str z) := ⟨by simp [PyData.canLay0, h], by simp [PyData.depth]⟩
theorem layAll : ∀ {ds : List PyData}, (∀ d ∈ ds, PyData.canLay0 d = true) → PyData.canLayAll0 ds = true
  | [], _ => by simp [PyData.canLayAll0]
  | d :: ds, h => by simp [PyData.canLayAll0, h d List.mem_cons_self, layAll fun x hx => h x (List.mem_cons_of_mem _ hx)]
theorem depAll {k : Nat} : ∀ {ds : List PyData}, (∀ d ∈ ds, PyData.depth d ≤ k) → PyData.depthAll ds ≤ k
  | [], _ => by simp [PyData.depthAll]
  | d :: ds, h => by
    have h1 := h d List.mem_cons_self
    have h2 := depAll fun x hx => h x (List.mem_cons_of_mem _ hx)
    simp only [PyData.depthAll]; omega
theorem okd_list {k : Nat} {ds : List PyData} (h : ∀ d ∈ ds, Okd k d) : Okd (k + 1) (.list ds) := ⟨by simp only [PyData.canLay0]; exact layAll fun d hd => (h d hd).1, by
  have := depAll (k := k) fun d hd => (h d hd).2
  simp only [PyData.depth]; omega⟩
theorem okd_tup {k : Nat} {ds : List PyData} (h : ∀ d ∈ ds, Okd k d) : Okd (k + 1) (.tuple ds) := ⟨by simp only [PyData.canLay0]; exact layAll fun d hd => (h d hd).1, by
  have := depAll (k := k) fun d hd => (h d hd).2
  simp only [PyData.depth]; omega⟩
theorem sh_of {k : Nat} {d : PyData} (h : Okd k d) (hk : k ≤ 64) : SeqAt.shaped d = true := by
  unfold SeqAt.shaped
  rw [h.1, decide_eq_true (Nat.le_trans h.2 hk)]; rfl
def its (l : List Nat) : List PyData := l.map fun n => PyData.int (n : Nat)
theorem okd_its (l : List Nat) : ∀ d ∈ its l, Okd 1 d := fun d hd => by
  obtain ⟨n, _, rfl⟩ := List.mem_map.mp hd
  exact okd_int _
theorem dp_nis {K : PySem.W.Frag} {H : Hp} : ∀ l : List Nat, DpAll K H (nis l) (its l)
  | [] => .nil
  | n :: l => .cons (.int _) (dp_nis l)
theorem eqv_its : ∀ l m : List Nat, PyData.eqvAll (its l) (its m) = decide (l = m)
  | [], [] => by simp [its, PyData.eqvAll]
  | [], _ :: _ => by simp [its, PyData.eqvAll]
  | _ :: _, [] => by simp [its, PyData.eqvAll]
  | a :: l, b :: m => by
    have ih := eqv_its l m
    unfold its at ih ⊢
    simp only [List.map_cons, PyData.eqvAll, ih, PyData.eqv, List.cons.injEq]
    by_cases h : a = b
    · subst h; simp
    · have : ¬ ((a : Int) = (b : Int)) := by omega
      simp [h, this]
theorem eqv_tits (l m : List Nat) : PyData.eqv (.tuple (its l)) (.tuple (its m)) = decide (l = m) := by simp only [PyData.eqv]; exact eqv_its l m
theorem eqv_nil (ds : List PyData) : PyData.eqv (.list ds) (.list []) = ds.isEmpty := by
  cases ds with
  | nil => simp [PyData.eqv, PyData.eqvAll]
  | cons d ds => simp [PyData.eqv, PyData.eqvAll]
section
variable {K : PySem.W.Frag} {H : Hp} {Q : VK}
/-- xs != [] -/
theorem ne_nil {a p : Addr} {xs : List V} {ds : List PyData} {k : Nat} (h : SqL K H a xs) (hd : DpAll K H xs ds) (hk : ∀ d ∈ ds, Okd k d) (hk2 : k ≤ 63) (hp : SqL K H p []) (q : Q (.bl (!xs.isEmpty)) H) : rNeD K (.ref a) (.ref p) H Q := by
  refine ⟨_, _, .lst h hd, .lst hp .nil, sh_of (okd_list hk) (by omega), sh_of (k := 1) (okd_list fun d hd => by cases hd) (by omega), ?_⟩
  rw [eqv_nil]
  have : ds.isEmpty = xs.isEmpty := by cases hd <;> rfl
  rw [this]; exact q
theorem eq_nil {a p : Addr} {xs : List V} {ds : List PyData} {k : Nat} (h : SqL K H a xs) (hd : DpAll K H xs ds) (hk : ∀ d ∈ ds, Okd k d) (hk2 : k ≤ 63) (hp : SqL K H p []) (q : Q (.bl xs.isEmpty) H) : rEqD K (.ref a) (.ref p) H Q := by
  refine ⟨_, _, .lst h hd, .lst hp .nil, sh_of (okd_list hk) (by omega), sh_of (k := 1) (okd_list fun d hd => by cases hd) (by omega), ?_⟩
  rw [eqv_nil]
  have : ds.isEmpty = xs.isEmpty := by cases hd <;> rfl
  rw [this]; exact q
/-- two tuples of numbers -/
theorem eq_tn {a b : Addr} {l m : List Nat} (h : SqT K H a (nis l)) (h2 : SqT K H b (nis m)) (q : Q (.bl (decide (l = m))) H) : rEqD K (.ref a) (.ref b) H Q := by
  refine ⟨_, _, .tup h (dp_nis l), .tup h2 (dp_nis m), sh_of (okd_tup (okd_its l)) (by omega), sh_of (okd_tup (okd_its m)) (by omega), ?_⟩
  rw [eqv_tits]; exact q
end
end Sw
/-! firsts. -/
namespace Sw
open PySem PySem.Spec PyProof.Rows L2 LamX NdefX
def ov : Option Wd → V
  | none => .non
  | some w => VS w
def Fd (fnd : List (Option Wd)) (s : Nat) : Prop := ∃ w, fnd[s]? = some (some w)
def cnt (fnd : List (Option Wd)) : Nat := fnd.countP (·.isSome)
structure FI (M : Mc) (fnd : List (Option Wd)) (later pend : List Nat) : Prop where
  len : fnd.length = M.n
  sound : ∀ s w, fnd[s]? = some (some w) → Ov M.ls w ∧ M.run 0 w = s ∧ w.length + 1 ≤ cnt fnd
  zero : Fd fnd 0
  closed : ∀ s, Fd fnd s → s ∈ pend ∨ s ∈ later ∨ ∀ c ∈ M.ls, Fd fnd (M.go s c)
  pen : ∀ s ∈ pend, Fd fnd s
  lat : ∀ s ∈ later, Fd fnd s
section
variable {M : Mc} {fnd : List (Option Wd)} {later pend : List Nat} {t : Nat}
theorem cnt_le : cnt fnd ≤ fnd.length := List.countP_le_length
theorem cnt_set {x : Wd} : ∀ {fnd : List (Option Wd)} {t : Nat}, fnd[t]? = some none → cnt (fnd.set t (some x)) = cnt fnd + 1
  | [], t, h => by simp at h
  | a :: l, 0, h => by
    simp at h; subst h
    unfold cnt; simp [List.countP_cons]
  | a :: l, t + 1, h => by
    simp at h
    have := cnt_set (x := x) h
    unfold cnt at this ⊢
    simp only [List.set_cons_succ, List.countP_cons]
    omega
theorem Fd.set {s : Nat} {x : Wd} (h : Fd fnd s) : Fd (fnd.set t (some x)) s := by
  obtain ⟨w, hw⟩ := h
  have hl := (List.getElem?_eq_some_iff.mp hw).1
  by_cases e : t = s
  · subst e; exact ⟨x, by rw [List.getElem?_set]; simp [hl]⟩
  · exact ⟨w, by rw [List.getElem?_set, if_neg e]; exact hw⟩
theorem FI.lt (g : FI M fnd later pend) {s : Nat} (h : Fd fnd s) : s < M.n := by
  obtain ⟨w, hw⟩ := h; rw [← g.len]; exact (List.getElem?_eq_some_iff.mp hw).1
theorem FI.new (g : FI M fnd later pend) {st c : Nat} {u : Wd} (hst : fnd[st]? = some (some u)) (hc : c ∈ M.ls) (hn : fnd[M.go st c]? = some none) : FI M (fnd.set (M.go st c) (some (u ++ [c]))) (later ++ [M.go st c]) pend := by
  have hl := (List.getElem?_eq_some_iff.mp hn).1
  have hs := cnt_set (x := u ++ [c]) hn
  have hnew : Fd (fnd.set (M.go st c) (some (u ++ [c]))) (M.go st c) := ⟨u ++ [c], by rw [List.getElem?_set]; simp [hl]⟩
  obtain ⟨u1, u2, u3⟩ := g.sound st u hst
  refine ⟨by rw [List.length_set]; exact g.len, fun s w h => ?_, g.zero.set, fun s h => ?_, fun s h => (g.pen s h).set, fun s h => ?_⟩
  · rw [hs]
    by_cases e : M.go st c = s
    · subst e
      rw [List.getElem?_set] at h; simp [hl] at h
      subst h
      exact ⟨u1.app (.one hc), by rw [Mc.run_app, u2]; rfl, by rw [List.length_append, List.length_singleton]; omega⟩
    · rw [List.getElem?_set, if_neg e] at h
      obtain ⟨a, b, d⟩ := g.sound s w h
      exact ⟨a, b, by omega⟩
  · by_cases e : M.go st c = s
    · exact .inr (.inl (by simp [e]))
    · have h' : Fd fnd s := by obtain ⟨w, hw⟩ := h; rw [List.getElem?_set, if_neg e] at hw; exact ⟨w, hw⟩
      rcases g.closed s h' with a | a | a
      · exact .inl a
      · exact .inr (.inl (List.mem_append.mpr (.inl a)))
      · exact .inr (.inr fun d hd => (a d hd).set)
  · rcases List.mem_append.mp h with a | a
    · exact (g.lat s a).set
    · rw [List.mem_singleton.mp a]; exact hnew
theorem FI.next {st : Nat} (g : FI M fnd later (st :: pend)) (h : ∀ c ∈ M.ls, Fd fnd (M.go st c)) : FI M fnd later pend := by
  refine ⟨g.len, g.sound, g.zero, fun s hs => ?_, fun s hs => g.pen s (List.mem_cons_of_mem _ hs), g.lat⟩
  rcases g.closed s hs with a | a | a
  · rcases List.mem_cons.mp a with e | e
    · subst e; exact .inr (.inr h)
    · exact .inl e
  · exact .inr (.inl a)
  · exact .inr (.inr a)
theorem FI.turn (g : FI M fnd later []) : FI M fnd [] later :=
  ⟨g.len, g.sound, g.zero, fun s hs => by
    rcases g.closed s hs with a | a | a
    · cases a
    · exact .inl a
    · exact .inr (.inr a), g.lat, fun s h => by cases h⟩
theorem FI.all (g : FI M fnd [] []) (O : M.Min) : ∀ s, s < M.n → Fd fnd s := fun s hs => by
  obtain ⟨w, hw, rfl⟩ := O.reach s hs
  have : ∀ (w : Wd) (s : Nat), Ov M.ls w → Fd fnd s → Fd fnd (M.run s w) := fun w => by
    induction w with
    | nil => intro s _ h; exact h
    | cons c w ih =>
      intro s ho h
      rw [Mc.run_cons]
      refine ih _ ho.tl ?_
      rcases g.closed s h with a | a | a
      · cases a
      · cases a
      · exact a c ho.hd
  exact this w 0 hw g.zero
theorem FI.words (g : FI M fnd [] []) (O : M.Min) : ∃ ws : List Wd, fnd.map ov = ws.map VS ∧ ws.length = M.n ∧ ∀ s w, ws[s]? = some w → Ov M.ls w ∧ M.run 0 w = s ∧ w.length ≤ 60 := by
  refine ⟨fnd.map fun o => o.getD [], ?_, by rw [List.length_map, g.len], fun s w h => ?_⟩
  · rw [List.map_map]
    apply List.map_congr_left
    intro o ho
    obtain ⟨i, hi⟩ := List.mem_iff_getElem?.mp ho
    have hlt : i < M.n := by rw [← g.len]; exact (List.getElem?_eq_some_iff.mp hi).1
    obtain ⟨w, hw⟩ := g.all O i hlt
    rw [hi] at hw; cases hw; rfl
  · rw [List.getElem?_map] at h
    cases e : fnd[s]? with
    | none => rw [e] at h; cases h
    | some o =>
      rw [e] at h
      have hlt : s < M.n := by rw [← g.len]; exact (List.getElem?_eq_some_iff.mp e).1
      obtain ⟨w', hw'⟩ := g.all O s hlt
      rw [e] at hw'; cases hw'
      cases h
      obtain ⟨a, b, c⟩ := g.sound s _ e
      have := cnt_le (fnd := fnd); rw [g.len] at this; have := O.le
      exact ⟨a, b, Nat.le_trans (Nat.le_of_succ_le c) (by omega)⟩
end
theorem while_ix {c : TT} {tb : TS} {D : Ends} {σ : L2.St} {H : Hp} (W : Nat → L2.St → Hp → Prop) (m0 : Nat) (h0 : W m0 σ H) (hs : ∀ m σ H, W m σ H → c σ H fun b H1 => if b = true then (∃ Nx : L2.St → Hp → Prop, (∀ σ' H', Nx σ' H' → ∃ m', m' < m ∧ W m' σ' H') ∧ tb { nx := Nx, rt := D.rt, bk := D.nx, ct := Nx } σ H1) else D.nx σ H1) : tWhile c tb D σ H := ⟨W, ⟨m0, h0⟩, hs⟩
section
variable {P : Program} {w : World} {K : PySem.W.Frag} {mg : Str → Option Value} {base : Heap} {CM CA CW CG : Addr}
theorem ov_get {fnd : List (Option Wd)} {s : Nat} {o : Option Wd} (h : fnd[s]? = some o) : (fnd.map ov)[s]? = some (ov o) := by rw [List.getElem?_map, h]; rfl
theorem ixN_nat {n j : Nat} (h : j < n) : ixN n (j : Int) = some j := by
  have := atI_nat (xs := List.range n) (j := j) (v := j) (by rw [List.getElem?_range h])
  unfold atI at this
  cases e : ixN (List.range n).length (j : Int) with
  | none => rw [e] at this; cases this
  | some k =>
    rw [e] at this
    rw [List.length_range] at e
    have h2 : (List.range n)[k]? = some j := this
    rw [List.getElem?_eq_some_iff] at h2
    obtain ⟨_, h3⟩ := h2
    rw [List.getElem_range] at h3
    rw [e, h3]
def fW (M : Mc) (a p F : Addr) (H H1 : Hp) (m : Nat) (σ : L2.St) (H4 : Hp) : Prop := ∃ (fnd : List (Option Wd)) (ord : List Nat) (o : Addr) (v5 v6 v7 v8 v9 : Option V), σ = [some (.ref a), some (.ref p), some (VS M.ls), some (.ref F), some (.ref o), v5, v6, v7, v8, v9] ∧ m = 2 * (M.n - cnt fnd) + (if ord = [] then 0 else 1) ∧ FI M fnd [] ord ∧ (∀ b o, H1 b = some o → b ≠ F → H4 b = some o) ∧ Same H H4 ∧ H4 F = some (.lst (fnd.map ov)) ∧ H4 o = some (.lst (nis ord)) ∧ o ≠ F
def spFirsts (CM : Addr) : Sp := fun vs H Q _ => ∃ (a : Addr) (M : Mc), vs = [.ref a] ∧ MachAt CM H a M ∧ M.Min ∧ ∀ H' q (ws : List Wd), Same H H' → H q = none → H' q = some (.lst (ws.map VS)) → ws.length = M.n → (∀ s w, ws[s]? = some w → Ov M.ls w ∧ M.run 0 w = s ∧ w.length ≤ 60) → Q (.ref q) H'
theorem ok_firsts (T : Tx K mg CM CA CW CG) : Pr P w K mg base CX0 2 "firsts" P_firsts [] (spFirsts CM) := by
  refine T.d_firsts.pr sc_firsts (fun _ _ _ _ _ _ us hl => match us, hl with | [_], _ => rfl) (fun vs H Q E h => ?_) (fun f cdv A outer s H vs Q E hr h => ?_)
  · obtain ⟨a, M, rfl, _⟩ := h; rfl
  · obtain ⟨a, M, rfl, hM, O, q⟩ := h
    have hn60 := O.le
    refine ⟨_, (PSs.nox (pss_cons (ps_par (i := 1) (j := 2) (by rfl) sc_firsts.nd rfl rfl (by decide) rfl rfl (pa_cons (pe_methP0 (pv 0) T.clCM (ok_Machine_rows T) (hr.mono (by decide)) pass0) (pa_cons (pe_methP0 (pv 0) T.clCM (ok_Machine_letters T) (hr.mono (by decide)) pass0) pa_nil)) (by rfl))
 (pss_cons (ps_par (i := 3) (j := 4) (by rfl) sc_firsts.nd rfl rfl (by decide) rfl rfl (pa_cons (pe_lc (own := [("row", 9)]) rfl sc_firsts.nd (pi_list (pv 1)) (blkOk_by (own := [("row", 9)]) (N := N_firsts) (sc := defScope s_firsts) (by decide +kernel)) (fun _ _ _ _ _ => (pg_name (i := 9) sc_firsts.nd rfl (Or.inl rfl) (Or.inr rfl))) (fun _ _ _ _ _ => pts_nil) (fun _ _ _ _ _ => pe_non)) (pa_cons (pe_lst (pa_cons pe_int pa_nil)) pa_nil)) (by rfl))
 (pss_cons (ps_asg pe_str (pg_sub (pv 3) pe_int set_list))
 (pss_cons (ps_while PassesOwn.never (pt_cmpR (op_neD hr.units) (pv 4) (pe_lst pa_nil) (nomark _))
 (pss_cons (ps_set (i := 5) sc_firsts.nd rfl (Or.inl rfl) (pe_lst pa_nil))
 (pss_cons (ps_for PassesOwn.never rfl (pi_list (pv 4)) (pg_name (i := 6) sc_firsts.nd rfl (Or.inl rfl) (Or.inl rfl))
 (pss_one (ps_for PassesOwn.never rfl (pi_zip2 rfl T.z_zip (pa_cons (pv 2) (pa_cons (pe_ix ix_tup (pe_ix ix_list (pv 1) (pv 6) (fun _ _ => rfl)) pe_int (fun _ _ => rfl)) pa_nil))) (pg_tup rfl (pgs_cons (pg_name (i := 7) sc_firsts.nd rfl (Or.inl rfl) (Or.inl rfl)) (pgs_cons (pg_name (i := 8) sc_firsts.nd rfl (Or.inl rfl) (Or.inl rfl)) pgs_nil)))
 (pss_one (ps_if (pt_cmpR op_isN (pe_ix ix_list (pv 3) (pv 8) (fun _ _ => rfl)) pe_non (nomark _))
 (pss_cons (ps_asg (pe_op op_add_str (pe_ix ix_list (pv 3) (pv 6) (fun _ _ => rfl)) (pv 7)) (pg_sub (pv 3) (pv 8) set_list))
 (pss_one (ps_expr (pe_bm PySem.F.plainAttrs_list PySem.F.slot_list_append PySem.F.type_list_append mt_append (pv 5) (pa_cons (pv 8) pa_nil)))))
 pss_nil)))))
 (pss_one (ps_set (i := 4) sc_firsts.nd rfl (Or.inl rfl) (pv 5))))))
 (pss_one (ps_ret (pv 3)))))))), ?_⟩
    obtain ⟨dx, p0, h1, _⟩ := id hM
    refine ⟨_, rfl, a, dx, _, rfl, h1, fM_no _ _ (by decide +kernel) (by decide +kernel), a, M, rfl, hM, fun H1 p e1 np hat => ?_⟩
    refine ⟨_, rfl, a, dx, _, rfl, e1 _ _ h1, fM_no _ _ (by decide +kernel) (by decide +kernel), a, M, rfl, hM.sol (.of e1), ⟨_, _, rfl, ?_⟩⟩
    obtain ⟨as, hp, hrs⟩ := hat
    have hln : (as.map V.ref).length = M.n := by rw [List.length_map, hrs.1]; rfl
    refine ⟨_, rfl, _, rfl, ⟨_, .of hp⟩, fun F hF => lc_map (walk_list (xs := as.map V.ref)) (Same H1) (fun _ => .non) (by rw [hln]; exact sl (by omega)) (same_new hF) (fun i H3 hi r hD2 => .of (r _ _ hp)) (fun H3 xs ys r _ => same_mut r hF) (fun i x H3 H' Q' hi r1 hD2 ⟨e3, hx⟩ k => ?_) (fun H2 r2 hF2 => ?_)⟩
    · subst e3; exact ⟨rfl, k _ hD2 r1⟩
    · have hF0 : H F = none := e1.free hF
      have nFp : F ≠ p := (ne_of_none hp hF).symm
      have htab : tab (fun _ => V.non) (as.map V.ref).length = (List.replicate M.n (none : Option Wd)).map ov := by
        rw [hln]; refine tab_eq (by simp) fun i x hx => ?_
        rw [List.getElem?_map] at hx
        cases e : (List.replicate M.n (none : Option Wd))[i]? with
        | none => rw [e] at hx; cases hx
        | some o => rw [e] at hx; rw [List.eq_of_mem_replicate (List.mem_of_getElem? e)] at hx; exact Option.some.inj hx
      rw [htab] at hF2
      refine ⟨by show 1 ≤ 2 ^ 24; decide, fun O1 hO => ⟨_, _, rfl, ?_⟩⟩
      have nFO : F ≠ O1 := ne_of_none hF2 hO
      have e3 : Same H2 (upd H2 O1 (.lst [.int 0])) := same_new hO
      have hO3 : upd H2 O1 (.lst [.int 0]) O1 = some (.lst (nis [0])) := upd_same
      have hF3 := e3 _ _ hF2
      have hO0 : H O1 = none := e1.free (r2.free hO)
      generalize upd H2 O1 (.lst [.int 0]) = H3 at e3 hO3 hF3
      have r3 : Same H1 H3 := fun b o z => e3 b o (r2 b o z)
      have hpos := O.pos
      have hzl : ((List.replicate M.n (none : Option Wd)).map ov).length = M.n := by simp
      refine ⟨_, rfl, F, _, _, 0, rfl, rfl, hF3, by rw [hzl]; exact ixN_nat hpos, ?_⟩
      have hset : ((List.replicate M.n (none : Option Wd)).map ov).set 0 (.str "") = ((List.replicate M.n (none : Option Wd)).set 0 (some [])).map ov := by rw [List.map_set]; rfl
      rw [hset]
      have hn0 : (List.replicate M.n (none : Option Wd))[0]? = some none := by rw [List.getElem?_replicate, if_pos (show 0 < M.n from hpos)]
      have hsz := cnt_set (x := []) hn0
      have g0 : FI M ((List.replicate M.n (none : Option Wd)).set 0 (some [])) [] [0] := by
        have only : ∀ s w, ((List.replicate M.n (none : Option Wd)).set 0 (some []))[s]? = some (some w) → s = 0 ∧ w = [] := fun s w h => by
          rw [List.getElem?_set] at h
          by_cases e : 0 = s
          · subst e; rw [if_pos rfl, if_pos (by simpa using (show 0 < M.n from hpos))] at h; cases h; exact ⟨rfl, rfl⟩
          · rw [if_neg e, List.getElem?_replicate] at h
            by_cases e2 : s < M.n
            · rw [if_pos e2] at h; cases h
            · rw [if_neg e2] at h; cases h
        have z : Fd ((List.replicate M.n (none : Option Wd)).set 0 (some [])) 0 := ⟨[], by rw [List.getElem?_set, if_pos rfl, if_pos (by simpa using (show 0 < M.n from hpos))]⟩
        refine ⟨by simp, fun s w h => ?_, z, fun s h => ?_, fun s h => ?_, fun s h => by cases h⟩
        · obtain ⟨rfl, rfl⟩ := only s w h
          exact ⟨.nil, rfl, by rw [hsz]; simp⟩
        · obtain ⟨w, hw⟩ := h; obtain ⟨rfl, _⟩ := only s w hw; exact .inl (by simp)
        · rw [List.mem_singleton.mp h]; exact z
      refine while_ix (fW M a p F H H1) _
        ⟨_, [0], O1, _, _, _, _, _, rfl, rfl, g0, fun b o z n => by rw [upd_ne n]; exact r3 b o z, same_mut (fun b o z => r3 b o (e1 b o z)) hF0, upd_same, by rw [upd_ne nFO.symm]; exact hO3, nFO.symm⟩ ?_
      rintro m σ H4 ⟨fnd, ord, o, v5, v6, v7, v8, v9, rfl, hm, g, r4, rH, hF4, ho4, noF⟩
      have hp4 := r4 _ _ hp nFp.symm
      have hrs4 : RowsIn H4 as M.rows := ⟨hrs.1, fun i a1 r1 h1 h2 => by
        obtain ⟨t, t1, t2⟩ := hrs.2 i a1 r1 h1 h2
        exact ⟨t, r4 _ _ t1 (ne_of_none t1 hF), r4 _ _ t2 (ne_of_none t2 hF)⟩⟩
      have hcn : cnt fnd ≤ M.n := by have := cnt_le (fnd := fnd); rw [g.len] at this; exact this
      refine ⟨_, rfl, by show 0 ≤ 2 ^ 24; decide, fun E1 hE1 => ne_nil (.of ((same_new hE1) _ _ ho4)) (dp_nis ord) (okd_its ord) (by omega) (.of upd_same) ⟨_, rfl, ?_⟩⟩
      have e5 : Same H4 (upd H4 E1 (.lst [])) := same_new hE1
      generalize upd H4 E1 (.lst []) = H5 at e5
      cases ord with
      | nil =>
        obtain ⟨ws, hw1, hw2, hw3⟩ := g.words O
        have hF5 := e5 _ _ hF4
        rw [hw1] at hF5
        exact ⟨_, rfl, q _ F ws (fun b o z => e5 b o (rH b o z)) hF0 hF5 hw2 hw3⟩
      | cons st0 ord0 =>
        refine ⟨fun σ' H' => ∃ m', m' < m ∧ fW M a p F H H1 m' σ' H', fun _ _ h => h, ?_⟩
        have r5 : ∀ b o, H1 b = some o → b ≠ F → H5 b = some o := fun b o z n => e5 b o (r4 b o z n)
        have hF5 := e5 _ _ hF4
        have ho5 := e5 _ _ ho4
        refine ⟨by show 0 ≤ 2 ^ 24; decide, fun L hL => ?_⟩
        have nLF : L ≠ F := (ne_of_none hF5 hL).symm
        have nLo : L ≠ o := (ne_of_none ho5 hL).symm
        have hL0 : H L = none := rH.free (e5.free hL)
        have hL1 : H1 L = none := by
          cases z : H1 L with
          | none => rfl
          | some ob => rw [r5 L ob z nLF] at hL; cases hL
        have e6 : Same H5 (upd H5 L (.lst [])) := same_new hL
        have hL6 : upd H5 L (.lst []) L = some (.lst []) := upd_same
        generalize upd H5 L (.lst []) = H6 at e6 hL6
        refine ⟨_, rfl, _, rfl, ⟨_, .of (e6 _ _ ho5)⟩, for_list (K := K) (a := o) (xs := nis (st0 :: ord0)) (fun i σ H7 => ∃ (fnd2 : List (Option Wd)) (later : List Nat) (v6 v7 v8 v9 : Option V), σ = [some (.ref a), some (.ref p), some (VS M.ls), some (.ref F), some (.ref o), some (.ref L), v6, v7, v8, v9] ∧ FI M fnd2 later ((st0 :: ord0).drop i) ∧ cnt fnd2 = cnt fnd + later.length ∧ (∀ b o, H1 b = some o → b ≠ F → H7 b = some o) ∧ Same H H7 ∧ H7 F = some (.lst (fnd2.map ov)) ∧ H7 o = some (.lst (nis (st0 :: ord0))) ∧ H7 L = some (.lst (nis later)))
          ⟨fnd, [], _, _, _, _, rfl, g, rfl, fun b o z n => e6 b o (r5 b o z n), fun b o z => e6 b o (e5 b o (rH b o z)), e6 _ _ hF5, e6 _ _ ho5, hL6⟩ (fun i σ H7 _ h => by obtain ⟨_, _, _, _, _, _, _, _, _, _, _, _, ho7, _⟩ := h; exact .of ho7) ?_ ?_⟩
        · rintro i x σ H7 hx ⟨fnd2, later, v6, v7, v8, v9, rfl, g2, hc2, r7, rH7, hF7, ho7, hL7⟩
          obtain ⟨st, hst, rfl⟩ := nis_inv hx
          have hdrop : (st0 :: ord0).drop i = st :: (st0 :: ord0).drop (i + 1) := by
            obtain ⟨hl, e⟩ := List.getElem?_eq_some_iff.mp hst
            rw [List.drop_eq_getElem_cons hl, e]
          rw [hdrop] at g2
          have hFd : Fd fnd2 st := g2.pen st List.mem_cons_self
          have hstN : st < M.n := g2.lt hFd
          obtain ⟨ro, hro, _, f2, hwid, hins⟩ := O.row hstN
          obtain ⟨a0, ha0, t0, ht1, ht2⟩ := hrs.get hro
          have kp : ∀ (Hx : Hp), (∀ b o, H1 b = some o → b ≠ F → Hx b = some o) → Hx p = some (.lst (as.map .ref)) ∧ Hx a0 = some (.tup [.bl ro.1, .ref t0]) ∧ Hx t0 = some (.tup (nis ro.2)) := fun Hx hx => ⟨hx _ _ hp nFp.symm, hx _ _ ht1 (ne_of_none ht1 hF), hx _ _ ht2 (ne_of_none ht2 hF)⟩
          obtain ⟨k1, k2, k3⟩ := kp H7 r7
          refine ⟨_, rfl, _, rfl, _, rfl, p, _, _, _, rfl, rfl, .of k1, atI_nat (refs_get ha0), _, _, 1, _, rfl, rfl, .inl (.inl k2), rfl, .txt (S M.ls), .tup t0, _, _, rfl, rfl, .inl (.inl k3), ?_⟩
          refine for_it (walk_zip2 (c := .txt (S M.ls)) (d := .tup t0) (xs := sgn (S M.ls)) (ys := nis ro.2)) (fun k σ H8 => ∃ (fnd3 : List (Option Wd)) (later : List Nat) (v7 v8 v9 : Option V), σ = [some (.ref a), some (.ref p), some (VS M.ls), some (.ref F), some (.ref o), some (.ref L), some (vi st), v7, v8, v9] ∧ FI M fnd3 later (st :: (st0 :: ord0).drop (i + 1)) ∧ cnt fnd3 = cnt fnd + later.length ∧ (∀ j c, j < k → M.ls[j]? = some c → Fd fnd3 (M.go st c)) ∧ (∀ b o, H1 b = some o → b ≠ F → H8 b = some o) ∧ Same H H8 ∧ H8 F = some (.lst (fnd3.map ov)) ∧ H8 o = some (.lst (nis (st0 :: ord0))) ∧ H8 L = some (.lst (nis later)))
            ⟨fnd2, later, v7, v8, v9, rfl, g2, hc2, fun j c h => absurd h (Nat.not_lt_zero _), r7, rH7, hF7, ho7, hL7⟩ (fun k σ H8 _ h => ?_) (fun k x σ H8 H8' hk h hY => ?_) (fun σ H8 h => ?_)
          · obtain ⟨_, _, _, _, _, _, _, _, _, r8, _⟩ := h
            exact ⟨rfl, .inl (.inl (kp _ r8).2.2)⟩
          · obtain ⟨fnd3, later3, v7, v8, v9, rfl, g3, hc3, hsucc, r8, rH8, hF8, ho8, hL8⟩ := h
            obtain ⟨T1, x1, y1, rfl, hT, rfl, hx, hy⟩ := hY
            dsimp only at hx hy
            rw [sgn_S] at hx
            obtain ⟨c, hc, rfl⟩ : ∃ c, M.ls[k]? = some c ∧ x1 = VS [c] := by
              rw [List.getElem?_map] at hx
              cases e : M.ls[k]? with
              | none => rw [e] at hx; cases hx
              | some c => rw [e] at hx; exact ⟨c, rfl, (Option.some.inj hx).symm⟩
            obtain ⟨to, hto, rfl⟩ := nis_inv hy
            have hcl := List.mem_of_getElem? hc
            have hto2 : to = M.go st c := by
              have := O.tos_get hstN hc
              rw [← f2, hto] at this; exact Option.some.inj this
            subst hto2
            have htoN := O.go_lt st c
            have e9 : Same H8 (upd H8 T1 (.tup [VS [c], vi (M.go st c)])) := same_new hT
            have hT9 : upd H8 T1 (.tup [VS [c], vi (M.go st c)]) T1 = some (.tup [VS [c], vi (M.go st c)]) := upd_same
            generalize upd H8 T1 (.tup [VS [c], vi (M.go st c)]) = H9 at e9 hT9
            have hF9 := e9 _ _ hF8
            have hL9 := e9 _ _ hL8
            have ho9 := e9 _ _ ho8
            have r9 : ∀ b o, H1 b = some o → b ≠ F → H9 b = some o := fun b o z n => e9 b o (r8 b o z n)
            have rH9 : Same H H9 := fun b o z => e9 b o (rH8 b o z)
            have hg : ∃ ob, fnd3[M.go st c]? = some ob := ⟨_, List.getElem?_eq_getElem (by rw [g3.len]; exact htoN)⟩
            obtain ⟨ob, hob⟩ := hg
            refine ⟨T1, _, rfl, .inl (.inl hT9), rfl, _, _, rfl, _, _, rfl, rfl, _, rfl, _, rfl, F, _, _, _, rfl, rfl, .of hF9, atI_nat (ov_get hob), rfl, _, rfl, ?_⟩
            cases ob with
            | some w0 =>
              refine ⟨fnd3, later3, _, _, _, rfl, g3, hc3, fun j d hj hd => ?_, r9, rH9, hF9, ho9, hL9⟩
              by_cases hjk : j < k
              · exact hsucc j d hjk hd
              · obtain rfl : j = k := by omega
                rw [hc] at hd; cases hd
                exact ⟨w0, hob⟩
            | none =>
              obtain ⟨u, hu⟩ := g3.pen st List.mem_cons_self
              obtain ⟨u1, u2, u3⟩ := g3.sound st u hu
              have hcn3 : cnt fnd3 ≤ M.n := by have := cnt_le (fnd := fnd3); rw [g3.len] at this; exact this
              have hcs := cnt_set (x := u ++ [c]) hob
              refine ⟨_, rfl, _, rfl, F, _, _, _, rfl, rfl, .of hF9, atI_nat (ov_get hu), _, rfl, _, _, rfl, rfl, by rw [S_len]; show _ + 1 ≤ 2 ^ 24; omega, ?_⟩
              refine ⟨_, rfl, _, rfl, F, _, _, M.go st c, rfl, rfl, hF9, by rw [List.length_map, g3.len]; exact ixN_nat htoN, ?_⟩
              have hset : (fnd3.map ov).set (M.go st c) (.str (S u ++ S [c])) = (fnd3.set (M.go st c) (some (u ++ [c]))).map ov := by
                rw [List.map_set]; congr 1; show V.str (S u ++ S [c]) = VS (u ++ [c]); rw [S_app]
              rw [hset]
              have hL10 : upd H9 F (.lst ((fnd3.set (M.go st c) (some (u ++ [c]))).map ov)) L = some (.lst (nis later3)) := by rw [upd_ne nLF]; exact hL9
              have hlat : later3.length ≤ 60 := by omega
              refine ⟨_, rfl, .inl ⟨rfl, _, .of hL10⟩, _, rfl, _, _, _, rfl, rfl, hL10, by rw [nis_len]; exact slt (by omega), ?_⟩
              refine ⟨_, later3 ++ [M.go st c], _, _, _, rfl, g3.new hu hcl hob, by rw [hcs, List.length_append, List.length_singleton]; omega, fun j d hj hd => ?_, fun b o z n => ?_, same_mut (same_mut rH9 hF0) hL0, ?_, ?_, ?_⟩
              · by_cases hjk : j < k
                · exact (hsucc j d hjk hd).set
                · obtain rfl : j = k := by omega
                  rw [hc] at hd; cases hd
                  exact ⟨u ++ [c], by rw [List.getElem?_set, if_pos rfl, if_pos (by rw [g3.len]; exact htoN)]⟩
              · rw [upd_ne (ne_of_none z hL1), upd_ne n]; exact r9 b o z n
              · rw [upd_ne nLF.symm]; exact upd_same
              · rw [upd_ne nLo.symm, upd_ne noF]; exact ho9
              · rw [upd_same]; simp [nis]
          · obtain ⟨fnd3, later3, v7, v8, v9, rfl, g3, hc3, hsucc, r8, rH8, hF8, ho8, hL8⟩ := h
            refine ⟨fnd3, later3, _, _, _, _, rfl, g3.next fun c hc => ?_, hc3, r8, rH8, hF8, ho8, hL8⟩
            obtain ⟨j, hj⟩ := List.mem_iff_getElem?.mp hc
            refine hsucc j c ?_ hj
            rw [sgn_S, List.length_map, nis_len, hwid, Nat.min_self]
            exact (List.getElem?_eq_some_iff.mp hj).1
        · rintro σ H7 ⟨fnd2, later, v6, v7, v8, v9, rfl, g2, hc2, r7, rH7, hF7, ho7, hL7⟩
          rw [nis_len, List.drop_length] at g2
          have hcn2 : cnt fnd2 ≤ M.n := by have := cnt_le (fnd := fnd2); rw [g2.len] at this; exact this
          refine ⟨_, rfl, _, ?_, fnd2, later, L, _, _, _, _, _, rfl, rfl, g2.turn, r7, rH7, hF7, hL7, nLF⟩
          have hm' : m = 2 * (M.n - cnt fnd) + 1 := by rw [hm, if_neg (by simp)]
          rw [hm']
          cases later with
          | nil => rw [if_pos rfl]; rw [List.length_nil] at hc2; omega
          | cons b l => rw [if_neg (by simp)]; rw [List.length_cons] at hc2; omega
end
end Sw
/-! The defs that make closures: where their code objects and tables stand. -/
namespace Sw
open PySem PySem.Spec PyProof.Rows L2 LamX NdefX
/-- code object and table of each -/
structure Cds where
  lst : Addr × Addr
  wlk : Addr × Addr
  abt : Addr × Addr
  lft : Addr × Addr
  rnd : Addr × Addr
  ten : Addr × Addr
  prt : Addr × Addr
  fal : Addr × Addr
def nmLam (q : Str) : Nat → Nat → Str := fun _ _ => q ++ (".<locals>." : Str) ++ ("<lambda>" : Str)
def nmLst : Nat → Nat → Str := fun l _ => ("least" : Str) ++ (".<locals>." : Str) ++ (if l = 132 then ("step" : Str) else ("ends" : Str))
def Tb (D : Cds) : List NTab := [(D.lst.2, nmLst), (D.wlk.2, nmLam "walked"), (D.abt.2, nmLam "all_but"), (D.lft.2, nmLam "left_behind"), (D.rnd.2, nmLam "Walks.round_of"), (D.ten.2, nmLam "Walks.to_end"), (D.prt.2, nmLam "Walks.parting"), (D.fal.2, nmLam "falling_swing")]
structure Ty (K : PySem.W.Frag) (mg : Str → Option Value) (base : Heap) (CW : Addr) (D : Cds) : Prop where
  lst : DefC K mg base "least" s_least D.lst.1 D.lst.2
  wlk : DefC K mg base "walked" s_walked D.wlk.1 D.wlk.2
  abt : DefC K mg base "all_but" s_all_but D.abt.1 D.abt.2
  lft : DefC K mg base "left_behind" s_left_behind D.lft.1 D.lft.2
  rnd : MetC K mg base CW "round_of" "Walks.round_of" s_Walks_round_of D.rnd.1 D.rnd.2
  ten : MetC K mg base CW "to_end" "Walks.to_end" s_Walks_to_end D.ten.1 D.ten.2
  prt : MetC K mg base CW "parting" "Walks.parting" s_Walks_parting D.prt.1 D.prt.2
  fal : DefC K mg base "falling_swing" s_falling_swing D.fal.1 D.fal.2
  nd : ((Tb D).map (·.1)).Nodup
theorem nd_fst {T : List NTab} (h : (T.map (·.1)).Nodup) {p q : NTab} (hp : p ∈ T) (hq : q ∈ T) (e : p.1 = q.1) : p = q := by
  induction T with
  | nil => cases hp
  | cons a T ih =>
    rw [List.map_cons, List.nodup_cons] at h
    rcases List.mem_cons.mp hp with h1 | h1 <;> rcases List.mem_cons.mp hq with h2 | h2
    · rw [h1, h2]
    · subst h1; exact absurd (List.mem_map.mpr ⟨q, h2, e.symm⟩) h.1
    · subst h2; exact absurd (List.mem_map.mpr ⟨p, h1, e⟩) h.1
    · exact ih h.2 h1 h2
theorem Ty.hu {K : PySem.W.Frag} {mg : Str → Option Value} {base : Heap} {CW : Addr} {D : Cds} (Y : Ty K mg base CW D) {P : Addr} {nm : Nat → Nat → Str} (h : (P, nm) ∈ Tb D) : ∀ p ∈ Tb D, p.1 = P → p.2 = nm := fun p hp e => by
  have := nd_fst Y.nd hp h e
  rw [this]
section
variable {T : List NTab} {cl cells : List (Str × Addr)} {fr fr2 : List Str} {ws ws2 : List V} {H H' H1 Hl : Hp}
theorem Lent.told2 (L : Lent cells fr ws H Hl) (ok : CloOk cl cells fr2) (hl : ws2.length = fr2.length) (hsub : ∀ (i : Nat) y v, fr2[i]? = some y → ws2[i]? = some v → ∃ j : Nat, fr[j]? = some y ∧ ws[j]? = some v) : Told cl fr2 ws2 Hl := ⟨hl, fun i y v h1 h2 => by
  obtain ⟨j, a1, a2⟩ := hsub i y v h1 h2
  obtain ⟨c, o, e1, e2⟩ := L.at_ j y v a1 a2
  obtain ⟨c', e3, e4⟩ := ok.has y (List.mem_of_getElem? h1)
  rw [e1] at e3; cases e3
  exact ⟨c, o, e4, e2⟩⟩
theorem told_cells2 {P : Program} {w : World} {h : Heap} (t : Told cl fr ws H) : ∀ c ∈ cellsFor cl fr, ∃ o v, H c = some (CellF c o v) := by
  intro c hc
  obtain ⟨y, hy, e⟩ := List.mem_filterMap.mp hc
  obtain ⟨i, hi⟩ := List.mem_iff_getElem?.mp hy
  have hlt : i < ws.length := by rw [t.1]; exact (List.getElem?_eq_some_iff.mp hi).1
  obtain ⟨c', o, e1, e2⟩ := t.2 i y _ hi (List.getElem?_eq_getElem hlt)
  rw [e] at e1; cases e1
  exact ⟨o, _, e2⟩
end
section
variable {X : Cx} {k : Nat} {x : Str} {ps : List Str} {dvs : List V} {sp : Sp} {p pos : Pos} {e : Expr} {es : List Expr} {t : TA}
theorem pe_callDP (fr : List Str) (js : List Nat) (sc : Scope) (h : Pr X.prog X.w X.K X.mg X.base CX0 k x ps dvs sp) (hr : Room k X.A) (hg : Gl X x) (hsc : X.env.scope = sc) (hk : ∀ y ∈ fr, sc.names.lookup y = some .cell) (hfn : ∀ y ∈ fr, X.fn y = true) (hjs : js.map (fun j => X.N[j]?) = fr.map some)
    (ha : PA X (e :: es) t) (hd : (x == ("__debug__" : Str)) = false := by decide +kernel) (he : starEach (e :: es) X.env = (false, eval e X.env) :: starEach es X.env := by rfl) (hpl : (backTo pos (starEach es X.env)).any (·.1) = false := by rfl) :
    PE X (.Call (.Name x p) (e :: es) [] pos) (tCallD X.env.cells fr js sp dvs t) := by
  obtain ⟨f, fd, ds, g, kp, b, v, G⟩ := h.ex
  exact pe_callD fr js G hr hg g kp b v (by rw [hsc]; exact hk) hfn hjs ha hd he hpl
variable {C : Addr} {m : Str} {apos : Pos} {o : Expr} {ta : TE}
theorem pe_methDP {pl : Sem Bool} (fr : List Str) (js : List Nat) (sc : Scope) (ho : PE X o ta) (c : Cls X.K C) (h : Pm X.prog X.w X.K X.mg X.base CX0 k C m ps dvs sp) (hr : Room k X.A) (hsc : X.env.scope = sc) (hk : ∀ y ∈ fr, sc.names.lookup y = some .cell) (hfn : ∀ y ∈ fr, X.fn y = true) (hjs : js.map (fun j => X.N[j]?) = fr.map some)
    (ha : PA X (e :: es) t) (he : starEach (e :: es) X.env = (false, eval e X.env) :: starEach es X.env := by rfl) (hpl : (backTo pos (starEach es X.env)).any (·.1) = false := by rfl)
    (ht : eval (.Call (.Attribute o m apos) (e :: es) [] pos) X.env = (do
      let ov ← eval o X.env
      standAt apos.atName
      let (f, first) ← holding [ov] (getMethod ov m pl)
      callWith pos f first (backTo pos (starEach (e :: es) X.env)) (backToKw pos (keywordEach [] X.env))) := by rfl) :
    PE X (.Call (.Attribute o m apos) (e :: es) [] pos) (tMethD X.env.cells fr js C m sp dvs ta t) := by
  obtain ⟨f, fd, ds, g, b, v, G⟩ := h.ex
  exact pe_methD fr js ho c g G hr b v (by rw [hsc]; exact hk) hfn hjs ha he hpl ht
end
theorem gr_ext {T : List NTab} {H H' : Hp} (g : Gr T H H') : ExtN H H' := g.ext
theorem gr_new {T : List NTab} {H H' : Hp} {p : Addr} {o : HO} (g : Gr T H H') (h : H' p = none) : Gr T H (upd H' p o) := g.trans (.of (same_new h))
theorem gr_mut {T : List NTab} {H H' : Hp} {p : Addr} {o o1 : HO} (g : Gr T H H') (h : H p = none) (hp : H' p = some o1) (hne : ∀ c q, o1 ≠ CodeO c q) : Gr T H (upd H' p o) := by
  refine ⟨fun b ob e n => ?_, fun t q hq => ?_⟩
  · rw [upd_ne (ne_of_none e h)]; exact g.ext b ob e n
  · obtain ⟨ps, h1, h2, h3⟩ := t q hq
    obtain ⟨ps', a1, a2, a3⟩ := g.tab t q hq
    refine ⟨ps', by rw [upd_ne (ne_of_none h1 h)]; exact a1, a2, fun p' cv hcv => ?_⟩
    obtain ⟨c, e1, e2⟩ := a3 p' cv hcv
    refine ⟨c, e1, ?_⟩
    rw [upd_ne fun z => ?_]
    · exact e2
    · rw [z, hp] at e2; exact hne _ _ (Option.some.inj e2)
theorem lst_ne {xs : List V} : ∀ c q, HO.lst xs ≠ CodeO c q := fun c q e => by unfold CodeO at e; cases e
theorem dk_ne {xs : List (Key × V)} : ∀ c q, HO.dK xs ≠ CodeO c q := fun c q e => by unfold CodeO at e; cases e
theorem dt_ne {xs : List (List Key × V)} : ∀ c q, HO.dT xs ≠ CodeO c q := fun c q e => by unfold CodeO at e; cases e
end Sw
/-! least. -/
namespace Sw
open PySem PySem.Spec PyProof.Rows L2 LamX NdefX
section
variable {P : Program} {w : World} {K : PySem.W.Frag} {mg : Str → Option Value} {base : Heap} {CM CA CW CG : Addr} {D : Cds}
abbrev s_least_step : Stmt := (defBody s_least).getD 1 (.Pass ⟨0, 0, 0, 0⟩)
abbrev s_least_ends : Stmt := (defBody s_least).getD 2 (.Pass ⟨0, 0, 0, 0⟩)
theorem ns_step : NScope ["stand", "letter", "letters", "rows"] ["stand", "letter"] ["letters", "rows"] (defScope s_least_step) := ⟨rfl, rfl, rfl, by decide +kernel, rfl, by decide +kernel, by decide +kernel, by decide +kernel, by decide +kernel⟩
theorem ns_ends : NScope ["stand", "rows"] ["stand"] ["rows"] (defScope s_least_ends) := ⟨rfl, rfl, rfl, by decide +kernel, rfl, by decide +kernel, by decide +kernel, by decide +kernel, by decide +kernel⟩
def swStep : List (Option V) → Sp := fun ws vs H Q _ => ∃ (p : Addr) (M : Mc) (s c : Nat), ws = [some (VS M.ls), some (.ref p)] ∧ vs = [vi s, VS [c]] ∧ RowsAt H p M.rows ∧ M.Ok ∧ s < M.n ∧ c ∈ M.ls ∧ Q (vi (M.go s c)) H
def swEnds : List (Option V) → Sp := fun ws vs H Q _ => ∃ (p : Addr) (M : Mc) (s : Nat), ws = [some (.ref p)] ∧ vs = [vi s] ∧ RowsAt H p M.rows ∧ M.Ok ∧ s < M.n ∧ Q (.bl (M.fin s)) H
theorem nok_step {f : Addr} {F : NF} (h1 : F.scope = defScope s_least_step) (h2 : F.params = defArgs s_least_step) (h3 : F.body = defBody s_least_step) : NOk P w K mg base CX0 1 f F ["stand", "letter"] ["letters", "rows"] swStep := by
  obtain ⟨nm, qu, pa, bo, sc, cl, c⟩ := F
  subst h1; subst h2; subst h3
  refine nok_of ns_step (fun doc pm ctv us hl => match us, hl with | [_, _], _ => rfl) (fun ws vs H Q E h => ?_) (fun A outer s H vs ws Q E hr _ _ _ h => ?_)
  · obtain ⟨p, M, st, c, _, rfl, _⟩ := h; rfl
  · obtain ⟨p, M, st, c, rfl, rfl, ⟨as, hp, hrs⟩, O, hst, hc, q⟩ := h
    obtain ⟨ro, hro, _, f2, hw, _⟩ := O.row hst
    obtain ⟨a0, ha0, t0, ht1, ht2⟩ := hrs.get hro
    obtain ⟨rest, ho⟩ := occ_idx hc
    have hk : (nis ro.2)[M.ls.idxOf c]? = some (vi (M.go st c)) := nis_get (by rw [f2]; exact O.tos_get hst (O.idx hc))
    refine ⟨_, (PSs.nox (pss_one (ps_ret (pe_ix ix_tup (pe_ix ix_tup (pe_ix ix_list (pv 3) (pv 0) (fun _ _ => rfl)) pe_int (fun _ _ => rfl)) (pe_bm PySem.F.plainAttrs_str PySem.F.slot_str_index PySem.F.type_str_index mt_sindex (pv 2) (pa_cons (pv 1) pa_nil)) (fun _ _ => rfl))))), ?_⟩
    exact ⟨_, rfl, _, rfl, p, _, _, _, rfl, rfl, .of hp, atI_nat (refs_get ha0), _, _, 1, _, rfl, rfl, .inl (.inl ht1), rfl, _, rfl, rfl, _, rfl, _, _, _, _, rfl, rfl, ho, _, _, _, _, rfl, rfl, .inl (.inl ht2), atI_nat hk, q⟩
theorem nok_ends {f : Addr} {F : NF} (h1 : F.scope = defScope s_least_ends) (h2 : F.params = defArgs s_least_ends) (h3 : F.body = defBody s_least_ends) : NOk P w K mg base CX0 1 f F ["stand"] ["rows"] swEnds := by
  obtain ⟨nm, qu, pa, bo, sc, cl, c⟩ := F
  subst h1; subst h2; subst h3
  refine nok_of ns_ends (fun doc pm ctv us hl => match us, hl with | [_], _ => rfl) (fun ws vs H Q E h => ?_) (fun A outer s H vs ws Q E hr _ _ _ h => ?_)
  · obtain ⟨p, M, st, _, rfl, _⟩ := h; rfl
  · obtain ⟨p, M, st, rfl, rfl, ⟨as, hp, hrs⟩, O, hst, q⟩ := h
    obtain ⟨ro, hro, f1, f2, hw, _⟩ := O.row hst
    obtain ⟨a0, ha0, t0, ht1, ht2⟩ := hrs.get hro
    refine ⟨_, (PSs.nox (pss_one (ps_ret (pe_ix ix_tup (pe_ix ix_list (pv 1) (pv 0) (fun _ _ => rfl)) pe_int (fun _ _ => rfl))))), ?_⟩
    exact ⟨_, rfl, _, rfl, p, _, _, _, rfl, rfl, .of hp, atI_nat (refs_get ha0), _, _, 0, _, rfl, rfl, .inl (.inl ht1), rfl, by rw [f1]; exact q⟩
def spLeast (CM : Addr) (D : Cds) : Sp := fun vs H Q _ => ∃ (a : Addr) (M : Mc), vs = [.ref a] ∧ TabsN (Tb D) H ∧ MachAt CM H a M ∧ M.Ok ∧ ∀ H' b M', M'.Min → M'.ls = M.ls → M'.n ≤ M.n → (∀ u, Ov M.ls u → M'.lang u = M.lang u) → Gr (Tb D) H H' → MachAt CM H' b M' → Q (.ref b) H'
theorem ok_least (T : Tx K mg CM CA CW CG) (Y : Ty K mg base CW D) : Pr P w K mg base CX0 6 "least" P_least [] (spLeast CM D) := by
  refine Y.lst.pr sc_least (fun _ _ _ _ _ _ us hl => match us, hl with | [_], _ => rfl) (fun vs H Q E h => ?_) (fun TB f A outer s H vs Q E hr h => ?_)
  · obtain ⟨a, M, rfl, _⟩ := h; rfl
  · obtain ⟨a, M, rfl, hT, hM, O, q⟩ := h
    have m1 : (D.lst.2, nmLst) ∈ Tb D := .head _
    refine ⟨_, (PSs.nox (pss_cons (ps_asg (pe_tup (pa_cons (pe_methP0 (pv 0) T.clCM (ok_Machine_rows T) (hr.mono (by decide)) pass0) (pa_cons (pe_methP0 (pv 0) T.clCM (ok_Machine_letters T) (hr.mono (by decide)) pass0) pa_nil))) (pg_tup rfl (pgs_cons (pg_name (i := 4) sc_least.nd rfl (Or.inr rfl) (Or.inl rfl)) (pgs_cons (pg_name (i := 3) sc_least.nd rfl (Or.inr rfl) (Or.inl rfl)) pgs_nil))))
 (pss_cons (ps_ndefC (T := Tb D) (i := 1) ["letters", "rows"] TB rfl m1 rfl (Y.hu m1) (by kernel_rfl) sc_least.nd rfl (Or.inl rfl) (Or.inl rfl))
 (pss_cons (ps_ndefC (T := Tb D) (i := 2) ["rows"] TB rfl m1 rfl (Y.hu m1) (by kernel_rfl) sc_least.nd rfl (Or.inl rfl) (Or.inl rfl))
 (pss_one (ps_ret (pe_callDP ["letters", "rows"] [3, 4] (defScope s_least) (ok_built T) (hr.mono (by decide)) rfl rfl (by decide +kernel) (fun _ _ => rfl) rfl (pa_cons (pv 3) (pa_cons pe_int (pa_cons (pv 1) (pa_cons (pv 2) pa_nil))))))))))), ?_⟩
    obtain ⟨dx, p0, h1, _⟩ := id hM
    refine ⟨_, rfl, a, dx, _, rfl, h1, fM_no _ _ (by decide +kernel) (by decide +kernel), a, M, rfl, hM, fun H1 p e1 np hat => ?_⟩
    refine ⟨_, rfl, a, dx, _, rfl, e1 _ _ h1, fM_no _ _ (by decide +kernel) (by decide +kernel), a, M, rfl, hM.sol (.of e1), ⟨by show 2 ≤ 2 ^ 24; decide, fun t ht => ⟨t, _, rfl, .inl (.inl upd_same), rfl, _, _, rfl, _, _, rfl, rfl, ?_⟩⟩⟩
    have e2 : Same H1 (upd H1 t (.tup [.ref p, VS M.ls])) := same_new ht
    generalize upd H1 t (.tup [.ref p, VS M.ls]) = H2 at e2
    have r2 : Same H H2 := fun b o z => e2 b o (e1 b o z)
    have hT2 : TabsN (Tb D) H2 := hT.ext r2
    refine ⟨hT2, fun f1 c1 H3 g3 nf1 ok1 hf1 hc1 => ?_⟩
    refine ⟨g3.tab hT2, fun f2 c2 H4 g4 nf2 ok2 hf2 hc2 => ?_⟩
    have hT4 := g4.tab (g3.tab hT2)
    have hat4 : RowsAt H4 p M.rows := ((hat.sol (.of e2)).sol g3.sol).sol g4.sol
    refine ⟨_, rfl, _, rfl, _, rfl, ⟨[VS M.ls, .ref p], rfl, fun Hl L => ?_⟩⟩
    have hatl : RowsAt Hl p M.rows := hat4.sol (.of L.same)
    have hf1l := L.same _ _ (g4.ext _ _ hf1 fnO_ne)
    have hc1l := L.same _ _ (g4.ext _ _ hc1 codeO_ne)
    have hf2l := L.same _ _ hf2
    have hc2l := L.same _ _ hc2
    have t1 := L.told ok1 rfl
    have t2 := L.told2 (ws2 := [.ref p]) ok2 rfl fun i y v a1 a2 => by
      match i with
      | 0 => cases a1; cases a2; exact ⟨1, rfl, rfl⟩
      | i + 1 => cases a1
    have C1 := cb_def (P := P) (w := w) (K := K) (mg := mg) (base := base) (nok_step rfl rfl rfl) hf1l hc1l ok1 t1
    have C2 := cb_def (P := P) (w := w) (K := K) (mg := mg) (base := base) (nok_ends rfl rfl rfl) hf2l hc2l ok2 t2
    refine ⟨M.ls, 0, M.n, M.go, M.fin, f1, f2, rfl, O.abc_, O.pos, O.le, fun s c _ _ => O.go_lt s c, C1.imp ?_, C2.imp ?_, fun H5 b M' m1 m2 m3 m4 e5 hM' => ?_⟩
    · rintro vs H' Q' E' e ⟨st, c, rfl, hst, hc, k⟩
      have tc := told_cells2 (P := P) (w := w) (h := base) (t1.keep e)
      exact ⟨p, M, st, c, rfl, rfl, (hatl.sol (.ofN e)).sol (cut_sol tc), O, hst, hc, k _ (mix_same fun _ _ z => z)⟩
    · rintro vs H' Q' E' e ⟨st, rfl, hst, k⟩
      have tc := told_cells2 (P := P) (w := w) (h := base) (t2.keep e)
      exact ⟨p, M, st, rfl, rfl, (hatl.sol (.ofN e)).sol (cut_sol tc), O, hst, k _ (mix_same fun _ _ z => z)⟩
    · have gb := L.back (Gr.of (T := Tb D) e5) hT4
      refine q _ b M' m1 m2 m3 (fun u hu => ?_) ((Gr.of r2).trans (g3.trans (g4.trans gb))) (hM'.sol (L.sol (Gr.of (T := Tb D) e5)))
      exact m4 u hu
end
end Sw
/-! A def that returns a closure: its cells are told from then on. -/
namespace Sw
open PySem PySem.Spec PyProof.Rows L2 LamX NdefX
section
variable {P : Program} {w : World} {K : PySem.W.Frag} {mg : Str → Option Value} {base : Heap} {k : Nat} {x q : Str} {c f : Addr} {fd : FuncData} {st : Stmt} {N ps : List Str} {sp : Sp}
theorem FunC.okT (F : FunC K x q st f c fd) (S : FnScope N ps (defScope st)) (len : SpLen sp ps) (fr : List Str) (js : List Nat) (hk : ∀ y ∈ fr, (defScope st).names.lookup y = some .cell) (hjs : js.map (fun j => N[j]?) = fr.map some) {s1 : Stmt} {e : Expr} {rpos : Pos} (hbd : defBody st = [s1, .Return (some e) rpos])
    (h : ∀ (A : Around) (outer : List Env) (s : Shared) (H : Hp) (vs : List V) (Q : VK) (E : XK), Room k (A.deeper (PyProof.Rows.envOfC q (defScope st) s.heap.objs.size f (.ref c))) → sp vs H Q E →
      ∃ t te, PS (cxOf CX0 P w K mg base N q (defScope st) f (.ref c) A outer s H E) s1 t ∧ PE (cxOf CX0 P w K mg base N q (defScope st) f (.ref c) A outer s H E) e te ∧
        t { nx := fun σ H1 => te σ H1 fun v H2 => ∃ ws, js.map (slotAt σ) = ws.map some ∧ ∀ Hl, Lent (cellsFrom (s.heap.objs.size + 1) (defScope st).names []) fr ws H2 Hl → Q v Hl, rt := fun _ _ => False } (L2.start N vs) H) :
    FnOk P w K mg base CX0 (k + 1) f fd ps sp := by
  obtain ⟨oc, od, kV, doc, pm, ct, an, osl, e0, lk, hcd⟩ := F
  subst e0
  refine ⟨len, fun A outer s H args us vs Q E hr e0 hb r hsp => ?_⟩
  have hl := len vs H Q E hsp
  have KX := e0.mod.kin.keeps fun b o e => (e0.bs b o e).1
  have lim := e0.mod.nolimit.keeps fun b o e => (e0.bs b o e).1
  refine codeAny_call_function hr.depth (KX f _ lk) rfl S.co S.gen rfl (PySem.W.codeRec_of KX hcd) (hb _ _ _ _ (wpAny_newFunctionEnv_cells S.kind (fun ⟨n, v⟩ hy => ?_) fun env he s2 x => ?_))
  · rcases S.par n (List.of_mem_zip hy).1 with q | q
    · exact .inl q
    · exact .inr ⟨q, PySem.W.cellsFrom_some _ _ [] (.inl q)⟩
  · subst he
    refine ⟨lim.keeps x.toInCall.keep, codeAny_func ?_⟩
    obtain ⟨t, te, ht, hte, hq⟩ := h A outer s H vs Q E (hr.deeper (PyProof.Rows.envOfC q (defScope st) s.heap.objs.size f (.ref c))) hsp
    have I : L2.Inv (cxOf CX0 P w K mg base N q (defScope st) f (.ref c) A outer s H E) [] (L2.start N vs) H s2 := inv_start S hr.hd e0 hl r x
    show wpAny _ _ (execs (defBody st) _) _ _ _
    rw [hbd]
    have hrun := ht.run [] s2 _ H _ I hq
    refine wpAny_execs_cons (wpAny_mono hrun (fun fl s' hs => ?_) fun e s' hs => hs)
    cases fl with
    | next =>
      obtain ⟨σ', H1, J, hte2⟩ := hs
      refine wpAny_execs_cons (wpAny_Return_some (wpAny_mono (hte.run [] s' σ' H1 _ J hte2) (fun u s3 hs3 => ?_) fun e s' hs => hs))
      obtain ⟨v, H2, J2, rv, ws, hws, fin⟩ := hs3
      obtain ⟨Hl, L, e1⟩ := lend_env (fr := fr) (js := js) J2 hk (fun _ _ => rfl) hjs hws
      refine ⟨v, Hl, J2.os, J2.bare, ⟨J2.base.keep, J2.base.slot, fun b o h1 h2 h3 => ?_, J2.base.there, fun b xs h => L.same _ _ (J2.base.tups b xs h), fun b o u h => L.same _ _ (J2.base.frzs b o u h), fun b ps h => ?_⟩, e1.hok, rv, fin Hl L⟩
      · by_cases hb : b ∈ cellsFor (cellsFrom (s.heap.objs.size + 1) (defScope st).names []) fr
        · obtain ⟨y, hy, e⟩ := List.mem_filterMap.mp hb
          have := J2.ok.cab y b rfl e
          exact absurd (Heap.lt_size h1) (Nat.not_lt_of_ge this)
        · exact (L.out b hb).trans (J2.base.free b o h1 h2 h3)
      · obtain ⟨more, hm⟩ := J2.base.tbls b ps h
        exact ⟨more, L.same _ _ hm⟩
    | brk => obtain ⟨_, _, _, z⟩ := hs; exact z.elim
    | cont => obtain ⟨_, _, _, z⟩ := hs; exact z.elim
    | ret u => obtain ⟨_, _, _, _, _, z⟩ := hs; exact z.elim
end
end Sw
/-! next_of, ends_of, walked. -/
namespace Sw
open PySem PySem.Spec PyProof.Rows L2 LamX NdefX
def retE : Stmt → Expr
  | .Return (some e) _ => e
  | .Assign _ e _ => e
  | .If _ [] _ _ => .Constant .none 0 ⟨0, 0, 0, 0⟩
  | _ => .Constant .none 0 ⟨0, 0, 0, 0⟩
def argE : Expr → Nat → Expr
  | .Call _ es _ _, i => es.getD i (.Constant .none 0 ⟨0, 0, 0, 0⟩)
  | .IfExp _ _ e _, _ => e
  | _, _ => .Constant .none 0 ⟨0, 0, 0, 0⟩
def lamS : Expr → Scope
  | .Lambda _ _ sc _ => sc
  | _ => default
def lamB : Expr → Expr
  | .Lambda _ b _ _ => b
  | e => e
def lamP : Expr → Arguments
  | .Lambda p _ _ _ => p
  | _ => default
/-- a dict comprehension over a walk -/
theorem dc_it {J : It} {n : Nat} {G : Hp → Prop} {Y : Nat → Hp → V → Hp → Prop} (w : Walk J n G Y) {g : TG} {tk tv : TE} {vs : List Nat} {σ : L2.St} {H1 : Hp} {D : Addr} {Qd : Hp → Prop} (Pv : Nat → Hp → Prop) (h0 : Pv 0 (upd H1 D (.dK []))) (hG : ∀ i H, i ≤ n → Pv i H → G H)
    {tt : TT} (hs : ∀ i x H H', i < n → Pv i H → Y i H x H' → g x (wipe σ vs) H' fun σ2 H2 => wipe σ2 vs = wipe σ vs ∧ tt σ2 H2 fun b H3 => if b = true then tk σ2 H3 fun y H4 => tv σ2 H4 fun z H5 => ∃ kvs k, y = kV k ∧ H5 D = some (.dK kvs) ∧ kvs.length < sizeLine ∧ Pv (i + 1) (upd H5 D (.dK (putK kvs k z))) else Pv (i + 1) H3)
    (hd : ∀ H, Pv n H → Qd H) :
    ∃ W : Nat → Nat → Hp → Prop, (∃ m, W 0 m (upd H1 D (.dK []))) ∧ ∀ i m H, W i m H → (J.stop i H ∧ Qd H) ∨ (J.go i H ∧ ∃ Nx : Hp → Prop, (∀ H', Nx H' → ∃ m', m' < m ∧ W (i + 1) m' H') ∧ ∀ x H', J.yld i H x H' → g x (wipe σ vs) H' fun σ2 H2 => wipe σ2 vs = wipe σ vs ∧ tt σ2 H2 fun b H3 =>
      if b = true then tk σ2 H3 fun y H4 => tv σ2 H4 fun z H5 => ∃ kvs k, y = kV k ∧ H5 D = some (.dK kvs) ∧ kvs.length < sizeLine ∧ Nx (upd H5 D (.dK (putK kvs k z))) else Nx H3) := by
  refine ⟨fun i m H => i + m = n ∧ Pv i H, ⟨n, by omega, h0⟩, fun i m H hW => ?_⟩
  obtain ⟨him, hP⟩ := hW
  by_cases hi : i < n
  · refine .inr ⟨w.goes i H hi (hG i H (by omega) hP), Pv (i + 1), fun H' h => ⟨m - 1, by omega, by omega, h⟩, fun x H' hy => ?_⟩
    exact hs i x H H' hi hP (w.yields i H x H' hi (hG i H (by omega) hP) hy)
  · obtain rfl : i = n := by omega
    exact .inl ⟨w.stops H (hG i H (Nat.le_refl _) hP), hd H hP⟩
section
variable {P : Program} {w : World} {K : PySem.W.Frag} {mg : Str → Option Value} {base : Heap} {CM CA CW CG : Addr} {D : Cds}
def col (M : Mc) (c : Nat) : List Nat := (List.range M.n).map fun s => M.go s c
def spNextOf (CM : Addr) : Sp := fun vs H Q _ => ∃ (a : Addr) (M : Mc) (c : Nat), vs = [.ref a, VS [c]] ∧ MachAt CM H a M ∧ M.Ok ∧ c ∈ M.ls ∧ ∀ H' q, Same H H' → H q = none → H' q = some (.lst (nis (col M c))) → Q (.ref q) H'
theorem ok_next_of (T : Tx K mg CM CA CW CG) : Pr P w K mg base CX0 2 "next_of" P_next_of [] (spNextOf CM) := by
  refine T.d_next_of.pr sc_next_of (fun _ _ _ _ _ _ us hl => match us, hl with | [_, _], _ => rfl) (fun vs H Q E h => ?_) (fun f cdv A outer s H vs Q E hr h => ?_)
  · obtain ⟨a, M, c, rfl, _⟩ := h; rfl
  · obtain ⟨a, M, c, rfl, hM, O, hc, q⟩ := h
    refine ⟨_, (PSs.nox (pss_cons (ps_set (i := 2) sc_next_of.nd rfl (Or.inr rfl) (pe_bm PySem.F.plainAttrs_str PySem.F.slot_str_index PySem.F.type_str_index mt_sindex (pe_methP0 (pv 0) T.clCM (ok_Machine_letters T) (hr.mono (by decide)) pass0) (pa_cons (pv 1) pa_nil)))
 (pss_one (ps_ret (pe_lc (own := [("ends", 3), ("tos", 4)]) rfl sc_next_of.nd (pi_list (pe_methP0 (pv 0) T.clCM (ok_Machine_rows T) (hr.mono (by decide)) pass0)) (blkOk_by (own := [("ends", 3), ("tos", 4)]) (N := N_next_of) (sc := defScope s_next_of) (by decide +kernel)) (fun _ _ _ _ _ => (pg_tupK K rfl 2 rfl (pgs_cons (pg_name (i := 3) sc_next_of.nd rfl (Or.inl rfl) (Or.inr rfl)) (pgs_cons (pg_name (i := 4) sc_next_of.nd rfl (Or.inl rfl) (Or.inr rfl)) pgs_nil)))) (fun _ _ _ _ _ => pts_nil) (fun _ _ _ _ _ => (pe_ix (ixT_K K rfl) (pv 4) (pv 2) (fun _ _ => rfl)))))))), ?_⟩
    obtain ⟨dx, p0, h1, _⟩ := id hM
    obtain ⟨rest, ho⟩ := occ_idx hc
    refine ⟨_, rfl, a, dx, _, rfl, h1, fM_no _ _ (by decide +kernel) (by decide +kernel), a, M, rfl, hM, rfl, _, rfl, _, _, _, _, rfl, rfl, ho, ?_⟩
    refine ⟨_, rfl, a, dx, _, rfl, h1, fM_no _ _ (by decide +kernel) (by decide +kernel), a, M, rfl, hM, fun H1 p e1 np hat => ?_⟩
    obtain ⟨as, hp, hrs⟩ := hat
    have hln : (as.map V.ref).length = M.n := by rw [List.length_map, hrs.1]; rfl
    refine ⟨p, rfl, ⟨_, .of hp⟩, fun F hF => lc_map (walk_list (xs := as.map V.ref)) (Same H1) (fun i => vi (M.go i c)) (by rw [hln]; have := O.le; exact sl (by omega)) (same_new hF) (fun i H3 hi r hD2 => .of (r _ _ hp)) (fun H3 xs ys r _ => same_mut r hF) (fun i x H3 H' Q' hi r1 hD2 ⟨e3, hx⟩ k => ?_) (fun H2 r2 hF2 => ?_)⟩
    · subst e3
      obtain ⟨a1, ro, rfl, hro, t, ht1, ht2⟩ := hrs.inv hx
      obtain ⟨f1, f2⟩ := fin_row hro
      have hiN : i < M.n := (List.getElem?_eq_some_iff.mp hro).1
      have hk : (nis ro.2)[M.ls.idxOf c]? = some (vi (M.go i c)) := nis_get (by rw [f2]; exact O.tos_get hiN (O.idx hc))
      exact ⟨_, _, rfl, .inl (.inl (r1 _ _ ht1)), rfl, _, _, rfl, _, _, rfl, rfl, rfl, _, rfl, _, rfl, _, _, _, _, rfl, rfl, .inl (.inl (r1 _ _ ht2)), atI_nat hk, k _ hD2 r1⟩
    · rw [hln] at hF2
      have : tab (fun i => vi (M.go i c)) M.n = nis (col M c) := by unfold tab nis col; rw [List.map_map]; rfl
      rw [this] at hF2
      exact q _ F (fun b o z => r2 b o (e1 b o z)) (e1.free hF) hF2
def finL (M : Mc) : List V := (List.range M.n).map fun s => V.bl (M.fin s)
def spEndsOf (CM : Addr) : Sp := fun vs H Q _ => ∃ (a : Addr) (M : Mc), vs = [.ref a] ∧ MachAt CM H a M ∧ M.Ok ∧ ∀ H' q, Same H H' → H q = none → H' q = some (.lst (finL M)) → Q (.ref q) H'
theorem ok_ends_of (T : Tx K mg CM CA CW CG) : Pr P w K mg base CX0 2 "ends_of" P_ends_of [] (spEndsOf CM) := by
  refine T.d_ends_of.pr sc_ends_of (fun _ _ _ _ _ _ us hl => match us, hl with | [_], _ => rfl) (fun vs H Q E h => ?_) (fun f cdv A outer s H vs Q E hr h => ?_)
  · obtain ⟨a, M, rfl, _⟩ := h; rfl
  · obtain ⟨a, M, rfl, hM, O, q⟩ := h
    refine ⟨_, (PSs.nox (pss_one (ps_ret (pe_lc (own := [("ends", 1), ("tos", 2)]) rfl sc_ends_of.nd (pi_list (pe_methP0 (pv 0) T.clCM (ok_Machine_rows T) (hr.mono (by decide)) pass0)) (blkOk_by (own := [("ends", 1), ("tos", 2)]) (N := N_ends_of) (sc := defScope s_ends_of) (by decide +kernel)) (fun _ _ _ _ _ => (pg_tupK K rfl 2 rfl (pgs_cons (pg_name (i := 1) sc_ends_of.nd rfl (Or.inl rfl) (Or.inr rfl)) (pgs_cons (pg_name (i := 2) sc_ends_of.nd rfl (Or.inl rfl) (Or.inr rfl)) pgs_nil)))) (fun _ _ _ _ _ => pts_nil) (fun _ _ _ _ _ => (pv 1)))))), ?_⟩
    obtain ⟨dx, p0, h1, _⟩ := id hM
    refine ⟨_, rfl, a, dx, _, rfl, h1, fM_no _ _ (by decide +kernel) (by decide +kernel), a, M, rfl, hM, fun H1 p e1 np hat => ?_⟩
    obtain ⟨as, hp, hrs⟩ := hat
    have hln : (as.map V.ref).length = M.n := by rw [List.length_map, hrs.1]; rfl
    refine ⟨p, rfl, ⟨_, .of hp⟩, fun F hF => lc_map (walk_list (xs := as.map V.ref)) (Same H1) (fun i => .bl (M.fin i)) (by rw [hln]; have := O.le; exact sl (by omega)) (same_new hF) (fun i H3 hi r hD2 => .of (r _ _ hp)) (fun H3 xs ys r _ => same_mut r hF) (fun i x H3 H' Q' hi r1 hD2 ⟨e3, hx⟩ k => ?_) (fun H2 r2 hF2 => ?_)⟩
    · subst e3
      obtain ⟨a1, ro, rfl, hro, t, ht1, ht2⟩ := hrs.inv hx
      obtain ⟨f1, f2⟩ := fin_row hro
      exact ⟨_, _, rfl, .inl (.inl (r1 _ _ ht1)), rfl, _, _, rfl, _, _, rfl, rfl, rfl, _, rfl, by rw [f1]; exact k _ hD2 r1⟩
    · rw [hln] at hF2
      exact q _ F (fun b o z => r2 b o (e1 b o z)) (e1.free hF) hF2
/-! ### walked -/
abbrev e_lam_walked : Expr := retE ((defBody s_walked).getD 1 (.Pass ⟨0, 0, 0, 0⟩))
theorem ns_lam_walked : NScope ["stand", "letter", "by_letter"] ["stand", "letter"] ["by_letter"] (lamS e_lam_walked) := ⟨rfl, rfl, rfl, by decide +kernel, rfl, by decide +kernel, by decide +kernel, by decide +kernel, by decide +kernel⟩
/-- by_letter -/
def BLAt (H : Hp) (a : Addr) (M : Mc) : Prop := ∃ kvs : List (Key × V), H a = some (.dK kvs) ∧ ∀ c ∈ M.ls, ∃ q, valV kvs (Sum.inr (S [c])) = some (.ref q) ∧ H q = some (.lst (nis (col M c)))
theorem BLAt.sol {H H' : Hp} {a : Addr} {M : Mc} (h : BLAt H a M) (e : Sol H H') : BLAt H' a M := by
  obtain ⟨kvs, h1, h2⟩ := h
  exact ⟨kvs, e _ _ h1 trivial, fun c hc => by obtain ⟨q, a1, a2⟩ := h2 c hc; exact ⟨q, a1, e _ _ a2 trivial⟩⟩
def swWalk : List (Option V) → Sp := fun ws vs H Q _ => ∃ (p : Addr) (M : Mc) (s c : Nat), ws = [some (.ref p)] ∧ vs = [vi s, VS [c]] ∧ BLAt H p M ∧ s < M.n ∧ c ∈ M.ls ∧ Q (vi (M.go s c)) H
theorem lok_walked {f : Addr} {F : NF} {e : Expr} (h1 : F.scope = lamS e_lam_walked) (h2 : F.params = lamP e_lam_walked) (h3 : e = lamB e_lam_walked) : LOk P w K mg base 1 f F e ["stand", "letter"] ["by_letter"] swWalk := by
  obtain ⟨nm, qu, pa, bo, sc, cl, c⟩ := F
  subst h1; subst h2; subst h3
  refine lok_of ns_lam_walked (fun pm ctv us hl => match us, hl with | [_, _], _ => rfl) (fun ws vs H Q E h => ?_) (fun A outer s H vs ws Q E hr _ h => ?_)
  · obtain ⟨p, M, st, c, _, rfl, _⟩ := h; rfl
  · obtain ⟨p, M, st, c, rfl, rfl, ⟨kvs, hp, hb⟩, hst, hc, q⟩ := h
    have hu := hu_of hr
    obtain ⟨l, hv, hl⟩ := hb c hc
    have hk : (nis (col M c))[st]? = some (vi (M.go st c)) := nis_get (by unfold col; rw [List.getElem?_map, List.getElem?_range hst]; rfl)
    refine ⟨_, ((pe_ix ix_list (pe_dget hu (pv 2) (pv 1) (fun _ _ => rfl)) (pv 0) (fun _ _ => rfl))), ?_⟩
    exact ⟨_, rfl, _, rfl, p, _, rfl, (by have := DGet.k (k := Sum.inr (S [c])) hp; rw [hv] at this; exact this), _, rfl, _, _, _, _, rfl, rfl, .of hl, atI_nat hk, q⟩
def spWalked (P : Program) (w : World) (K : PySem.W.Frag) (mg : Str → Option Value) (base : Heap) (CM : Addr) (D : Cds) : Sp := fun vs H Q _ => ∃ (a : Addr) (M : Mc), vs = [.ref a] ∧ TabsN (Tb D) H ∧ MachAt CM H a M ∧ M.Ok ∧ ∀ H' f, Gr (Tb D) H H' → Cb P w K mg base 1 f H' (spStp M.ls M.n M.go) → Q (.ref f) H'
theorem ok_walked (T : Tx K mg CM CA CW CG) (Y : Ty K mg base CW D) : Pr P w K mg base CX0 3 "walked" P_walked [] (spWalked P w K mg base CM D) := by
  obtain ⟨f, fd, F, g, kp, TB⟩ := Y.wlk
  have m1 : (D.wlk.2, nmLam "walked") ∈ Tb D := .tail _ (.head _)
  refine ⟨f, fd, [], g, kp, F.binds (fun _ _ _ _ _ _ us hl => match us, hl with | [_], _ => rfl), .nil, F.okT sc_walked (fun vs H Q E h => ?_) ["by_letter"] [1] (by decide +kernel) rfl rfl (fun A outer s H vs Q E hr h => ?_)⟩
  · obtain ⟨a, M, rfl, _⟩ := h; rfl
  · obtain ⟨a, M, rfl, hT, hM, O, q⟩ := h
    have hu := hu_of hr
    refine ⟨_, _, (ps_set (i := 1) sc_walked.nd rfl (Or.inr rfl) (pe_dc (own := [("letter", 2)]) rfl sc_walked.nd (pi_str (pe_methP0 (pv 0) T.clCM (ok_Machine_letters T) (hr.mono (by decide)) pass0)) (blkOk_by (own := [("letter", 2)]) (N := N_walked) (sc := defScope s_walked) (by decide +kernel)) (fun _ _ _ _ _ => (pg_name (i := 2) sc_walked.nd rfl (Or.inl rfl) (Or.inr rfl))) (fun _ _ _ _ _ => pts_nil) (fun _ _ _ _ _ => (pv 2)) (fun _ _ _ _ _ => (pe_callP (ok_next_of T) (hr.mono (by decide)) rfl pass0 (pa_cons (pv 0) (pa_cons (pv 2) pa_nil)))))), (pe_lamN (T := Tb D) ["by_letter"] TB rfl m1 rfl (Y.hu m1) (by kernel_rfl)), ?_⟩
    obtain ⟨dx, p0, h1, _⟩ := id hM
    refine ⟨_, rfl, a, dx, _, rfl, h1, fM_no _ _ (by decide +kernel) (by decide +kernel), a, M, rfl, hM, _, rfl, fun B hB => ?_⟩
    refine dc_it (walk_str (z := S M.ls)) (fun i H2 => Same H H2 ∧ ∃ kvs : List (Key × V), H2 B = some (.dK kvs) ∧ kvs.length ≤ i ∧ ∀ (j c : Nat), j < i → M.ls[j]? = some c → ∃ q, valV kvs (Sum.inr (S [c])) = some (.ref q) ∧ H2 q = some (.lst (nis (col M c)))) ⟨same_new hB, [], upd_same, Nat.le_refl _, fun j c h => absurd h (Nat.not_lt_zero _)⟩ (fun _ _ _ _ => trivial) (tt := tYes) ?_ ?_
    · rintro i x H2 H2' hi ⟨r, kvs, hB2, hlen, hv⟩ ⟨rfl, c, hc, rfl⟩
      have hcu := S_get.mp hc
      have hcl := List.mem_of_getElem? hcu
      have hil : i < M.ls.length := (List.getElem?_eq_some_iff.mp hcu).1
      have hlle := O.lle
      refine ⟨rfl, ?_⟩
      refine ⟨_, rfl, _, rfl, _, rfl, a, M, c, rfl, hM.sol (.of r), O, hcl, fun H3 q3 e3 nq hq3 => ?_⟩
      have hB3 := e3 _ _ hB2
      have nqB : q3 ≠ B := (ne_of_none hB2 nq).symm
      refine ⟨kvs, Sum.inr (S [c]), rfl, hB3, slt (by omega), same_mut (fun b o z => e3 b o (r b o z)) hB, _, upd_same, ?_, fun j d hj hd => ?_⟩
      · have := length_putK kvs (Sum.inr (S [c])) (.ref q3); omega
      · rw [valV_put]
        by_cases hjd : (Sum.inr (S [d]) : Key) = Sum.inr (S [c])
        · rw [if_pos hjd]
          have hdc : d = c := by have := S_inj (Sum.inr.inj hjd); exact List.cons.inj this |>.1
          subst hdc
          exact ⟨q3, rfl, by rw [upd_ne nqB]; exact hq3⟩
        · rw [if_neg hjd]
          have hji : j < i := by
            rcases Nat.lt_or_ge j i with z | z
            · exact z
            · obtain rfl : j = i := by omega
              rw [hcu] at hd; cases hd; exact absurd rfl hjd
          obtain ⟨q4, b1, b2⟩ := hv j d hji hd
          refine ⟨q4, b1, ?_⟩
          rw [upd_ne (ne_of b2 hB2 (by intro z; cases z))]
          exact e3 _ _ b2
    · rintro H2 ⟨r, kvs, hB2, hlen, hv⟩
      have hBL : BLAt H2 B M := ⟨kvs, hB2, fun c hc => by
        obtain ⟨j, hj⟩ := List.mem_iff_getElem?.mp hc
        refine hv j c ?_ hj
        show j < M.ls.toArray.size
        simpa using (List.getElem?_eq_some_iff.mp hj).1⟩
      refine ⟨hT.ext r, fun f1 c1 H3 g3 nf1 ok1 hf1 hc1 => ⟨[.ref B], rfl, fun Hl L => ?_⟩⟩
      have hBLl : BLAt Hl B M := (hBL.sol g3.sol).sol (.of L.same)
      have t1 := L.told ok1 rfl
      have C1 := cb_lam (P := P) (w := w) (K := K) (mg := mg) (base := base) (lok_walked rfl rfl rfl) (L.same _ _ hf1) (L.same _ _ hc1) ok1 t1
      refine q Hl f1 ((Gr.of r).trans (g3.trans (.of L.same))) (C1.imp ?_)
      rintro vs H' Q' E' e ⟨st, c, rfl, hst, hc, k⟩
      have tc := told_cells2 (P := P) (w := w) (h := base) (t1.keep e)
      exact ⟨B, M, st, c, rfl, rfl, (hBLl.sol (.ofN e)).sol (cut_sol tc), hst, hc, k _ (mix_same fun _ _ z => z)⟩
end
end Sw
/-! all_but, left_behind. -/
namespace Sw
open PySem PySem.Spec PyProof.Rows L2 LamX NdefX
section
variable {P : Program} {w : World} {K : PySem.W.Frag} {mg : Str → Option Value} {base : Heap} {CM CA CW CG : Addr} {D : Cds}
abbrev e_lam_all_but : Expr := argE (retE ((defBody s_all_but).getD 1 (.Pass ⟨0, 0, 0, 0⟩))) 3
abbrev e_lam_left_behind : Expr := argE (retE ((defBody s_left_behind).getD 2 (.Pass ⟨0, 0, 0, 0⟩))) 3
theorem ns_lam_all_but : NScope ["stand", "ends"] ["stand"] ["ends"] (lamS e_lam_all_but) := ⟨rfl, rfl, rfl, by decide +kernel, rfl, by decide +kernel, by decide +kernel, by decide +kernel, by decide +kernel⟩
theorem ns_lam_left_behind : NScope ["stand", "ends"] ["stand"] ["ends"] (lamS e_lam_left_behind) := ⟨rfl, rfl, rfl, by decide +kernel, rfl, by decide +kernel, by decide +kernel, by decide +kernel, by decide +kernel⟩
theorem finL_get {M : Mc} {s : Nat} (h : s < M.n) : (finL M)[s]? = some (.bl (M.fin s)) := by unfold finL; rw [List.getElem?_map, List.getElem?_range h]; rfl
def swFin (neg : Bool) : List (Option V) → Sp := fun ws vs H Q _ => ∃ (p : Addr) (M : Mc) (s : Nat), ws = [some (.ref p)] ∧ vs = [vi s] ∧ H p = some (.lst (finL M)) ∧ s < M.n ∧ Q (.bl (neg ^^ M.fin s)) H
theorem lok_all_but {f : Addr} {F : NF} {e : Expr} (h1 : F.scope = lamS e_lam_all_but) (h2 : F.params = lamP e_lam_all_but) (h3 : e = lamB e_lam_all_but) : LOk P w K mg base 1 f F e ["stand"] ["ends"] (swFin true) := by
  obtain ⟨nm, qu, pa, bo, sc, cl, c⟩ := F
  subst h1; subst h2; subst h3
  refine lok_of ns_lam_all_but (fun pm ctv us hl => match us, hl with | [_], _ => rfl) (fun ws vs H Q E h => ?_) (fun A outer s H vs ws Q E hr _ h => ?_)
  · obtain ⟨p, M, st, _, rfl, _⟩ := h; rfl
  · obtain ⟨p, M, st, rfl, rfl, hp, hst, q⟩ := h
    refine ⟨_, ((pe_not (pe_ix ix_list (pv 1) (pv 0) (fun _ _ => rfl)))), ?_⟩
    refine ⟨_, rfl, _, rfl, _, _, _, _, rfl, rfl, .of hp, atI_nat (finL_get hst), _, rfl, ?_⟩
    rw [Bool.true_xor] at q; exact q
theorem lok_left_behind {f : Addr} {F : NF} {e : Expr} (h1 : F.scope = lamS e_lam_left_behind) (h2 : F.params = lamP e_lam_left_behind) (h3 : e = lamB e_lam_left_behind) : LOk P w K mg base 1 f F e ["stand"] ["ends"] (swFin false) := by
  obtain ⟨nm, qu, pa, bo, sc, cl, c⟩ := F
  subst h1; subst h2; subst h3
  refine lok_of ns_lam_left_behind (fun pm ctv us hl => match us, hl with | [_], _ => rfl) (fun ws vs H Q E h => ?_) (fun A outer s H vs ws Q E hr _ h => ?_)
  · obtain ⟨p, M, st, _, rfl, _⟩ := h; rfl
  · obtain ⟨p, M, st, rfl, rfl, hp, hst, q⟩ := h
    refine ⟨_, ((pe_ix ix_list (pv 1) (pv 0) (fun _ _ => rfl))), ?_⟩
    refine ⟨_, rfl, _, rfl, _, _, _, _, rfl, rfl, .of hp, atI_nat (finL_get hst), ?_⟩
    rw [Bool.false_xor] at q; exact q
theorem fin_cb {k : Nat} {f : Addr} {H Hl : Hp} {F : NF} {e : Expr} {cells : List (Str × Addr)} {p : Addr} {M : Mc} {neg : Bool} (Lk : LOk P w K mg base 1 f F e ["stand"] ["ends"] (swFin neg)) (hf : Hl f = some (LamO f F e)) (hc : Hl F.c = some (CodeO F.c F.qual)) (ok : CloOk F.cl cells ["ends"]) (t : Told F.cl ["ends"] [.ref p] Hl) (hp : Hl p = some (.lst (finL M))) :
    Cb P w K mg base 1 f Hl (spEn M.n fun s => neg ^^ M.fin s) := by
  refine (cb_lam (P := P) (w := w) (K := K) (mg := mg) (base := base) Lk hf hc ok t).imp ?_
  rintro vs H' Q' E' e ⟨st, rfl, hst, k⟩
  have tc := told_cells2 (P := P) (w := w) (h := base) (t.keep e)
  exact ⟨p, M, st, rfl, rfl, cut_sol tc _ _ (e _ _ hp (by intro ps z; cases z)) trivial, hst, k _ (mix_same fun _ _ z => z)⟩
def spAllBut (CM : Addr) (D : Cds) : Sp := fun vs H Q _ => ∃ (a : Addr) (M : Mc), vs = [.ref a] ∧ TabsN (Tb D) H ∧ MachAt CM H a M ∧ M.Ok ∧ ∀ H' b M', M'.Min → M'.ls = M.ls → M'.n ≤ M.n → (∀ u, Ov M.ls u → M'.lang u = !M.lang u) → Gr (Tb D) H H' → MachAt CM H' b M' → Q (.ref b) H'
theorem ok_all_but (T : Tx K mg CM CA CW CG) (Y : Ty K mg base CW D) : Pr P w K mg base CX0 6 "all_but" P_all_but [] (spAllBut CM D) := by
  refine Y.abt.pr sc_all_but (fun _ _ _ _ _ _ us hl => match us, hl with | [_], _ => rfl) (fun vs H Q E h => ?_) (fun TB f A outer s H vs Q E hr h => ?_)
  · obtain ⟨a, M, rfl, _⟩ := h; rfl
  · obtain ⟨a, M, rfl, hT, hM, O, q⟩ := h
    have m1 : (D.abt.2, nmLam "all_but") ∈ Tb D := .tail _ (.tail _ (.head _))
    refine ⟨_, (PSs.nox (pss_cons (ps_set (i := 1) sc_all_but.nd rfl (Or.inr rfl) (pe_callP (ok_ends_of T) (hr.mono (by decide)) rfl pass0 (pa_cons (pv 0) pa_nil)))
 (pss_one (ps_ret (pe_callDP ["ends"] [1] (defScope s_all_but) (ok_built T) (hr.mono (by decide)) rfl rfl (by decide +kernel) (fun _ _ => rfl) rfl (pa_cons (pe_methP0 (pv 0) T.clCM (ok_Machine_letters T) (hr.mono (by decide)) pass0) (pa_cons pe_int (pa_cons (pe_callP (ok_walked T Y) (hr.mono (by decide)) rfl pass0 (pa_cons (pv 0) pa_nil)) (pa_cons (pe_lamN (T := Tb D) ["ends"] TB rfl m1 rfl (Y.hu m1) (by kernel_rfl)) pa_nil))))))))), ?_⟩
    obtain ⟨dx, p0, h1, _⟩ := id hM
    refine ⟨_, rfl, a, M, rfl, hM, O, fun H1 p e1 np hp => ?_⟩
    have hT1 := hT.ext e1
    refine ⟨_, rfl, a, dx, _, rfl, e1 _ _ h1, fM_no _ _ (by decide +kernel) (by decide +kernel), a, M, rfl, hM.sol (.of e1), ?_⟩
    refine ⟨_, rfl, a, M, rfl, hT1, hM.sol (.of e1), O, fun H2 fw g2 Cw => ?_⟩
    have hT2 := g2.tab hT1
    refine ⟨hT2, fun f1 c1 H3 g3 nf1 ok1 hf1 hc1 => ⟨[.ref p], rfl, fun Hl L => ?_⟩⟩
    have hT3 := g3.tab hT2
    have t1 := L.told ok1 rfl
    have hpl : Hl p = some (.lst (finL M)) := L.same _ _ (g3.sol _ _ (g2.sol _ _ hp trivial) trivial)
    have C1 := fin_cb (P := P) (w := w) (K := K) (mg := mg) (base := base) (k := 1) (H := H) (lok_all_but rfl rfl rfl) (L.same _ _ hf1) (L.same _ _ hc1) ok1 t1 hpl
    refine ⟨M.ls, 0, M.n, M.go, _, fw, f1, rfl, O.abc_, O.pos, O.le, fun s c _ _ => O.go_lt s c, (Cw.keep g3.ext).keep (.of L.same), C1, fun H5 b M' m1 m2 m3 m4 e5 hM' => ?_⟩
    have gb := L.back (Gr.of (T := Tb D) e5) hT3
    refine q _ b M' m1 m2 m3 (fun u hu => ?_) ((Gr.of e1).trans (g2.trans (g3.trans gb))) (hM'.sol (L.sol (Gr.of (T := Tb D) e5)))
    rw [m4 u hu, Bool.true_xor]; rfl
def spLeft (CM : Addr) (D : Cds) : Sp := fun vs H Q _ => ∃ (a : Addr) (M : Mc) (b : Wd), vs = [.ref a, VS b] ∧ TabsN (Tb D) H ∧ MachAt CM H a M ∧ M.Ok ∧ Ov M.ls b ∧ b.length ≤ 20000 ∧ ∀ H' c M', M'.Min → M'.ls = M.ls → M'.n ≤ M.n → (∀ u, Ov M.ls u → M'.lang u = M.lang (b ++ u)) → Gr (Tb D) H H' → MachAt CM H' c M' → Q (.ref c) H'
theorem ok_left_behind (T : Tx K mg CM CA CW CG) (Y : Ty K mg base CW D) : Pr P w K mg base CX0 6 "left_behind" P_left_behind [] (spLeft CM D) := by
  refine Y.lft.pr sc_left_behind (fun _ _ _ _ _ _ us hl => match us, hl with | [_, _], _ => rfl) (fun vs H Q E h => ?_) (fun TB f A outer s H vs Q E hr h => ?_)
  · obtain ⟨a, M, b, rfl, _⟩ := h; rfl
  · obtain ⟨a, M, b, rfl, hT, hM, O, hov, hz, q⟩ := h
    have m1 : (D.lft.2, nmLam "left_behind") ∈ Tb D := .tail _ (.tail _ (.tail _ (.head _)))
    refine ⟨_, (PSs.nox (pss_cons (ps_expr (pe_callP (ok_need_word T) (hr.mono (by decide)) rfl pass0 (pa_cons (pe_methP0 (pv 0) T.clCM (ok_Machine_letters T) (hr.mono (by decide)) pass0) (pa_cons (pv 1) pa_nil))))
 (pss_cons (ps_set (i := 2) sc_left_behind.nd rfl (Or.inr rfl) (pe_callP (ok_ends_of T) (hr.mono (by decide)) rfl pass0 (pa_cons (pv 0) pa_nil)))
 (pss_one (ps_ret (pe_callDP ["ends"] [2] (defScope s_left_behind) (ok_built T) (hr.mono (by decide)) rfl rfl (by decide +kernel) (fun _ _ => rfl) rfl (pa_cons (pe_methP0 (pv 0) T.clCM (ok_Machine_letters T) (hr.mono (by decide)) pass0) (pa_cons (pe_methP (pv 0) T.clCM (ok_Machine_behind T) (hr.mono (by decide)) pass0 (pa_cons (pv 1) pa_nil)) (pa_cons (pe_callP (ok_walked T Y) (hr.mono (by decide)) rfl pass0 (pa_cons (pv 0) pa_nil)) (pa_cons (pe_lamN (T := Tb D) ["ends"] TB rfl m1 rfl (Y.hu m1) (by kernel_rfl)) pa_nil)))))))))), ?_⟩
    obtain ⟨dx, p0, h1, _⟩ := id hM
    refine ⟨_, rfl, a, dx, _, rfl, h1, fM_no _ _ (by decide +kernel) (by decide +kernel), a, M, rfl, hM, _, rfl, M.ls, b, 20000, rfl, hov, hz, hz, fun H0 e0 => ?_⟩
    refine ⟨_, rfl, a, M, rfl, hM.sol (.of e0), O, fun H1 p e1 np hp => ?_⟩
    have e01 : Same H H1 := fun b o z => e1 b o (e0 b o z)
    have hT1 := hT.ext e01
    refine ⟨_, rfl, a, dx, _, rfl, e01 _ _ h1, fM_no _ _ (by decide +kernel) (by decide +kernel), a, M, rfl, hM.sol (.of e01), ?_⟩
    refine ⟨_, rfl, a, dx, _, rfl, e01 _ _ h1, fM_no _ _ (by decide +kernel) (by decide +kernel), _, rfl, a, M, b, 0, rfl, hM.sol (.of e01), O, hov, hz, O.pos, fun H1' e1' => ?_⟩
    have hT1' := hT1.ext e1'
    refine ⟨_, rfl, a, M, rfl, hT1', (hM.sol (.of e01)).sol (.of e1'), O, fun H2 fw g2 Cw => ?_⟩
    have hT2 := g2.tab hT1'
    refine ⟨hT2, fun f1 c1 H3 g3 nf1 ok1 hf1 hc1 => ⟨[.ref p], rfl, fun Hl L => ?_⟩⟩
    have hT3 := g3.tab hT2
    have t1 := L.told ok1 rfl
    have hpl : Hl p = some (.lst (finL M)) := L.same _ _ (g3.sol _ _ (g2.sol _ _ (e1' _ _ hp) trivial) trivial)
    have C1 := fin_cb (P := P) (w := w) (K := K) (mg := mg) (base := base) (k := 1) (H := H) (lok_left_behind rfl rfl rfl) (L.same _ _ hf1) (L.same _ _ hc1) ok1 t1 hpl
    refine ⟨M.ls, M.run 0 b, M.n, M.go, _, fw, f1, rfl, O.abc_, O.run0_lt b, O.le, fun s c _ _ => O.go_lt s c, (Cw.keep g3.ext).keep (.of L.same), C1, fun H5 c M' m1 m2 m3 m4 e5 hM' => ?_⟩
    have gb := L.back (Gr.of (T := Tb D) e5) hT3
    refine q _ c M' m1 m2 m3 (fun u hu => ?_) ((Gr.of e01).trans ((Gr.of e1').trans (g2.trans (g3.trans gb)))) (hM'.sol (L.sol (Gr.of (T := Tb D) e5)))
    rw [m4 u hu, Bool.false_xor]
    unfold Mc.lang
    rw [Mc.run_app]; rfl
end
end Sw
/-! The class Walks: its data, __init__, moved, ends, all_stands. -/
namespace Sw
open PySem PySem.Spec PyProof.Rows L2 LamX NdefX
theorem putF_app {x : Str} {v : V} : ∀ {fs : List (Str × V)}, (∀ p ∈ fs, p.1 ≠ x) → putF x v fs = fs ++ [(x, v)]
  | [], _ => rfl
  | (y, u) :: fs, h => by
    show (if y = x then _ else (y, u) :: putF x v fs) = _
    rw [if_neg (h (y, u) List.mem_cons_self), putF_app fun p hp => h p (List.mem_cons_of_mem _ hp)]; rfl
def fWk (b fw p : Addr) (ls : Wd) : List (Str × V) := [("base", .ref b), ("first_words", .ref fw), ("stands", .ref p), ("signs", VS ls)]
theorem fWk_base (b fw p : Addr) (ls : Wd) : (fWk b fw p ls).lookup ("base" : Str) = some (.ref b) := rfl
theorem fWk_fw (b fw p : Addr) (ls : Wd) : (fWk b fw p ls).lookup ("first_words" : Str) = some (.ref fw) := by
  unfold fWk; rw [List.lookup_cons, show (("first_words" : Str) == ("base" : Str)) = false by decide +kernel]; rfl
theorem fWk_st (b fw p : Addr) (ls : Wd) : (fWk b fw p ls).lookup ("stands" : Str) = some (.ref p) := by
  unfold fWk; rw [List.lookup_cons, show (("stands" : Str) == ("base" : Str)) = false by decide +kernel]; simp only
  rw [List.lookup_cons, show (("stands" : Str) == ("first_words" : Str)) = false by decide +kernel]; rfl
theorem fWk_sg (b fw p : Addr) (ls : Wd) : (fWk b fw p ls).lookup ("signs" : Str) = some (VS ls) := by
  unfold fWk; rw [List.lookup_cons, show (("signs" : Str) == ("base" : Str)) = false by decide +kernel]; simp only
  rw [List.lookup_cons, show (("signs" : Str) == ("first_words" : Str)) = false by decide +kernel]; simp only
  rw [List.lookup_cons, show (("signs" : Str) == ("stands" : Str)) = false by decide +kernel]; rfl
theorem lookup_no {fs : List (Str × V)} {m : Str} (h : (fs.all fun p => !(m == p.1)) = true) : fs.lookup m = none := by
  induction fs with
  | nil => rfl
  | cons p fs ih =>
    rw [List.all_cons, Bool.and_eq_true] at h
    obtain ⟨x, v⟩ := p
    rw [List.lookup_cons]
    have : (m == x) = false := by simpa using h.1
    rw [this]; exact ih h.2
theorem fWk_no (b fw p : Addr) (ls : Wd) {m : Str} (h : (([("base" : Str), ("first_words" : Str), ("stands" : Str), ("signs" : Str)] : List Str).all fun x => !(m == x)) = true) : (fWk b fw p ls).lookup m = none := by
  refine lookup_no ?_
  simpa [fWk] using h
def WalksAt (CM CW : Addr) (H : Hp) (a : Addr) (M : Mc) : Prop := ∃ dx b fw p, H a = some (.ins CW dx (fWk b fw p M.ls)) ∧ MachAt CM H b M ∧ (∃ ws : List Wd, H fw = some (.lst (ws.map VS)) ∧ ws.length = M.n ∧ ∀ s w, ws[s]? = some w → Ov M.ls w ∧ M.run 0 w = s ∧ w.length ≤ 60) ∧ RowsAt H p M.rows
theorem WalksAt.sol {CM CW a : Addr} {H H' : Hp} {M : Mc} (h : WalksAt CM CW H a M) (e : Sol H H') : WalksAt CM CW H' a M := by
  obtain ⟨dx, b, fw, p, h1, h2, ⟨ws, h3, h4⟩, h5⟩ := h
  exact ⟨dx, b, fw, p, e _ _ h1 trivial, h2.sol e, ⟨ws, e _ _ h3 trivial, h4⟩, h5.sol e⟩
section
variable {P : Program} {w : World} {K : PySem.W.Frag} {mg : Str → Option Value} {base : Heap} {CM CA CW CG : Addr} {D : Cds}
def f1 (b : Addr) : List (Str × V) := [("base", .ref b)]
def f2 (b fw : Addr) : List (Str × V) := [("base", .ref b), ("first_words", .ref fw)]
def f3 (b fw p : Addr) : List (Str × V) := [("base", .ref b), ("first_words", .ref fw), ("stands", .ref p)]
theorem p2 {b fw : Addr} : putF "first_words" (.ref fw) (f1 b) = f2 b fw := putF_app fun p hp => by
  rw [List.mem_singleton.mp hp]; show ("base" : Str) ≠ ("first_words" : Str); decide +kernel
theorem p3 {b fw p : Addr} : putF "stands" (.ref p) (f2 b fw) = f3 b fw p := putF_app fun q hq => by
  rcases List.mem_cons.mp hq with h | h
  · rw [h]; show ("base" : Str) ≠ ("stands" : Str); decide +kernel
  · rw [List.mem_singleton.mp h]; show ("first_words" : Str) ≠ ("stands" : Str); decide +kernel
theorem p4 {b fw p : Addr} {ls : Wd} : putF "signs" (VS ls) (f3 b fw p) = fWk b fw p ls := putF_app fun q hq => by
  rcases List.mem_cons.mp hq with h | h
  · rw [h]; show ("base" : Str) ≠ ("signs" : Str); decide +kernel
  · rcases List.mem_cons.mp h with h | h
    · rw [h]; show ("first_words" : Str) ≠ ("signs" : Str); decide +kernel
    · rw [List.mem_singleton.mp h]; show ("stands" : Str) ≠ ("signs" : Str); decide +kernel
def spWalksInit (CM CW : Addr) (D : Cds) : Sp := fun vs H Q _ => ∃ (a m dx : Addr) (M0 : Mc), vs = [.ref a, .ref m] ∧ H a = some (.ins CW dx []) ∧ TabsN (Tb D) H ∧ MachAt CM H m M0 ∧ M0.Ok ∧ ∀ H' M, M.Min → M.ls = M0.ls → M.n ≤ M0.n → (∀ u, Ov M0.ls u → M.lang u = M0.lang u) → WalksAt CM CW H' a M → (∀ H0, Gr (Tb D) H0 H → H0 a = none → Gr (Tb D) H0 H') → Q .non H'
theorem ins_ne {C dx : Addr} {fs : List (Str × V)} : ∀ c q, HO.ins C dx fs ≠ CodeO c q := fun c q e => by unfold CodeO at e; cases e
theorem MachAt.mut {CM H a M} {b : Addr} {C dx : Addr} {fs : List (Str × V)} {o : HO} (h : MachAt CM H a M) (hb : H b = some (.ins C dx fs)) (hne : b ≠ a) : MachAt CM (upd H b o) a M := by
  obtain ⟨dy, p, h1, as, h2, h3⟩ := h
  refine ⟨dy, p, by rw [upd_ne hne.symm]; exact h1, as, by rw [upd_ne (ne_of h2 hb (by intro z; cases z))]; exact h2, h3.mut (notTup hb fun _ z => by cases z)⟩
theorem ok_Walks_init (T : Tx K mg CM CA CW CG) (Y : Ty K mg base CW D) : Pm P w K mg base CX0 7 CW "__init__" P_Walks_init [] (spWalksInit CM CW D) := by
  refine T.d_Walks_init.pm sc_Walks_init (fun _ _ _ _ _ _ us hl => match us, hl with | [_, _], _ => rfl) (fun vs H Q E h => ?_) (fun f cdv A outer s H vs Q E hr h => ?_)
  · obtain ⟨a, m, dx, M0, rfl, _⟩ := h; rfl
  · obtain ⟨a, m, dx, M0, rfl, ha, hT, hM, O, q⟩ := h
    refine ⟨_, (PSs.nox (pss_cons (ps_fld (pv 0) (pe_callP (ok_least T Y) (hr.mono (by decide)) rfl pass0 (pa_cons (pv 1) pa_nil)) rfl)
 (pss_cons (ps_fld (pv 0) (pe_callP (ok_firsts T) (hr.mono (by decide)) rfl pass0 (pa_cons (pe_fld (pv 0) rfl) pa_nil)) rfl)
 (pss_cons (ps_fld (pv 0) (pe_methP0 (pe_fld (pv 0) rfl) T.clCM (ok_Machine_rows T) (hr.mono (by decide)) pass0) rfl)
 (pss_one (ps_fld (pv 0) (pe_methP0 (pe_fld (pv 0) rfl) T.clCM (ok_Machine_letters T) (hr.mono (by decide)) pass0) rfl)))))), ?_⟩
    refine ⟨_, rfl, m, M0, rfl, hT, hM, O, fun H1 b M m1 m2 m3 m4 g1 hMb => ?_⟩
    have ha1 := g1.sol _ _ ha trivial
    refine ⟨_, rfl, a, CW, dx, _, rfl, ha1, T.clCW, T.nCW_base, by show 0 < 1000; decide, ?_⟩
    have hne : ∀ (F : List (Str × V)), H1 b ≠ none := fun F => by obtain ⟨dy, p, h1, _⟩ := hMb; rw [h1]; intro z; cases z
    obtain ⟨dy, pb, hb1, _⟩ := id hMb
    have nab : a ≠ b := ne_of ha1 hb1 (by unfold fM; intro z; cases z)
    have p1 : putF "base" (V.ref b) [] = f1 b := rfl
    rw [p1]
    have hMb2 := hMb.mut (o := .ins CW dx (f1 b)) ha1 nab
    have ha2 : upd H1 a (.ins CW dx (f1 b)) a = some (.ins CW dx (f1 b)) := upd_same
    have k2 : ∀ H0, Gr (Tb D) H0 H → H0 a = none → Gr (Tb D) H0 (upd H1 a (.ins CW dx (f1 b))) := fun H0 g h0 => gr_mut (g.trans g1) h0 ha1 ins_ne
    generalize upd H1 a (.ins CW dx (f1 b)) = H2 at hMb2 ha2 k2
    refine ⟨_, rfl, a, CW, dx, _, _, rfl, ha2, T.clCW, T.nCW_base, rfl, b, M, rfl, hMb2, m1, fun H3 fw ws e3 nfw hfw hw1 hw2 => ?_⟩
    have ha3 := e3 _ _ ha2
    refine ⟨_, rfl, a, CW, dx, _, rfl, ha3, T.clCW, T.nCW_first_words, by show 1 < 1000; decide, ?_⟩
    rw [p2]
    have naf : a ≠ fw := ne_of_none ha2 nfw
    have hMb3 := (hMb2.sol (.of e3)).mut (o := .ins CW dx (f2 b fw)) ha3 nab
    have ha4 : upd H3 a (.ins CW dx (f2 b fw)) a = some (.ins CW dx (f2 b fw)) := upd_same
    have hfw4 : upd H3 a (.ins CW dx (f2 b fw)) fw = some (.lst (ws.map VS)) := by rw [upd_ne naf.symm]; exact hfw
    have k4 : ∀ H0, Gr (Tb D) H0 H → H0 a = none → Gr (Tb D) H0 (upd H3 a (.ins CW dx (f2 b fw))) := fun H0 g h0 => gr_mut ((k2 H0 g h0).trans (.of e3)) h0 ha3 ins_ne
    generalize upd H3 a (.ins CW dx (f2 b fw)) = H4 at hMb3 ha4 hfw4 k4
    obtain ⟨dz, pz, hbz, _⟩ := id hMb3
    refine ⟨_, rfl, a, CW, dx, _, _, rfl, ha4, T.clCW, T.nCW_base, rfl, b, dz, _, rfl, hbz, fM_no _ _ (by decide +kernel) (by decide +kernel), b, M, rfl, hMb3, fun H5 p e5 np hat => ?_⟩
    have ha5 := e5 _ _ ha4
    refine ⟨_, rfl, a, CW, dx, _, rfl, ha5, T.clCW, T.nCW_stands, by show 2 < 1000; decide, ?_⟩
    rw [p3]
    have nap : a ≠ p := ne_of_none ha4 np
    have hMb5 := (hMb3.sol (.of e5)).mut (o := .ins CW dx (f3 b fw p)) ha5 nab
    have ha6 : upd H5 a (.ins CW dx (f3 b fw p)) a = some (.ins CW dx (f3 b fw p)) := upd_same
    have hfw6 : upd H5 a (.ins CW dx (f3 b fw p)) fw = some (.lst (ws.map VS)) := by rw [upd_ne naf.symm]; exact e5 _ _ hfw4
    have hat6 : RowsAt (upd H5 a (.ins CW dx (f3 b fw p))) p M.rows := by
      obtain ⟨as, h1, h2⟩ := hat
      exact ⟨as, by rw [upd_ne nap.symm]; exact h1, h2.mut (notTup ha5 fun _ z => by cases z)⟩
    have k6 : ∀ H0, Gr (Tb D) H0 H → H0 a = none → Gr (Tb D) H0 (upd H5 a (.ins CW dx (f3 b fw p))) := fun H0 g h0 => gr_mut ((k4 H0 g h0).trans (.of e5)) h0 ha5 ins_ne
    generalize upd H5 a (.ins CW dx (f3 b fw p)) = H6 at hMb5 ha6 hfw6 hat6 k6
    obtain ⟨dz, pz, hbz, _⟩ := id hMb5
    refine ⟨_, rfl, a, CW, dx, _, _, rfl, ha6, T.clCW, T.nCW_base, rfl, b, dz, _, rfl, hbz, fM_no _ _ (by decide +kernel) (by decide +kernel), b, M, rfl, hMb5, ?_⟩
    refine ⟨_, rfl, a, CW, dx, _, rfl, ha6, T.clCW, T.nCW_signs, by show 3 < 1000; decide, ?_⟩
    rw [p4]
    refine q _ M m1 m2 m3 m4 ⟨dx, b, fw, p, upd_same, hMb5.mut ha6 nab, ⟨ws, by rw [upd_ne naf.symm]; exact hfw6, hw1, hw2⟩, ?_⟩ fun H0 g h0 => gr_mut (k6 H0 g h0) h0 ha6 ins_ne
    obtain ⟨as, h1, h2⟩ := hat6
    exact ⟨as, by rw [upd_ne nap.symm]; exact h1, h2.mut (notTup ha6 fun _ z => by cases z)⟩
def spWEnds (CM CW : Addr) : Sp := fun vs H Q _ => ∃ (a : Addr) (M : Mc) (s : Nat), vs = [.ref a, vi s] ∧ WalksAt CM CW H a M ∧ M.Ok ∧ s < M.n ∧ Q (.bl (M.fin s)) H
theorem ok_Walks_ends (T : Tx K mg CM CA CW CG) : Pm P w K mg base CX0 1 CW "ends" P_Walks_ends [] (spWEnds CM CW) := by
  refine T.d_Walks_ends.pm sc_Walks_ends (fun _ _ _ _ _ _ us hl => match us, hl with | [_, _], _ => rfl) (fun vs H Q E h => ?_) (fun f cdv A outer s H vs Q E hr h => ?_)
  · obtain ⟨a, M, s, rfl, _⟩ := h; rfl
  · obtain ⟨a, M, st, rfl, ⟨dx, b, fw, p, h1, _, _, as, hp, hrs⟩, O, hst, q⟩ := h
    obtain ⟨ro, hro, f1, _⟩ := O.row hst
    obtain ⟨a0, ha0, t0, ht1, ht2⟩ := hrs.get hro
    refine ⟨_, (PSs.nox (pss_one (ps_ret (pe_ix ix_tup (pe_ix ix_list (pe_fld (pv 0) rfl) (pv 1) (fun _ _ => rfl)) pe_int (fun _ _ => rfl))))), ?_⟩
    exact ⟨_, rfl, a, CW, dx, _, _, rfl, h1, T.clCW, T.nCW_stands, fWk_st _ _ _ _, _, rfl, p, _, _, _, rfl, rfl, .of hp, atI_nat (refs_get ha0), _, _, 0, _, rfl, rfl, .inl (.inl ht1), rfl, by rw [f1]; exact q⟩
def spAllStands (CM CW : Addr) : Sp := fun vs H Q _ => ∃ (a : Addr) (M : Mc), vs = [.ref a] ∧ WalksAt CM CW H a M ∧ M.Ok ∧ ∀ H' p, Same H H' → H p = none → H' p = some (.lst (nis (List.range M.n))) → Q (.ref p) H'
theorem ok_Walks_all_stands (T : Tx K mg CM CA CW CG) : Pm P w K mg base CX0 1 CW "all_stands" P_Walks_all_stands [] (spAllStands CM CW) := by
  refine T.d_Walks_all_stands.pm sc_Walks_all_stands (fun _ _ _ _ _ _ us hl => match us, hl with | [_], _ => rfl) (fun vs H Q E h => ?_) (fun f cdv A outer s H vs Q E hr h => ?_)
  · obtain ⟨a, M, rfl, _⟩ := h; rfl
  · obtain ⟨a, M, rfl, ⟨dx, b, fw, p, h1, _, _, as, hp, hrs⟩, O, q⟩ := h
    have hln : (as.map V.ref).length = M.n := by rw [List.length_map, hrs.1]; rfl
    have := O.le
    refine ⟨_, (PSs.nox (pss_one (ps_ret (pe_listRg rfl rfl T.z_list (prg_1 rfl T.z_range (pe_callB call_len rfl T.z_len boot_len (pa_cons (pe_fld (pv 0) rfl) pa_nil))))))), ?_⟩
    refine ⟨_, rfl, a, CW, dx, _, _, rfl, h1, T.clCW, T.nCW_stands, fWk_st _ _ _ _, _, M.n, rfl, .inl ⟨_, .of hp, hln.symm⟩, _, rfl, ⟨by omega, by omega, by omega, by omega, by show (((M.n : Nat) : Int) - 0).toNat ≤ 2 ^ 24; omega⟩, fun p hp => q _ p (same_new hp) hp ?_⟩
    rw [upd_same]
    unfold rgV nis
    have e : (((M.n : Nat) : Int) - 0).toNat = M.n := by omega
    rw [e]
    congr 2
    apply List.map_congr_left
    intro i _
    show V.int (0 + (i : Nat)) = V.int (i : Nat)
    rw [Int.zero_add]
def spMoved (CM CW : Addr) : Sp := fun vs H Q _ => ∃ (a t : Addr) (M : Mc) (c : Nat) (l : List Nat), vs = [.ref a, .ref t, VS [c]] ∧ WalksAt CM CW H a M ∧ M.Ok ∧ c ∈ M.ls ∧ H t = some (.tup (nis l)) ∧ l.length ≤ 60 ∧ (∀ x ∈ l, x < M.n) ∧ ∀ H' p, Same H H' → H p = none → H' p = some (.tup (nis (l.map fun s => M.go s c))) → Q (.ref p) H'
theorem ok_Walks_moved (T : Tx K mg CM CA CW CG) : Pm P w K mg base CX0 1 CW "moved" P_Walks_moved [] (spMoved CM CW) := by
  refine T.d_Walks_moved.pm sc_Walks_moved (fun _ _ _ _ _ _ us hl => match us, hl with | [_, _, _], _ => rfl) (fun vs H Q E h => ?_) (fun f cdv A outer s H vs Q E hr h => ?_)
  · obtain ⟨a, t, M, c, l, rfl, _⟩ := h; rfl
  · obtain ⟨a, t, M, c, l, rfl, hW, O, hc, ht, hl60, hlt, q⟩ := h
    obtain ⟨dx, b, fw, p, h1, _, _, as, hp, hrs⟩ := id hW
    obtain ⟨rest, ho⟩ := occ_idx hc
    refine ⟨_, (PSs.nox (pss_cons (ps_set (i := 3) sc_Walks_moved.nd rfl (Or.inr rfl) (pe_bm PySem.F.plainAttrs_str PySem.F.slot_str_index PySem.F.type_str_index mt_sindex (pe_fld (pv 0) rfl) (pa_cons (pv 2) pa_nil)))
 (pss_one (ps_ret (pe_callTy call_tuple_of rfl T.z_tuple (by decide +kernel) (pa_cons (pe_lc (own := [("stand", 4)]) rfl sc_Walks_moved.nd (pi_tup (pv 1)) (blkOk_by (own := [("stand", 4)]) (N := N_Walks_moved) (sc := defScope s_Walks_moved) (by decide +kernel)) (fun _ _ _ _ _ => (pg_name (i := 4) sc_Walks_moved.nd rfl (Or.inl rfl) (Or.inr rfl))) (fun _ _ _ _ _ => pts_nil) (fun _ _ _ _ _ => (pe_ix (ixT_K K rfl) (pe_ix (ixT_K K rfl) (pe_ix (ixL_K K rfl) (pe_fldK K rfl (pv 0) rfl) (pv 4) (fun _ _ => rfl)) pe_int (fun _ _ => rfl)) (pv 3) (fun _ _ => rfl)))) pa_nil)))))), ?_⟩
    refine ⟨_, rfl, a, CW, dx, _, _, rfl, h1, T.clCW, T.nCW_signs, fWk_sg _ _ _ _, rfl, _, rfl, _, _, _, _, rfl, rfl, ho, ?_⟩
    refine ⟨_, rfl, _, rfl, ⟨_, .inl (.inl ht)⟩, fun F hF => lc_map (walk_tup (xs := nis l)) (Same H) (fun i => vi (M.go (l.getD i 0) c)) (by rw [nis_len]; exact sl (by omega)) (same_new hF) (fun i H3 hi r hD2 => .inl (.inl (r _ _ ht))) (fun H3 xs ys r _ => same_mut r hF) (fun i x H3 H' Q' hi r1 hD2 hY k => ?_) (fun H2 r2 hF2 => ?_)⟩
    · obtain ⟨rfl, hx⟩ := hY
      obtain ⟨st, hst, rfl⟩ := nis_inv hx
      have hstN := hlt st (List.mem_of_getElem? hst)
      obtain ⟨ro, hro, f1, f2, _⟩ := O.row hstN
      obtain ⟨a0, ha0, t0, ht1, ht2⟩ := hrs.get hro
      have hk : (nis ro.2)[M.ls.idxOf c]? = some (vi (M.go st c)) := nis_get (by rw [f2]; exact O.tos_get hstN (O.idx hc))
      have kk := k _ hD2 r1
      rw [getD_of hst] at kk
      exact ⟨rfl, _, rfl, a, CW, dx, _, _, rfl, r1 _ _ h1, T.clCW, T.nCW_stands, fWk_st _ _ _ _, _, rfl, p, _, _, _, rfl, rfl, .of (r1 _ _ hp), atI_nat (refs_get ha0), _, _, 1, _, rfl, rfl, .inl (.inl (r1 _ _ ht1)), rfl, _, rfl, _, _, _, _, rfl, rfl, .inl (.inl (r1 _ _ ht2)), atI_nat hk, kk⟩
    · have htab : tab (fun i => vi (M.go (l.getD i 0) c)) (nis l).length = nis (l.map fun s => M.go s c) := by
        refine tab_eq (by simp [nis]) fun j x hx => ?_
        obtain ⟨n, hn, rfl⟩ := nis_inv hx
        rw [List.getElem?_map] at hn
        cases e : l[j]? with
        | none => rw [e] at hn; cases hn
        | some t => rw [e] at hn; cases hn; rw [getD_of e]
      rw [htab] at hF2
      refine ⟨_, _, rfl, .inl ⟨.of hF2, fun p2 hp2 => q _ p2 (fun b o z => (same_new hp2) b o (r2 b o z)) (r2.free hp2) upd_same⟩⟩
end
end Sw
/-! What words do at all stands: the elements of a machine's set. -/
namespace Sw
def tr (M : Mc) (w : Wd) : List Nat := (List.range M.n).map fun s => M.run s w
section
variable {M : Mc}
theorem tr_len (w : Wd) : (tr M w).length = M.n := by simp [tr]
theorem tr_get {s : Nat} (h : s < M.n) (w : Wd) : (tr M w)[s]? = some (M.run s w) := by unfold tr; rw [List.getElem?_map, List.getElem?_range h]; rfl
theorem tr_eq {u v : Wd} : tr M u = tr M v ↔ ∀ s, s < M.n → M.run s u = M.run s v := by
  constructor
  · intro h s hs
    have := tr_get hs u; rw [h, tr_get hs v] at this
    exact (Option.some.inj this).symm
  · intro h
    refine List.ext_getElem? fun i => ?_
    by_cases hi : i < M.n
    · rw [tr_get hi, tr_get hi, h i hi]
    · rw [List.getElem?_eq_none (by rw [tr_len]; omega), List.getElem?_eq_none (by rw [tr_len]; omega)]
theorem tr_lt (O : M.Ok) (w : Wd) : ∀ x ∈ tr M w, x < M.n := fun x hx => by
  obtain ⟨s, hs, rfl⟩ := List.mem_map.mp hx
  exact O.run_lt (List.mem_range.mp hs) w
theorem tr_nil : tr M [] = List.range M.n := by
  unfold tr
  rw [show (fun s => M.run s []) = id from rfl, List.map_id]
theorem tr_app {u u' v : Wd} (h : tr M u = tr M u') : tr M (u ++ v) = tr M (u' ++ v) := tr_eq.mpr fun s hs => by
  rw [Mc.run_app, Mc.run_app, tr_eq.mp h s hs]
theorem tr_pre (O : M.Ok) {u v v' : Wd} (h : tr M v = tr M v') : tr M (u ++ v) = tr M (u ++ v') := tr_eq.mpr fun s hs => by
  rw [Mc.run_app, Mc.run_app, tr_eq.mp h _ (O.run_lt hs u)]
theorem Mc.Min.sy_tr (O : M.Min) {p q : Wd} (hp : Ov M.ls p) (hq : Ov M.ls q) : Sy M.ls M.lang p q ↔ tr M p = tr M q := (O.sy hp hq).trans tr_eq.symm
/-- the elements noted so far, with their words -/
structure AlgP (M : Mc) (ds : List (List Nat)) (ws : List Wd) : Prop where
  len : ds.length = ws.length
  zero : ws[0]? = some []
  nd : ds.Nodup
  wd : ∀ i w, ws[i]? = some w → Ov M.ls w ∧ w.length ≤ i ∧ ds[i]? = some (tr M w)
/-- the table so far -/
def AlgT (M : Mc) (ds : List (List Nat)) (ws : List Wd) (tb : List (List Nat)) : Prop :=
  ∀ (i : Nat) (r : List Nat) (w : Wd), tb[i]? = some r → ws[i]? = some w → r.length = M.ls.length ∧ ∀ (k c : Nat), M.ls[k]? = some c → ∃ j : Nat, r[k]? = some j ∧ ds[j]? = some (tr M (w ++ [c]))
/-- the row of an element so far -/
def AlgR (M : Mc) (ds : List (List Nat)) (w : Wd) (r : List Nat) (k : Nat) : Prop := r.length = k ∧ ∀ (j c : Nat), j < k → M.ls[j]? = some c → ∃ i : Nat, r[j]? = some i ∧ ds[i]? = some (tr M (w ++ [c]))
theorem AlgP.first : AlgP M [List.range M.n] [[]] := ⟨rfl, rfl, by simp, fun i w h => by
  match i with
  | 0 => cases h; exact ⟨.nil, Nat.le_refl _, by rw [tr_nil]; rfl⟩⟩
variable {ds : List (List Nat)} {ws : List Wd} {tb : List (List Nat)}
theorem AlgP.pos (g : AlgP M ds ws) : 1 ≤ ds.length := by
  have := (List.getElem?_eq_some_iff.mp g.zero).1
  rw [g.len]; omega
theorem AlgP.at (g : AlgP M ds ws) {i : Nat} (h : i < ds.length) : ∃ w, ws[i]? = some w ∧ Ov M.ls w ∧ w.length ≤ i ∧ ds[i]? = some (tr M w) := by
  have := List.getElem?_eq_getElem (show i < ws.length by rw [← g.len]; exact h)
  exact ⟨_, this, g.wd i _ this⟩
theorem AlgP.map (g : AlgP M ds ws) : ds = ws.map (tr M) := by
  refine List.ext_getElem? fun i => ?_
  by_cases hi : i < ds.length
  · obtain ⟨w, h1, _, _, h2⟩ := g.at hi
    rw [h2, List.getElem?_map, h1]; rfl
  · rw [List.getElem?_eq_none (by omega), List.getElem?_eq_none (by rw [List.length_map, ← g.len]; omega)]
theorem AlgP.add (g : AlgP M ds ws) {i c : Nat} {w : Wd} (hi : ws[i]? = some w) (hc : c ∈ M.ls) (hn : tr M (w ++ [c]) ∉ ds) : AlgP M (ds ++ [tr M (w ++ [c])]) (ws ++ [w ++ [c]]) := by
  obtain ⟨h1, h2, h3⟩ := g.wd i w hi
  have hil := (List.getElem?_eq_some_iff.mp hi).1
  refine ⟨by simp [g.len], ?_, ?_, fun j v hj => ?_⟩
  · rw [List.getElem?_append_left (List.getElem?_eq_some_iff.mp g.zero).1]; exact g.zero
  · rw [List.nodup_append]
    refine ⟨g.nd, by simp, fun a ha b hb e => ?_⟩
    rw [List.mem_singleton] at hb; rw [hb] at e; rw [e] at ha; exact hn ha
  · by_cases hjl : j < ws.length
    · rw [List.getElem?_append_left hjl] at hj
      obtain ⟨a1, a2, a3⟩ := g.wd j v hj
      exact ⟨a1, a2, by rw [List.getElem?_append_left (by rw [g.len]; exact hjl)]; exact a3⟩
    · rw [List.getElem?_append_right (by omega)] at hj
      have hj0 : j = ws.length := by
        have := (List.getElem?_eq_some_iff.mp hj).1
        simp at this; omega
      subst hj0
      simp at hj
      subst hj
      exact ⟨h1.app (.one hc), by rw [List.length_append, List.length_singleton]; omega, by rw [List.getElem?_append_right (by rw [g.len]; exact Nat.le_refl _), g.len]; simp⟩
theorem AlgP.great (g : AlgP M ds ws) (O : M.Min) {i c : Nat} {w : Wd} (hi : ws[i]? = some w) (hc : c ∈ M.ls) (hn : tr M (w ++ [c]) ∉ ds) (h200 : ds.length = 200) : Great M.ls M.lang := by
  have g2 := g.add hi hc hn
  refine ⟨ws ++ [w ++ [c]], by rw [List.length_append, ← g.len, h200]; rfl, fun v hv => ?_, ?_⟩
  · obtain ⟨j, hj⟩ := List.mem_iff_getElem?.mp hv
    exact (g2.wd j v hj).1
  · have hnd := g2.nd
    rw [g2.map] at hnd
    have hp : (ws ++ [w ++ [c]]).Pairwise fun p q => tr M p ≠ tr M q := List.pairwise_map.mp hnd
    refine hp.imp_of_mem fun {p q} hp hq hne hs => hne ?_
    obtain ⟨j, hj⟩ := List.mem_iff_getElem?.mp hp
    obtain ⟨k, hk⟩ := List.mem_iff_getElem?.mp hq
    exact (O.sy_tr (g2.wd j p hj).1 (g2.wd k q hk).1).mp hs
/-- a row of the table, done -/
theorem AlgT.add (t : AlgT M ds ws tb) {w : Wd} {r : List Nat} (hw : ws[tb.length]? = some w) (h : AlgR M ds w r M.ls.length) : AlgT M ds ws (tb ++ [r]) := fun i r' w' hi hw' => by
  by_cases hil : i < tb.length
  · rw [List.getElem?_append_left hil] at hi; exact t i r' w' hi hw'
  · rw [List.getElem?_append_right (by omega)] at hi
    have : i = tb.length := by
      have := (List.getElem?_eq_some_iff.mp hi).1
      simp at this; omega
    subst this
    simp at hi; subst hi
    rw [hw] at hw'; cases hw'
    exact ⟨h.1, fun k c hk => h.2 k c (List.getElem?_eq_some_iff.mp hk).1 hk⟩
theorem get_app {α : Type} {l m : List α} {i : Nat} {a : α} (h : l[i]? = some a) : (l ++ m)[i]? = some a := by rw [List.getElem?_append_left (List.getElem?_eq_some_iff.mp h).1]; exact h
theorem AlgT.more (t : AlgT M ds ws tb) (g : AlgP M ds ws) (hl : tb.length ≤ ds.length) (d : List (List Nat)) (v : List Wd) : AlgT M (ds ++ d) (ws ++ v) tb := fun i r w hi hw => by
  have hil := (List.getElem?_eq_some_iff.mp hi).1
  rw [List.getElem?_append_left (by rw [← g.len]; omega)] at hw
  obtain ⟨h1, h2⟩ := t i r w hi hw
  exact ⟨h1, fun k c hk => by obtain ⟨j, h3, h4⟩ := h2 k c hk; exact ⟨j, h3, get_app h4⟩⟩
theorem AlgR.more {w : Wd} {r : List Nat} {k : Nat} (t : AlgR M ds w r k) (d : List (List Nat)) : AlgR M (ds ++ d) w r k := ⟨t.1, fun j c h1 h2 => by
  obtain ⟨i, h3, h4⟩ := t.2 j c h1 h2; exact ⟨i, h3, get_app h4⟩⟩
theorem AlgR.nil {w : Wd} : AlgR M ds w [] 0 := ⟨rfl, fun j c h => absurd h (Nat.not_lt_zero _)⟩
theorem AlgR.add {w : Wd} {r : List Nat} {k i c : Nat} (t : AlgR M ds w r k) (hk : M.ls[k]? = some c) (hi : ds[i]? = some (tr M (w ++ [c]))) : AlgR M ds w (r ++ [i]) (k + 1) := by
  refine ⟨by simp [t.1], fun j d hj hd => ?_⟩
  by_cases hjk : j < k
  · obtain ⟨x, h1, h2⟩ := t.2 j d hjk hd; exact ⟨x, get_app h1, h2⟩
  · obtain rfl : j = k := by omega
    rw [hk] at hd; cases hd
    exact ⟨i, by have := t.1; rw [List.getElem?_append_right (by omega), t.1]; simp, hi⟩
/-- the algebra is done -/
structure AlgD (M : Mc) (ds : List (List Nat)) (ws : List Wd) (tb : List (List Nat)) : Prop where
  p : AlgP M ds ws
  t : AlgT M ds ws tb
  all : tb.length = ds.length
  few : ds.length ≤ 200
theorem AlgD.next (g : AlgD M ds ws tb) {i k c : Nat} {w : Wd} (hi : ds[i]? = some (tr M w)) (hk : M.ls[k]? = some c) : ∃ (r : List Nat) (j : Nat), tb[i]? = some r ∧ r.length = M.ls.length ∧ r[k]? = some j ∧ ds[j]? = some (tr M (w ++ [c])) := by
  have hil := (List.getElem?_eq_some_iff.mp hi).1
  obtain ⟨v, h1, h2, h3, h4⟩ := g.p.at hil
  have ht := List.getElem?_eq_getElem (show i < tb.length by rw [g.all]; exact hil)
  obtain ⟨a1, a2⟩ := g.t i _ v ht h1
  obtain ⟨j, b1, b2⟩ := a2 k c hk
  rw [h4] at hi
  exact ⟨_, j, ht, a1, b1, by rw [b2, tr_app (Option.some.inj hi)]⟩
theorem AlgD.elem (g : AlgD M ds ws tb) {w : Wd} (hw : Ov M.ls w) : ∃ i : Nat, ds[i]? = some (tr M w) := by
  have key : ∀ (v u : Wd) (i : Nat), Ov M.ls v → ds[i]? = some (tr M u) → ∃ j : Nat, ds[j]? = some (tr M (u ++ v)) := by
    intro v
    induction v with
    | nil => intro u i _ h; exact ⟨i, by rw [List.append_nil]; exact h⟩
    | cons c v ih =>
      intro u i hv h
      obtain ⟨k, hk⟩ := List.mem_iff_getElem?.mp hv.hd
      obtain ⟨_, j, _, _, _, hj⟩ := g.next h hk
      obtain ⟨j2, h2⟩ := ih (u ++ [c]) j hv.tl hj
      exact ⟨j2, by rw [h2]; simp⟩
  obtain ⟨h1, h2, h3⟩ := g.p.wd 0 [] g.p.zero
  exact key w [] 0 hw h3
theorem AlgD.not_great (g : AlgD M ds ws tb) (O : M.Min) : ¬ Great M.ls M.lang := fun ⟨vs, h1, h2, h3⟩ => by
  have hnd : (vs.map (tr M)).Nodup := List.pairwise_map.mpr (h3.imp_of_mem fun {p q} hp hq hne e => hne ((O.sy_tr (h2 p hp) (h2 q hq)).mpr e))
  have := nodup_le _ ds hnd fun x hx => by
    obtain ⟨v, hv, rfl⟩ := List.mem_map.mp hx
    obtain ⟨i, hi⟩ := g.elem (h2 v hv)
    exact List.mem_of_getElem? hi
  rw [List.length_map, h1] at this
  have := g.few; omega
theorem AlgP.inj (g : AlgP M ds ws) {i j : Nat} {x : List Nat} (hi : ds[i]? = some x) (hj : ds[j]? = some x) : i = j := nd_inj g.nd hi hj
end
/-! ### what letters ahead make of the elements -/
section
variable {M : Mc} {ds : List (List Nat)} {ws : List Wd} {tb ld : List (List Nat)}
/-- leads: for each element, for each letter, the element of the letter ahead -/
def Leads (M : Mc) (ds : List (List Nat)) (ws : List Wd) (ld : List (List Nat)) : Prop := ld.length = ds.length ∧ ∀ (i : Nat) (w : Wd), ws[i]? = some w → ∃ r : List Nat, ld[i]? = some r ∧ r.length = M.ls.length ∧ ∀ (k c : Nat), M.ls[k]? = some c → ∃ j : Nat, r[k]? = some j ∧ ds[j]? = some (tr M (c :: w))
/-- an arrow of the leads -/
def Arr (ld : List (List Nat)) (i j : Nat) : Prop := ∃ r, ld[i]? = some r ∧ j ∈ r
/-- one of that set leads to another of that set -/
def OnRounds (ld : List (List Nat)) (S : Nat → Prop) : Prop := ∀ i, S i → i < ld.length ∧ ∃ j, Arr ld i j ∧ j ≠ i ∧ S j
theorem Leads.step (L : Leads M ds ws ld) (g : AlgP M ds ws) (O : M.Ok) {i : Nat} {w : Wd} {k c : Nat} (hi : ds[i]? = some (tr M w)) (hk : M.ls[k]? = some c) : ∃ (r : List Nat) (j : Nat), ld[i]? = some r ∧ r.length = M.ls.length ∧ r[k]? = some j ∧ ds[j]? = some (tr M (c :: w)) := by
  obtain ⟨v, h1, h2, h3, h4⟩ := g.at (List.getElem?_eq_some_iff.mp hi).1
  obtain ⟨r, a1, a2, a3⟩ := L.2 i v h1
  obtain ⟨j, b1, b2⟩ := a3 k c hk
  rw [h4] at hi
  exact ⟨r, j, a1, a2, b1, by rw [b2]; exact congrArg some (tr_pre (u := [c]) O (Option.some.inj hi))⟩
/-- p and what a word makes of it lie on a round -/
theorem Leads.round (L : Leads M ds ws ld) (g : AlgP M ds ws) (O : M.Ok) {p x : Wd} {y i j : Nat} (hx : Ov M.ls x) (hy : y ∈ M.ls) (hi : ds[i]? = some (tr M p)) (hj : ds[j]? = some (tr M (y :: p))) (hne : j ≠ i) (hb : tr M (x ++ (y :: p)) = tr M p) :
    ∃ S : Nat → Prop, S i ∧ OnRounds ld S := by
  -- those that lie on the way: reached from i by letters ahead, and led to i by others
  refine ⟨fun m => m < ds.length ∧ ∃ a z : Wd, Ov M.ls a ∧ Ov M.ls z ∧ ds[m]? = some (tr M (a ++ p)) ∧ tr M (z ++ (a ++ p)) = tr M p, ⟨(List.getElem?_eq_some_iff.mp hi).1, [], [], .nil, .nil, hi, rfl⟩, ?_⟩
  rintro m ⟨hm, a, z, ha, hz, h1, h2⟩
  refine ⟨(show m < ld.length by rw [L.1]; exact hm), ?_⟩
  by_cases hmi : m = i
  · subst hmi
    obtain ⟨k, hk⟩ := List.mem_iff_getElem?.mp hy
    obtain ⟨r, j2, c1, c2, c3, c4⟩ := L.step g O hi hk
    have e : j2 = j := g.inj c4 hj
    subst e
    exact ⟨j2, ⟨r, c1, List.mem_of_getElem? c3⟩, hne, (List.getElem?_eq_some_iff.mp hj).1, [y], x, .one hy, hx, hj, hb⟩
  · -- some letter of z, from behind, leads elsewhere
    have key : ∀ (n : Nat) (z : Wd), z.length = n → Ov M.ls z → tr M (z ++ (a ++ p)) = tr M p → ∃ j, Arr ld m j ∧ j ≠ m ∧ j < ds.length ∧ ∃ a z : Wd, Ov M.ls a ∧ Ov M.ls z ∧ ds[j]? = some (tr M (a ++ p)) ∧ tr M (z ++ (a ++ p)) = tr M p := by
      intro n
      induction n with
      | zero =>
        intro z hz0 _ e
        rw [List.length_eq_zero_iff.mp hz0] at e
        rw [show tr M (a ++ p) = tr M p from e] at h1
        exact absurd (g.inj h1 hi) hmi
      | succ n ih =>
        intro z hzn hz e
        have hne0 : z ≠ [] := fun e => by rw [e] at hzn; cases hzn
        obtain ⟨z', c, rfl⟩ : ∃ z' c, z = z' ++ [c] := ⟨z.dropLast, z.getLast hne0, (List.dropLast_concat_getLast hne0).symm⟩
        obtain ⟨k, hk⟩ := List.mem_iff_getElem?.mp hz.right.hd
        obtain ⟨r, j2, c1, c2, c3, c4⟩ := L.step g O h1 hk
        by_cases hj2 : j2 = m
        · subst hj2
          rw [h1] at c4
          refine ih z' (by simp at hzn; exact hzn) hz.left ?_
          rw [← e, List.append_assoc]
          exact tr_pre O (Option.some.inj c4)
        · exact ⟨j2, ⟨r, c1, List.mem_of_getElem? c3⟩, hj2, (List.getElem?_eq_some_iff.mp c4).1, c :: a, z', .cons (List.mem_of_getElem? hk) ha, hz.left, c4, by rw [← e]; simp⟩
    obtain ⟨j2, d1, d2, d3, a', z', d4, d5, d6, d7⟩ := key _ z rfl hz h2
    exact ⟨j2, d1, d2, d3, a', z', d4, d5, d6, d7⟩
end
end Sw
/-! {t: v}, t a tuple of ints and texts. -/
namespace Sw
open PySem PySem.Spec PyProof.Rows L2 LamX NdefX
def tDisp1T (tk tv : TE) : TE := fun σ H Q => ∀ p, H p = none → tk σ (upd H p (.dT [])) fun x H1 => tv σ H1 fun y H2 => ∃ (ks : List L2.Key) (b : Addr), x = .ref b ∧ H2 p = some (.dT []) ∧ H2 b = some (.tup (ks.map kV)) ∧ Q (.ref p) (upd H2 p (.dT [(ks, y)]))
theorem dict_pairsT {prog : Program} {w : World} {K : Type} [DecidableEq K] {knd : HeapKind prog w K} {A : Around} {E : Value → Shared → Prop} {s : Shared} {env : Env} {keys : List (Option Expr)} {values : List Expr} {pos : Pos} {pairs : List (Sem Value × Sem Value)} {Q : Value → Shared → Prop} (hu : knd.room A)
    (hshape : (evalEachOpt keys env).zip ((evalEach values env).map fun v => do let x ← v; standAt pos; pure x) = pairs.map fun p => (some p.1, p.2)) (h0 : pairs ≠ []) (hlen : pairs.length ≤ 15)
    (h : wpAny (model prog w) A (evalPairs pairs) (fun vs s₁ => ∃ ps, CarriesH knd s₁.heap vs ps ∧ s₁.heap.DictOfH knd s.heap.objs.size [] ∧
      ∀ h' tk, h'.DictOfH knd s.heap.objs.size (storedAllH [] ps) → Heap.SameBut s.heap.objs.size s₁.heap h' → Q (.ref s.heap.objs.size) { s₁ with heap := h', toks := tk }) E
      { s with heap := s.heap.push { cls := .type "dict", data := .dict #[] } }) :
    wpAny (model prog w) A (eval (.Dict keys values pos) env) Q E s := by
  rw [arm_eval_Dict, hshape, dictDisplay_pairs pairs h0 (by omega)]
  exact wpAny_bind (wpAny_standAt (wpAny_bind (wpAny_subDictH (knd := knd) (Q := fun d s' => wpAny (model prog w) A (pure (Value.ref d)) Q E s') hu hlen
    (wpAny_mono h (fun vs s₁ h₁ => by obtain ⟨ps, hc, hm, hq⟩ := h₁; exact ⟨ps, hc, hm, fun h' tk a b => wpAny_pure (hq h' tk a b)⟩) fun _ _ e => e))))
theorem pe_disp1T {X : Cx} {pos : Pos} {k v : Expr} {tk tv : TE} (hu : X.A.units + 1 < cLine) (hk : PE X k tk) (hv : PE X v tv) : PE X (.Dict [some k] [v] pos) (tDisp1T tk tv) := by
  refine ⟨fun pins s σ H Q I q => ?_⟩
  have hn := I.hok.fresh (Nat.le_refl s.heap.objs.size)
  have I1 := I.laid (a := s.heap.objs.size) (o := .dT []) (h' := s.heap.push { cls := .type "dict", data := .dict #[] }) (t' := s.toks) (fun _ _ q => Heap.get?_push_of_some _ q) (Nat.le_refl _) (dt_empty s.heap I.big)
  have hp : PPs X pos [some k] [v] [(tk, tv)] := pps_cons hk hv pps_nil
  have hlen := pairTrees_length [some k] [v] X.env pos rfl rfl
  refine dict_pairsT (knd := tupleKind (mixKind X.prog X.w)) (pairs := pairTrees [some k] [v] X.env pos) (show X.A.units < cLine by omega) (zip_pairTrees _ _ X.env pos rfl rfl) (fun e => by rw [e] at hlen; cases hlen) (by rw [hlen]; exact (by decide : 1 ≤ 15))
    (thn (hp.run pins _ σ _ (fun ps H2 => match ps with | [(x, y)] => ∃ (ks : List L2.Key) (b : Addr), x = .ref b ∧ H2 s.heap.objs.size = some (.dT []) ∧ H2 b = some (.tup (ks.map kV)) ∧ Q (.ref s.heap.objs.size) (upd H2 s.heap.objs.size (.dT [(ks, y)])) | _ => False) I1 (q _ hn)) fun ws s2 ⟨ps, H2, I2, rel, hq⟩ => ?_)
  match ps, rel, hq with
  | [(x, y)], rel, ⟨ks, b, ex, ep, eb, q2⟩ =>
    subst ex
    cases rel with
    | @cons p w2 as bs h t =>
      cases t
      obtain ⟨u, r⟩ := w2
      obtain ⟨hu1, hr1⟩ := h
      cases (show u = Value.ref b from hu1)
      obtain ⟨z, hd, xs, r0, dd⟩ := dt_of I2.hok ep
      cases r0
      refine ⟨[(ks, b, r)], ⟨rfl, rfl, key_of I2.hok eb, trivial⟩, dd, fun h' tk2 dd' hs => ⟨.ref s.heap.objs.size, _, ?_, rfl, q2⟩⟩
      obtain ⟨q, es, ep', hq, h2, h3, h4, _, h5⟩ := dd'
      have nb : b ≠ s.heap.objs.size := fun e => by rw [e, ep] at eb; cases eb
      refine d_write I2 (by rw [ep]; exact True.intro) hs ⟨q, hq⟩ ⟨by rw [sizeLine_eq]; show 1 ≤ _; omega, hd, [(ks, b, r)], .cons ⟨rfl, by rw [upd_ne nb]; exact eb, hr1⟩ .nil, q, es, ep', hq, h2, h3, h4, h5⟩
end Sw
/-! Algebras on the heap; what the top leaves of the exception. -/
namespace Sw
open PySem PySem.Spec PyProof.Rows L2 LamX NdefX
structure Tg (K : PySem.W.Frag) (mg : Str → Option Value) (CG : Addr) : Prop where
  g : mg "TooGreat" = some (.ref CG)
  x : PySem.W.excIn K CG [.type "ValueError", .type "Exception", .type "BaseException", .type "object"] "ValueError.__new__" = true
  k : PySem.W.keepIn K (.ref CG) = true
  b : PySem.W.subIn K (.ref CG) (.type "BaseException") = some true
  t : PySem.W.typeIn K (.ref CG) = some (.type "type")
  m : PySem.W.exmOne K (.ref CG) (.ref CG) = some true
/-- tuples of ints at as -/
def TupsAt (H : Hp) (as : List Addr) (ls : List (List Nat)) : Prop := as.length = ls.length ∧ ∀ (i : Nat) (a : Addr) (l : List Nat), as[i]? = some a → ls[i]? = some l → H a = some (.tup (nis l))
theorem TupsAt.nil {H : Hp} : TupsAt H [] [] := ⟨rfl, fun i a l h => by cases h⟩
theorem TupsAt.of {H H' : Hp} {as : List Addr} {ls : List (List Nat)} (h : TupsAt H as ls) (e : ∀ b xs, H b = some (.tup xs) → H' b = some (.tup xs)) : TupsAt H' as ls := ⟨h.1, fun i a l h1 h2 => e _ _ (h.2 i a l h1 h2)⟩
theorem TupsAt.sol {H H' : Hp} {as : List Addr} {ls : List (List Nat)} (h : TupsAt H as ls) (e : Sol H H') : TupsAt H' as ls := h.of fun b xs z => e b _ z trivial
theorem TupsAt.mut {H : Hp} {p : Addr} {o : HO} {as : List Addr} {ls : List (List Nat)} (h : TupsAt H as ls) (hp : ∀ xs, H p ≠ some (.tup xs)) : TupsAt (upd H p o) as ls := h.of fun b xs z => by rw [upd_ne (fun e => hp xs (by rw [← e]; exact z))]; exact z
theorem TupsAt.add {H : Hp} {as : List Addr} {ls : List (List Nat)} {a : Addr} {l : List Nat} (h : TupsAt H as ls) (ha : H a = some (.tup (nis l))) : TupsAt H (as ++ [a]) (ls ++ [l]) := by
  refine ⟨by simp [h.1], fun i b m h1 h2 => ?_⟩
  by_cases hi : i < as.length
  · rw [List.getElem?_append_left hi] at h1
    rw [List.getElem?_append_left (by rw [← h.1]; exact hi)] at h2
    exact h.2 i b m h1 h2
  · have : i = as.length := by
      have := (List.getElem?_eq_some_iff.mp h1).1
      simp at this; omega
    subst this
    simp at h1
    rw [h.1] at h2
    simp at h2
    rw [← h1, ← h2]; exact ha
theorem TupsAt.get {H : Hp} {as : List Addr} {ls : List (List Nat)} {i : Nat} {l : List Nat} (h : TupsAt H as ls) (hi : ls[i]? = some l) : ∃ a, as[i]? = some a ∧ H a = some (.tup (nis l)) := by
  have hl := (List.getElem?_eq_some_iff.mp hi).1
  have := List.getElem?_eq_getElem (show i < as.length by rw [h.1]; exact hl)
  exact ⟨_, this, h.2 i _ l this hi⟩
/-- all but those at L stands -/
def Bt (L : List Addr) (H H' : Hp) : Prop := ∀ q o, H q = some o → q ∉ L → H' q = some o
theorem Bt.refl {L : List Addr} {H : Hp} : Bt L H H := fun _ _ h _ => h
theorem Bt.trans {L : List Addr} {H H1 H2 : Hp} (a : Bt L H H1) (b : Bt L H1 H2) : Bt L H H2 := fun q o h n => b q o (a q o h n) n
theorem Bt.of {L : List Addr} {H H' : Hp} (e : Same H H') : Bt L H H' := fun q o h _ => e q o h
theorem Bt.mut {L : List Addr} {H H' : Hp} {p : Addr} {o : HO} (a : Bt L H H') (h : p ∈ L) : Bt L H (upd H' p o) := fun q u z n => by
  have hne : q ≠ p := fun e => n (by rw [e]; exact h)
  rw [upd_ne hne]; exact a q u z n
/-! ### the instance -/
def fA1 (b : Addr) : List (Str × V) := [("base", .ref b)]
def fA2 (b pd : Addr) : List (Str × V) := [("base", .ref b), ("doings", .ref pd)]
def fA3 (b pd pw : Addr) : List (Str × V) := [("base", .ref b), ("doings", .ref pd), ("word_list", .ref pw)]
def fA4 (b pd pw pn : Addr) : List (Str × V) := [("base", .ref b), ("doings", .ref pd), ("word_list", .ref pw), ("numbers_by", .ref pn)]
def fA (b pd pw pn pt : Addr) : List (Str × V) := [("base", .ref b), ("doings", .ref pd), ("word_list", .ref pw), ("numbers_by", .ref pn), ("table", .ref pt)]
theorem pA2 {b pd : Addr} : putF "doings" (.ref pd) (fA1 b) = fA2 b pd := putF_app fun p hp => by
  rw [List.mem_singleton.mp hp]; show ("base" : Str) ≠ ("doings" : Str); decide +kernel
theorem all_ne {fs : List (Str × V)} {x : Str} (h : (fs.all fun p => !(p.1 == x)) = true) : ∀ p ∈ fs, p.1 ≠ x := fun p hp e => by
  have := List.all_eq_true.mp h p hp
  rw [e] at this; simp at this
theorem pA3 {b pd pw : Addr} : putF "word_list" (.ref pw) (fA2 b pd) = fA3 b pd pw := putF_app (all_ne (by
  show ([("base" : Str), ("doings" : Str)].all fun x => !(x == ("word_list" : Str))) = true; decide +kernel))
theorem pA4 {b pd pw pn : Addr} : putF "numbers_by" (.ref pn) (fA3 b pd pw) = fA4 b pd pw pn := putF_app (all_ne (by
  show ([("base" : Str), ("doings" : Str), ("word_list" : Str)].all fun x => !(x == ("numbers_by" : Str))) = true; decide +kernel))
theorem pA5 {b pd pw pn pt : Addr} : putF "table" (.ref pt) (fA4 b pd pw pn) = fA b pd pw pn pt := putF_app (all_ne (by
  show ([("base" : Str), ("doings" : Str), ("word_list" : Str), ("numbers_by" : Str)].all fun x => !(x == ("table" : Str))) = true; decide +kernel))
section
variable {b pd pw pn pt : Addr}
theorem lk_ne {x y : Str} {v : V} {fs : List (Str × V)} (h : (x == y) = false) : ((y, v) :: fs).lookup x = fs.lookup x := by rw [List.lookup_cons, h]
theorem lk_eq {x : Str} {v : V} {fs : List (Str × V)} : ((x, v) :: fs).lookup x = some v := by rw [List.lookup_cons, beq_self_eq_true]
theorem fA_base : (fA b pd pw pn pt).lookup ("base" : Str) = some (.ref b) := lk_eq
theorem fA_do : (fA b pd pw pn pt).lookup ("doings" : Str) = some (.ref pd) := (lk_ne (by decide +kernel)).trans lk_eq
theorem fA_wl : (fA b pd pw pn pt).lookup ("word_list" : Str) = some (.ref pw) := (lk_ne (by decide +kernel)).trans ((lk_ne (by decide +kernel)).trans lk_eq)
theorem fA_nb : (fA b pd pw pn pt).lookup ("numbers_by" : Str) = some (.ref pn) := (lk_ne (by decide +kernel)).trans ((lk_ne (by decide +kernel)).trans ((lk_ne (by decide +kernel)).trans lk_eq))
theorem fA_tb : (fA b pd pw pn pt).lookup ("table" : Str) = some (.ref pt) := (lk_ne (by decide +kernel)).trans ((lk_ne (by decide +kernel)).trans ((lk_ne (by decide +kernel)).trans ((lk_ne (by decide +kernel)).trans lk_eq)))
theorem fA_no {m : Str} (h : (([("base" : Str), ("doings" : Str), ("word_list" : Str), ("numbers_by" : Str), ("table" : Str)] : List Str).all fun x => !(m == x)) = true) : (fA b pd pw pn pt).lookup m = none := lookup_no (by simpa [fA] using h)
end
/-- the algebra at a, its fields told -/
structure AlgF (CM CA : Addr) (H : Hp) (a dx b pd pw pn pt : Addr) (M : Mc) (ds : List (List Nat)) (ws : List Wd) (tb : List (List Nat)) : Prop where
  i : H a = some (.ins CA dx (fA b pd pw pn pt))
  mach : MachAt CM H b M
  d : ∃ das : List Addr, H pd = some (.lst (das.map .ref)) ∧ TupsAt H das ds
  w : H pw = some (.lst (ws.map VS))
  n : H pn = some (.dT (idxFrom tk 0 ds))
  t : ∃ tas : List Addr, H pt = some (.lst (tas.map .ref)) ∧ TupsAt H tas tb
def AlgAt (CM CA : Addr) (H : Hp) (a : Addr) (M : Mc) (ds : List (List Nat)) (ws : List Wd) (tb : List (List Nat)) : Prop := ∃ dx b pd pw pn pt, AlgF CM CA H a dx b pd pw pn pt M ds ws tb
theorem AlgF.sol {CM CA : Addr} {H H' : Hp} {a dx b pd pw pn pt : Addr} {M : Mc} {ds : List (List Nat)} {ws : List Wd} {tb : List (List Nat)} (h : AlgF CM CA H a dx b pd pw pn pt M ds ws tb) (e : Sol H H') : AlgF CM CA H' a dx b pd pw pn pt M ds ws tb := by
  obtain ⟨i, m, ⟨das, d1, d2⟩, w, n, ⟨tas, t1, t2⟩⟩ := h
  exact ⟨e _ _ i trivial, m.sol e, ⟨das, e _ _ d1 trivial, d2.sol e⟩, e _ _ w trivial, e _ _ n trivial, ⟨tas, e _ _ t1 trivial, t2.sol e⟩⟩
theorem AlgAt.sol {CM CA : Addr} {H H' : Hp} {a : Addr} {M : Mc} {ds : List (List Nat)} {ws : List Wd} {tb : List (List Nat)} (h : AlgAt CM CA H a M ds ws tb) (e : Sol H H') : AlgAt CM CA H' a M ds ws tb := by
  obtain ⟨dx, b, pd, pw, pn, pt, h⟩ := h
  exact ⟨dx, b, pd, pw, pn, pt, h.sol e⟩
end Sw
/-! Algebra.led_on. -/
namespace Sw
open PySem PySem.Spec PyProof.Rows L2 LamX NdefX
section
variable {P : Program} {w : World} {K : PySem.W.Frag} {mg : Str → Option Value} {base : Heap} {CM CA CW CG : Addr} {D : Cds}
/-- what is free later was free before -/
def Dom (H H' : Hp) : Prop := ∀ q, H' q = none → H q = none
theorem Dom.refl {H : Hp} : Dom H H := fun _ h => h
theorem Dom.same {H H1 H2 : Hp} (d : Dom H H1) (e : Same H1 H2) : Dom H H2 := fun q h => d q (by
  cases z : H1 q with
  | none => rfl
  | some o => rw [e _ _ z] at h; cases h)
theorem Dom.upd {H H1 : Hp} {p : Addr} {o : HO} (d : Dom H H1) : Dom H (L2.upd H1 p o) := fun q h => d q (by
  unfold L2.upd at h
  split at h
  · cases h
  · exact h)
structure LI (CM CA : Addr) (T0 : List NTab) (H0 H : Hp) (a dx b pd pw pn pt F : Addr) (M : Mc) (ds : List (List Nat)) (ws : List Wd) (tb : List (List Nat)) (wd : Wd) (row : List Nat) (k : Nat) : Prop where
  f : AlgF CM CA H a dx b pd pw pn pt M ds ws tb
  g : Gr T0 H0 H
  dom : Dom H0 H
  r : H F = some (.lst (nis row))
  p : AlgP M ds ws
  few : ds.length ≤ 200
  row : AlgR M ds wd row k
theorem LI.same {CM CA : Addr} {T0 : List NTab} {H0 H H' : Hp} {a dx b pd pw pn pt F : Addr} {M : Mc} {ds : List (List Nat)} {ws : List Wd} {tb : List (List Nat)} {wd : Wd} {row : List Nat} {k : Nat} (h : LI CM CA T0 H0 H a dx b pd pw pn pt F M ds ws tb wd row k) (e : Same H H') : LI CM CA T0 H0 H' a dx b pd pw pn pt F M ds ws tb wd row k :=
  ⟨h.f.sol (.of e), h.g.trans (.of e), h.dom.same e, e _ _ h.r, h.p, h.few, h.row⟩
def spLedOn (CM CA CG : Addr) (T0 : List NTab) : Sp := fun vs H Q E => ∃ (a r dx b pd pw pn pt : Addr) (M : Mc) (ds : List (List Nat)) (ws : List Wd) (tb : List (List Nat)) (wd : Wd) (i : Nat) (H0 : Hp), vs = [.ref a, .ref r, vi i] ∧
  AlgF CM CA H a dx b pd pw pn pt M ds ws tb ∧ Gr T0 H0 H ∧ Dom H0 H ∧ RowsAt H0 r M.rows ∧ MachAt CM H0 b M ∧ H0 pd = none ∧ H0 pw = none ∧ H0 pn = none ∧ pd ≠ pw ∧ pt ≠ pd ∧ pt ≠ pw ∧ M.Min ∧ AlgP M ds ws ∧ ds.length ≤ 200 ∧ ws[i]? = some wd ∧
  (∀ H' p row d v, Gr T0 H0 H' → Dom H0 H' → AlgF CM CA H' a dx b pd pw pn pt M (ds ++ d) (ws ++ v) tb → AlgP M (ds ++ d) (ws ++ v) → (ds ++ d).length ≤ 200 → AlgR M (ds ++ d) wd row M.ls.length → H' p = some (.tup (nis row)) → Q (.ref p) H') ∧
  (Great M.ls M.lang → ∀ H', Gr T0 H0 H' → E (.ref CG) none H')
theorem ok_Algebra_led_on (T : Tx K mg CM CA CW CG) (G : Tg K mg CG) {T0 : List NTab} : Pm P w K mg base (CX P w) 2 CA "led_on" P_Algebra_led_on [] (spLedOn CM CA CG T0) := by
  refine T.d_Algebra_led_on.pm sc_Algebra_led_on (fun _ _ _ _ _ _ us hl => match us, hl with | [_, _, _], _ => rfl) (fun vs H Q E h => ?_) (fun f cdv A outer s H vs Q E hr h => ?_)
  · obtain ⟨a, r, dx, b, pd, pw, pn, pt, M, ds, ws, tb, wd, i, H0, rfl, _⟩ := h; rfl
  · obtain ⟨a, r, dx, b, pd, pw, pn, pt, M, ds, ws, tb, wd, i, H0, rfl, hF, g, dm, hR, hMb, n1, n2, n3, ndw, ntd, ntw, O, hp, h200, hwi, q1, q2⟩ := h
    have hn60 := O.le
    have hu := hu_of hr
    obtain ⟨ov, hwl, hdi⟩ := hp.wd i wd hwi
    obtain ⟨as, hRp, hrs⟩ := id hR
    refine ⟨_, (pss_cons (ps_set (i := 3) sc_Algebra_led_on.nd rfl (Or.inl rfl) (pe_lst pa_nil))
 (pss_cons (ps_for (passes_of rfl) rfl (pi_enumS rfl T.z_enumerate (pa_cons (pe_methP0 (pe_fld (pv 0) rfl) T.clCM (ok_Machine_letters T) (hr.mono (by decide)) pass0) pa_nil)) (pg_tup rfl (pgs_cons (pg_name (i := 4) sc_Algebra_led_on.nd rfl (Or.inr rfl) (Or.inl rfl)) (pgs_cons (pg_name (i := 5) sc_Algebra_led_on.nd rfl (Or.inl rfl) (Or.inl rfl)) pgs_nil)))
 (pss_cons (ps_set (i := 6) sc_Algebra_led_on.nd rfl (Or.inl rfl) (pe_callTy call_tuple_of rfl T.z_tuple (by decide +kernel) (pa_cons (pe_lc (own := [("stand", 7)]) rfl sc_Algebra_led_on.nd (pi_tup (pe_ix ix_list (pe_fld (pv 0) rfl) (pv 2) (fun _ _ => rfl))) (blkOk_by (own := [("stand", 7)]) (N := N_Algebra_led_on) (sc := defScope s_Algebra_led_on) (by decide +kernel)) (fun _ _ _ _ _ => (pg_name (i := 7) sc_Algebra_led_on.nd rfl (Or.inl rfl) (Or.inr rfl))) (fun _ _ _ _ _ => pts_nil) (fun _ _ _ _ _ => (pe_ix (ixT_K K rfl) (pe_ix (ixT_K K rfl) (pe_ix (ixL_K K rfl) (pv 1) (pv 7) (fun _ _ => rfl)) pe_int (fun _ _ => rfl)) (pv 4) (fun _ _ => rfl)))) pa_nil)))
 (Evl.pss_cut (ps_if (pt_cmp (pc_dnotin hu (pv 6) (pe_fld (pv 0) rfl)))
 (pss_cons (ps_if (pt_cmpR op_eq (pe_callB call_len rfl T.z_len boot_len (pa_cons (pe_fld (pv 0) rfl) pa_nil)) (pe_globI rfl T.i_MOST_ELEMENTS) (nomark _))
 (pss_one (ps_raise rfl (takes_of rfl rfl rfl rfl) (pmk_own PySem.F.excBase_ValueError G.x G.g G.k (raises_own G.b G.t) rfl)))
 pss_nil)
 (pss_cons (ps_dput hu (pe_fld (pv 0) rfl) (pv 6) (pe_callB call_len rfl T.z_len boot_len (pa_cons (pe_fld (pv 0) rfl) pa_nil)) rfl)
 (pss_cons (ps_expr (pe_bm PySem.F.plainAttrs_list PySem.F.slot_list_append PySem.F.type_list_append mt_append (pe_fld (pv 0) rfl) (pa_cons (pv 6) pa_nil)))
 (pss_one (ps_expr (pe_bm PySem.F.plainAttrs_list PySem.F.slot_list_append PySem.F.type_list_append mt_append (pe_fld (pv 0) rfl) (pa_cons (pe_op op_add_str (pe_ix ix_list (pe_fld (pv 0) rfl) (pv 2) (fun _ _ => rfl)) (pv 5)) pa_nil)))))))
 pss_nil)
 (pss_one (ps_expr (pe_bm PySem.F.plainAttrs_list PySem.F.slot_list_append PySem.F.type_list_append mt_append (pv 3) (pa_cons (pe_dget hu (pe_fld (pv 0) rfl) (pv 6) (fun _ _ => rfl)) pa_nil)))))))
 (pss_one (ps_ret (pe_callTy call_tuple_of rfl T.z_tuple (by decide +kernel) (pa_cons (pv 3) pa_nil)))))), ?_⟩
    obtain ⟨dy, pb, hb1, _⟩ := id hMb
    refine ⟨by show 0 ≤ 2 ^ 24; decide, fun F hF0 => ?_⟩
    have e1 : Same H (upd H F (.lst [])) := same_new hF0
    have nFd : F ≠ pd := fun e => by obtain ⟨das, h1, _⟩ := hF.d; rw [e] at hF0; rw [hF0] at h1; cases h1
    have nFw : F ≠ pw := fun e => by have h1 := hF.w; rw [e] at hF0; rw [hF0] at h1; cases h1
    have nFn : F ≠ pn := fun e => by have h1 := hF.n; rw [e] at hF0; rw [hF0] at h1; cases h1
    have nFt : F ≠ pt := fun e => by obtain ⟨das, h1, _⟩ := hF.t; rw [e] at hF0; rw [hF0] at h1; cases h1
    have l0 : LI CM CA T0 H0 (upd H F (.lst [])) a dx b pd pw pn pt F M (ds ++ []) (ws ++ []) tb wd [] 0 := by
      rw [List.append_nil, List.append_nil]
      exact ⟨hF.sol (.of e1), g.trans (.of e1), dm.same e1, upd_same, hp, h200, .nil⟩
    have nF0 : H0 F = none := dm _ hF0
    generalize upd H F (.lst []) = H1 at l0 e1
    refine ⟨_, rfl, a, CA, dx, _, _, rfl, l0.f.i, T.clCA, T.nCA_base, fA_base, b, dy, _, rfl, l0.g.sol _ _ hb1 trivial, fM_no _ _ (by decide +kernel) (by decide +kernel), b, M, rfl, hMb.sol l0.g.sol, ?_⟩
    refine ⟨_, rfl, for_it (walk_enumS (z := S M.ls)) (fun k σ H2 => ∃ (d : List (List Nat)) (v : List Wd) (row : List Nat) (v4 v5 v6 v7 : Option V), σ = [some (.ref a), some (.ref r), some (vi i), some (.ref F), v4, v5, v6, v7] ∧ LI CM CA T0 H0 H2 a dx b pd pw pn pt F M (ds ++ d) (ws ++ v) tb wd row k)
      ⟨[], [], [], _, _, _, _, rfl, l0⟩ (fun _ _ _ _ _ => trivial) ?_ ?_⟩
    · rintro k x σ H2 H2' hk ⟨d, v, row, v4, v5, v6, v7, rfl, l2⟩ ⟨Tp, x1, y1, rfl, hT, rfl, hx, hy⟩
      obtain rfl : x1 = vi k := (Option.some.inj hx).symm
      obtain ⟨c, hc, rfl⟩ : ∃ c, M.ls[k]? = some c ∧ y1 = VS [c] := by
        dsimp only at hy
        cases e : (S M.ls).cps[k]? with
        | none => rw [e] at hy; cases hy
        | some c => rw [e] at hy; exact ⟨c, S_get.mp e, (Option.some.inj hy).symm⟩
      have hcl := List.mem_of_getElem? hc
      have e3 : Same H2 (upd H2 Tp (.tup [vi k, VS [c]])) := same_new hT
      have hT3 : upd H2 Tp (.tup [vi k, VS [c]]) Tp = some (.tup [vi k, VS [c]]) := upd_same
      have l3 := l2.same e3
      show gTup _ _ _ _ _ (upd H2 Tp (.tup [vi k, VS [c]])) _
      generalize upd H2 Tp (.tup [vi k, VS [c]]) = H3 at l3 hT3
      obtain ⟨das, hpd, hds⟩ := id l3.f.d
      have hdi2 : (ds ++ d)[i]? = some (tr M wd) := get_app hdi
      obtain ⟨da, hda, hdat⟩ := hds.get hdi2
      refine ⟨Tp, _, rfl, .inl (.inl hT3), rfl, _, _, rfl, _, _, rfl, rfl, ?_⟩
      refine ⟨_, rfl, a, CA, dx, _, _, rfl, l3.f.i, T.clCA, T.nCA_doings, fA_do, _, rfl, pd, _, _, _, rfl, rfl, .of hpd, atI_nat (refs_get hda), da, rfl, ⟨_, .inl (.inl hdat)⟩, fun L hL => lc_map (walk_tup (xs := nis (tr M wd))) (Same H3) (fun j => vi (M.go ((tr M wd).getD j 0) c)) (by rw [nis_len, tr_len]; exact sl (by omega)) (same_new hL) (fun j H4 hj r hD2 => .inl (.inl (r _ _ hdat))) (fun H4 xs ys r _ => same_mut r hL) (fun j x H4 H5 Q' hj r1 hD2 hY kk => ?_) (fun H4 r4 hL4 => ?_)⟩
      · obtain ⟨rfl, hx⟩ := hY
        obtain ⟨st, hst, rfl⟩ := nis_inv hx
        have hstN := tr_lt O.toOk wd st (List.mem_of_getElem? hst)
        obtain ⟨ro, hro, f1, f2, _⟩ := O.row hstN
        obtain ⟨a0, ha0, t0, ht1, ht2⟩ := hrs.get hro
        have hk2 : (nis ro.2)[k]? = some (vi (M.go st c)) := nis_get (by rw [f2]; exact O.tos_get hstN hc)
        have kk2 := kk _ hD2 r1
        rw [getD_of hst] at kk2
        exact ⟨rfl, _, rfl, _, rfl, _, _, _, _, rfl, rfl, .of (r1 _ _ (l3.g.sol _ _ hRp trivial)), atI_nat (refs_get ha0), _, _, 1, _, rfl, rfl, .inl (.inl (r1 _ _ (l3.g.sol _ _ ht1 trivial))), rfl, _, rfl, _, _, _, _, rfl, rfl, .inl (.inl (r1 _ _ (l3.g.sol _ _ ht2 trivial))), atI_nat hk2, kk2⟩
      · have htab : tab (fun j => vi (M.go ((tr M wd).getD j 0) c)) (nis (tr M wd)).length = nis (tr M (wd ++ [c])) := by
          refine tab_eq (by rw [nis_len, nis_len, tr_len, tr_len]) fun j x hx => ?_
          obtain ⟨n, hn, rfl⟩ := nis_inv hx
          have hj : j < M.n := by have := (List.getElem?_eq_some_iff.mp hn).1; rwa [tr_len] at this
          rw [tr_get hj, Mc.run_app] at hn
          rw [getD_of (tr_get hj wd)]
          cases hn; rfl
        rw [htab] at hL4
        have l4 := l3.same r4
        refine ⟨_, _, rfl, .inl ⟨.of hL4, fun dg hdg => ?_⟩⟩
        have e5 : Same H4 (upd H4 dg (.tup (nis (tr M (wd ++ [c]))))) := same_new hdg
        have hdg5 : upd H4 dg (.tup (nis (tr M (wd ++ [c])))) dg = some (.tup (nis (tr M (wd ++ [c])))) := upd_same
        have l5 := l4.same e5
        show gName _ _ _ (upd H4 dg (.tup (nis (tr M (wd ++ [c]))))) _
        generalize upd H4 dg (.tup (nis (tr M (wd ++ [c])))) = H5 at l5 hdg5
        have hpos := hp.pos
        have hw2 : (ws ++ v)[i]? = some wd := get_app hwi
        refine ⟨fun σ H6 => ∃ (d2 : List (List Nat)) (v2 : List Wd) (j : Nat), σ = [some (.ref a), some (.ref r), some (vi i), some (.ref F), some (vi k), some (VS [c]), some (.ref dg), v7] ∧ LI CM CA T0 H0 H6 a dx b pd pw pn pt F M (ds ++ d2) (ws ++ v2) tb wd row k ∧ H6 dg = some (.tup (nis (tr M (wd ++ [c])))) ∧ (ds ++ d2)[j]? = some (tr M (wd ++ [c])), ?_, ?_⟩
        · by_cases hm : tr M (wd ++ [c]) ∈ ds ++ d
          · obtain ⟨j, hj⟩ := List.mem_iff_getElem?.mp hm
            refine ⟨_, rfl, _, rfl, a, CA, dx, _, _, rfl, l5.f.i, T.clCA, T.nCA_numbers_by, fA_nb, pn, _, rfl, get_tk l5.f.n hdg5 (by rw [valV_idx tk_inj, if_pos hm]), _, rfl, ?_⟩
            exact ⟨d, v, j, rfl, l5, hdg5, hj⟩
          · have hv : valV (idxFrom tk 0 (ds ++ d)) (tk (tr M (wd ++ [c]))) = none := by rw [valV_idx tk_inj, if_neg hm]
            obtain ⟨das5, hpd5, hds5⟩ := id l5.f.d
            refine ⟨_, rfl, _, rfl, a, CA, dx, _, _, rfl, l5.f.i, T.clCA, T.nCA_numbers_by, fA_nb, pn, _, rfl, get_tk l5.f.n hdg5 hv, _, rfl, ?_⟩
            have hlen : (das5.map V.ref).length = (ds ++ d).length := by rw [List.length_map, hds5.1]
            refine ⟨_, rfl, a, CA, dx, _, _, rfl, l5.f.i, T.clCA, T.nCA_doings, fA_do, _, (ds ++ d).length, rfl, .inl ⟨_, .of hpd5, hlen.symm⟩, rfl, _, rfl, ?_⟩
            by_cases h2 : (ds ++ d).length = 200
            · rw [decide_eq_true (show V.int (((ds ++ d).length : Nat) : Int) = V.int 200 by rw [h2]; rfl)]
              exact q2 (l5.p.great O hw2 hcl hm h2) _ l5.g
            · rw [decide_eq_false (show ¬ (V.int (((ds ++ d).length : Nat) : Int) = V.int 200) from fun e => h2 (by injection e; omega))]
              have hdl : (ds ++ d).length < 200 := by have := l5.few; omega
              refine ⟨_, rfl, a, CA, dx, _, _, rfl, l5.f.i, T.clCA, T.nCA_doings, fA_do, _, (ds ++ d).length, rfl, .inl ⟨_, .of hpd5, hlen.symm⟩, _, rfl, a, CA, dx, _, _, rfl, l5.f.i, T.clCA, T.nCA_numbers_by, fA_nb, _, rfl, pn, _, rfl, DPut.t (k := tk (tr M (wd ++ [c]))) l5.f.n (by rw [tk_kV]; exact hdg5) (by rw [idxFrom_len]; exact slt (by omega)), ?_⟩
              rw [putK_new _ hv]
              have eD : idxFrom tk 0 (ds ++ d) ++ [(tk (tr M (wd ++ [c])), V.int (((ds ++ d).length : Nat) : Int))] = idxFrom tk 0 (ds ++ d ++ [tr M (wd ++ [c])]) := by rw [idxFrom_snoc, Nat.zero_add]
              rw [eD]
              have nan : a ≠ pn := ne_of l5.f.i l5.f.n (by intro z; cases z)
              have nad : a ≠ pd := ne_of l5.f.i hpd5 (by intro z; cases z)
              have naw : a ≠ pw := ne_of l5.f.i l5.f.w (by intro z; cases z)
              have nnd : pn ≠ pd := ne_of l5.f.n hpd5 (by intro z; cases z)
              have nnw : pn ≠ pw := ne_of l5.f.n l5.f.w (by intro z; cases z)
              obtain ⟨tas5, hpt5, hts5⟩ := id l5.f.t
              have nnt : pn ≠ pt := ne_of l5.f.n hpt5 (by intro z; cases z)
              have g6 : Gr T0 H0 (upd H5 pn (.dT (idxFrom tk 0 (ds ++ d ++ [tr M (wd ++ [c])])))) := gr_mut l5.g n3 l5.f.n dt_ne
              have dm6 : Dom H0 (upd H5 pn (.dT (idxFrom tk 0 (ds ++ d ++ [tr M (wd ++ [c])])))) := l5.dom.upd
              have hi6 : upd H5 pn (.dT (idxFrom tk 0 (ds ++ d ++ [tr M (wd ++ [c])]))) a = _ := (upd_ne nan).trans l5.f.i
              have hd6 : upd H5 pn (.dT (idxFrom tk 0 (ds ++ d ++ [tr M (wd ++ [c])]))) pd = _ := (upd_ne nnd.symm).trans hpd5
              have hds6 := hds5.mut (o := .dT (idxFrom tk 0 (ds ++ d ++ [tr M (wd ++ [c])]))) (dtNT l5.f.n)
              have hw6 : upd H5 pn (.dT (idxFrom tk 0 (ds ++ d ++ [tr M (wd ++ [c])]))) pw = _ := (upd_ne nnw.symm).trans l5.f.w
              have ht6 : upd H5 pn (.dT (idxFrom tk 0 (ds ++ d ++ [tr M (wd ++ [c])]))) pt = _ := (upd_ne nnt.symm).trans hpt5
              have hts6 := hts5.mut (o := .dT (idxFrom tk 0 (ds ++ d ++ [tr M (wd ++ [c])]))) (dtNT l5.f.n)
              have hr6 : upd H5 pn (.dT (idxFrom tk 0 (ds ++ d ++ [tr M (wd ++ [c])]))) F = _ := (upd_ne nFn).trans l5.r
              have hn6 : upd H5 pn (.dT (idxFrom tk 0 (ds ++ d ++ [tr M (wd ++ [c])]))) pn = _ := upd_same
              have hg6 : upd H5 pn (.dT (idxFrom tk 0 (ds ++ d ++ [tr M (wd ++ [c])]))) dg = _ := (upd_ne (ne_of hdg5 l5.f.n (by intro z; cases z))).trans hdg5
              generalize upd H5 pn (.dT (idxFrom tk 0 (ds ++ d ++ [tr M (wd ++ [c])]))) = H6 at *
              refine ⟨_, rfl, a, CA, dx, _, _, rfl, hi6, T.clCA, T.nCA_doings, fA_do, .inl ⟨rfl, _, .of hd6⟩, _, rfl, _, _, _, rfl, rfl, hd6, by rw [hlen]; exact slt (by omega), ?_⟩
              have g7 : Gr T0 H0 (upd H6 pd (.lst (das5.map V.ref ++ [.ref dg]))) := gr_mut g6 n1 hd6 lst_ne
              have dm7 : Dom H0 (upd H6 pd (.lst (das5.map V.ref ++ [.ref dg]))) := dm6.upd
              have hi7 : upd H6 pd (.lst (das5.map V.ref ++ [.ref dg])) a = _ := (upd_ne nad).trans hi6
              have hd7 : upd H6 pd (.lst (das5.map V.ref ++ [.ref dg])) pd = _ := upd_same
              have hds7 := hds6.mut (o := .lst (das5.map V.ref ++ [.ref dg])) (lstNT hd6)
              have hw7 : upd H6 pd (.lst (das5.map V.ref ++ [.ref dg])) pw = _ := (upd_ne ndw.symm).trans hw6
              have ht7 : upd H6 pd (.lst (das5.map V.ref ++ [.ref dg])) pt = _ := (upd_ne ntd).trans ht6
              have hts7 := hts6.mut (o := .lst (das5.map V.ref ++ [.ref dg])) (lstNT hd6)
              have hr7 : upd H6 pd (.lst (das5.map V.ref ++ [.ref dg])) F = _ := (upd_ne nFd).trans hr6
              have hn7 : upd H6 pd (.lst (das5.map V.ref ++ [.ref dg])) pn = _ := (upd_ne nnd).trans hn6
              have hg7 : upd H6 pd (.lst (das5.map V.ref ++ [.ref dg])) dg = _ := (upd_ne (ne_of hg6 hd6 (by intro z; cases z))).trans hg6
              generalize upd H6 pd (.lst (das5.map V.ref ++ [.ref dg])) = H7 at *
              have hwl7 : (ws ++ v).length = (ds ++ d).length := l5.p.len.symm
              refine ⟨_, rfl, a, CA, dx, _, _, rfl, hi7, T.clCA, T.nCA_word_list, fA_wl, .inl ⟨rfl, _, .of hw7⟩, _, rfl, a, CA, dx, _, _, rfl, hi7, T.clCA, T.nCA_word_list, fA_wl, _, rfl, pw, _, _, _, rfl, rfl, .of hw7, atI_nat (vs_get hw2), _, rfl, _, _, rfl, rfl, by rw [S_len, S_len]; show _ + 1 ≤ 2 ^ 24; have := (List.getElem?_eq_some_iff.mp hw2).1; omega, _, _, _, rfl, rfl, hw7, by rw [List.length_map, hwl7]; exact slt (by omega), ?_⟩
              rw [S_app]
              have p8 := l5.p.add hw2 hcl hm
              have ht8 : upd H7 pw (.lst ((ws ++ v).map VS ++ [VS (wd ++ [c])])) pt = _ := (upd_ne ntw).trans ht7
              refine ⟨d ++ [tr M (wd ++ [c])], v ++ [wd ++ [c]], (ds ++ d).length, rfl, ?_, (upd_ne (ne_of hg7 hw7 (by intro z; cases z))).trans hg7, by rw [← List.append_assoc]; simp⟩
              rw [← List.append_assoc, ← List.append_assoc]
              refine ⟨⟨(upd_ne naw).trans hi7, hMb.sol ((gr_mut g7 n2 hw7 lst_ne).sol), ⟨das5 ++ [dg], by rw [upd_ne ndw, hd7]; simp, (hds7.mut (lstNT hw7)).add ((upd_ne (ne_of hg7 hw7 (by intro z; cases z))).trans hg7)⟩, by rw [upd_same]; simp, (upd_ne nnw).trans hn7, tas5, ht8, hts7.mut (lstNT hw7)⟩, gr_mut g7 n2 hw7 lst_ne, dm7.upd, (upd_ne nFw).trans hr7, p8, by rw [List.length_append, List.length_singleton]; omega, l5.row.more _⟩
        · rintro σ H6 ⟨d2, v2, j, rfl, l6, hdg6, hj6⟩
          have hk4 : k < M.ls.length := (List.getElem?_eq_some_iff.mp hc).1
          have := O.lle
          refine ⟨_, rfl, .inl ⟨rfl, _, .of l6.r⟩, _, rfl, a, CA, dx, _, _, rfl, l6.f.i, T.clCA, T.nCA_numbers_by, fA_nb, _, rfl, pn, _, rfl, get_tk l6.f.n hdg6 (by rw [valV_idx tk_inj, if_pos (List.mem_of_getElem? hj6), Nat.zero_add, idx_of l6.p.nd hj6]), _, _, _, rfl, rfl, l6.r, by rw [nis_len, l6.row.1]; exact slt (by omega), ?_⟩
          refine ⟨d2, v2, row ++ [j], _, _, _, _, rfl, ?_⟩
          obtain ⟨das6, hpd6, hds6⟩ := id l6.f.d
          obtain ⟨tas6, hpt6, hts6⟩ := id l6.f.t
          refine ⟨⟨(upd_ne (ne_of l6.f.i l6.r (by intro z; cases z))).trans l6.f.i, hMb.sol (gr_mut l6.g nF0 l6.r lst_ne).sol, ⟨das6, (upd_ne nFd.symm).trans hpd6, hds6.mut (lstNT l6.r)⟩, (upd_ne nFw.symm).trans l6.f.w, (upd_ne nFn.symm).trans l6.f.n, tas6, (upd_ne nFt.symm).trans hpt6, hts6.mut (lstNT l6.r)⟩, gr_mut l6.g nF0 l6.r lst_ne, l6.dom.upd, by rw [upd_same]; simp [nis], l6.p, l6.few, l6.row.add hc hj6⟩
    · rintro σ H2 ⟨d, v, row, v4, v5, v6, v7, rfl, l2⟩
      refine ⟨_, rfl, _, _, rfl, .inl ⟨.of l2.r, fun p hp2 => ?_⟩⟩
      have e3 : Same H2 (upd H2 p (.tup (nis row))) := same_new hp2
      have l3 := l2.same e3
      have hsz : (S M.ls).cps.size = M.ls.length := by show M.ls.toArray.size = _; simp
      exact q1 _ p row d v l3.g l3.dom l3.f l3.p l3.few (hsz ▸ l3.row) upd_same
end
end Sw
/-! Algebra.__init__. -/
namespace Sw
open PySem PySem.Spec PyProof.Rows L2 LamX NdefX
def hid (a : Addr) (H : Hp) : Hp := fun x => if x = a then none else H x
theorem hid_ne {a x : Addr} {H : Hp} (h : x ≠ a) : hid a H x = H x := if_neg h
theorem hid_same {a : Addr} {H : Hp} : Same (hid a H) H := fun b o e => by
  unfold hid at e
  split at e
  · cases e
  · exact e
theorem gr_hid {T : List NTab} {H H' : Hp} {a : Addr} {o1 : HO} (g : Gr T H H') (h : H a = none) (hp : H' a = some o1) (hne : ∀ c q, o1 ≠ CodeO c q) : Gr T H (hid a H') := by
  refine ⟨fun b ob e n => ?_, fun t q hq => ?_⟩
  · rw [hid_ne (ne_of_none e h)]; exact g.ext b ob e n
  · obtain ⟨ps, h1, h2, h3⟩ := t q hq
    obtain ⟨ps', a1, a2, a3⟩ := g.tab t q hq
    refine ⟨ps', by rw [hid_ne (ne_of_none h1 h)]; exact a1, a2, fun p' cv hcv => ?_⟩
    obtain ⟨c, e1, e2⟩ := a3 p' cv hcv
    refine ⟨c, e1, ?_⟩
    rw [hid_ne fun z => ?_]
    · exact e2
    · rw [z, hp] at e2; exact hne _ _ (Option.some.inj e2)
theorem RowsIn.of {H H' : Hp} {as : List Addr} {rows : List (Bool × List Nat)} (h : RowsIn H as rows) (e : ∀ b xs, H b = some (.tup xs) → H' b = some (.tup xs)) : RowsIn H' as rows := ⟨h.1, fun i a r h1 h2 => by
  obtain ⟨t, a1, a2⟩ := h.2 i a r h1 h2
  exact ⟨t, e _ _ a1, e _ _ a2⟩⟩
theorem RowsAt.hid {H : Hp} {a p C dx : Addr} {fs : List (Str × V)} {rows : List (Bool × List Nat)} (h : RowsAt H p rows) (ha : H a = some (.ins C dx fs)) : RowsAt (hid a H) p rows := by
  obtain ⟨as, h1, h2⟩ := h
  exact ⟨as, by rw [hid_ne (ne_of h1 ha (by intro z; cases z))]; exact h1, h2.of fun b xs e => by rw [hid_ne (ne_of e ha (by intro z; cases z))]; exact e⟩
theorem MachAt.hid {CM : Addr} {H : Hp} {a b C dx : Addr} {fs : List (Str × V)} {M : Mc} (h : MachAt CM H b M) (ha : H a = some (.ins C dx fs)) (hne : b ≠ a) : MachAt CM (hid a H) b M := by
  obtain ⟨dy, p, h1, h2⟩ := h
  exact ⟨dy, p, by rw [hid_ne hne]; exact h1, h2.hid ha⟩
section
variable {P : Program} {w : World} {K : PySem.W.Frag} {mg : Str → Option Value} {base : Heap} {CM CA CW CG : Addr} {D : Cds}
def spAlgInit (CM CA CG : Addr) (D : Cds) : Sp := fun vs H Q E => ∃ (a m dx : Addr) (M0 : Mc), vs = [.ref a, .ref m] ∧ H a = some (.ins CA dx []) ∧ TabsN (Tb D) H ∧ MachAt CM H m M0 ∧ M0.Ok ∧
  (∀ H' M ds ws tb, M.Min → M.ls = M0.ls → M.n ≤ M0.n → (∀ u, Ov M0.ls u → M.lang u = M0.lang u) → AlgAt CM CA H' a M ds ws tb → AlgD M ds ws tb → (∀ H0, Gr (Tb D) H0 H → H0 a = none → Gr (Tb D) H0 H') → Q .non H') ∧
  (Great M0.ls M0.lang → ∀ H', (∀ H0, Gr (Tb D) H0 H → H0 a = none → Gr (Tb D) H0 H') → E (.ref CG) none H')
theorem ok_Algebra_init (T : Tx K mg CM CA CW CG) (Y : Ty K mg base CW D) (G : Tg K mg CG) : Pm P w K mg base (CX P w) 7 CA "__init__" P_Algebra_init [] (spAlgInit CM CA CG D) := by
  refine T.d_Algebra_init.pm sc_Algebra_init (fun _ _ _ _ _ _ us hl => match us, hl with | [_, _], _ => rfl) (fun vs H Q E h => ?_) (fun f cdv A outer s H vs Q E hr h => ?_)
  · obtain ⟨a, m, dx, M0, rfl, _⟩ := h; rfl
  · obtain ⟨a, m0, dx, M0, rfl, ha, hT, hM, O, q1, q2⟩ := h
    have hu := hu_of hr
    refine ⟨_, (pss_cons (ps_fld (pv 0) (pe_callP (ok_least T Y) (hr.mono (by decide)) rfl pass0 (pa_cons (pv 1) pa_nil)) rfl)
 (pss_cons (ps_set (i := 2) sc_Algebra_init.nd rfl (Or.inl rfl) (pe_methP0 (pe_fld (pv 0) rfl) T.clCM (ok_Machine_rows T) (hr.mono (by decide)) pass0))
 (pss_cons (ps_set (i := 3) sc_Algebra_init.nd rfl (Or.inl rfl) (pe_tupRg rfl rfl T.z_tuple (prg_1 rfl T.z_range (pe_callB call_len rfl T.z_len boot_len (pa_cons (pv 2) pa_nil)))))
 (pss_cons (ps_fld (pv 0) (pe_lst (pa_cons (pv 3) pa_nil)) rfl)
 (pss_cons (ps_fld (pv 0) (pe_lst (pa_cons pe_str pa_nil)) rfl)
 (pss_cons (ps_fld (pv 0) (pe_disp1T hu (pv 3) pe_int) rfl)
 (pss_cons (ps_fld (pv 0) (pe_lst pa_nil) rfl)
 (pss_one (ps_while (passes_of rfl) (pt_cmpR op_lt (pe_callB call_len rfl T.z_len boot_len (pa_cons (pe_fld (pv 0) rfl) pa_nil)) (pe_callB call_len rfl T.z_len boot_len (pa_cons (pe_fld (pv 0) rfl) pa_nil)) (nomark _))
 (pss_one (ps_expr (pe_bm PySem.F.plainAttrs_list PySem.F.slot_list_append PySem.F.type_list_append mt_append (pe_fld (pv 0) rfl) (pa_cons (pe_methP (pv 0) T.clCA (ok_Algebra_led_on (T0 := Tb D) T G) (hr.mono (by decide)) (passes_call (takes_of rfl rfl rfl rfl) (fun _ _ _ _ h => h)) (pa_cons (pv 2) (pa_cons (pe_callB call_len rfl T.z_len boot_len (pa_cons (pe_fld (pv 0) rfl) pa_nil)) pa_nil))) pa_nil))))))))))))), ?_⟩
    refine ⟨_, rfl, m0, M0, rfl, hT, hM, O, fun H1 b M m1 m2 m3 m4 g1 hMb => ?_⟩
    have ha1 := g1.sol _ _ ha trivial
    have hn60 := m1.le
    refine ⟨_, rfl, a, CA, dx, _, rfl, ha1, T.clCA, T.nCA_base, by show 0 < 1000; decide, ?_⟩
    obtain ⟨dy, pb, hb1, _⟩ := id hMb
    have nab : a ≠ b := ne_of ha1 hb1 (by unfold fM; intro z; cases z)
    have p1 : putF "base" (V.ref b) [] = fA1 b := rfl
    rw [p1]
    have hMb2 := hMb.mut (o := .ins CA dx (fA1 b)) ha1 nab
    have ha2 : upd H1 a (.ins CA dx (fA1 b)) a = some (.ins CA dx (fA1 b)) := upd_same
    have k2 : ∀ H0, Gr (Tb D) H0 H → H0 a = none → Gr (Tb D) H0 (upd H1 a (.ins CA dx (fA1 b))) := fun H0 g h0 => gr_mut (g.trans g1) h0 ha1 ins_ne
    generalize upd H1 a (.ins CA dx (fA1 b)) = H2 at hMb2 ha2 k2
    obtain ⟨dz, pz, hbz, _⟩ := id hMb2
    refine ⟨_, rfl, a, CA, dx, _, _, rfl, ha2, T.clCA, T.nCA_base, rfl, b, dz, _, rfl, hbz, fM_no _ _ (by decide +kernel) (by decide +kernel), b, M, rfl, hMb2, fun H3 r e3 nr hR3 => ?_⟩
    have ha3 := e3 _ _ ha2
    have hMb3 := hMb2.sol (.of e3)
    have k3 : ∀ H0, Gr (Tb D) H0 H → H0 a = none → Gr (Tb D) H0 (hid a H3) := fun H0 g h0 => gr_hid ((k2 H0 g h0).trans (.of e3)) h0 ha3 ins_ne
    have hBa : hid a H3 a = none := if_pos rfl
    have hMB := hMb3.hid ha3 nab.symm
    have hRB := hR3.hid ha3
    have gB : Gr (Tb D) (hid a H3) H3 := .of hid_same
    have dB : Dom (hid a H3) H3 := fun q h => by unfold hid; split <;> trivial
    generalize hid a H3 = HB at k3 hBa hMB hRB gB dB
    obtain ⟨as, hRp, hrs⟩ := id hR3
    have hln : (as.map V.ref).length = M.n := by rw [List.length_map, hrs.1]; rfl
    refine ⟨_, rfl, _, M.n, rfl, .inl ⟨_, .of hRp, hln.symm⟩, _, rfl, ⟨by omega, by omega, by omega, by omega, by show (((M.n : Nat) : Int) - 0).toNat ≤ 2 ^ 24; omega⟩, fun st hst => ?_⟩
    have erg : rgV 0 ((M.n : Nat) : Int) = nis (List.range M.n) := by
      unfold rgV nis
      have e : (((M.n : Nat) : Int) - 0).toNat = M.n := by omega
      rw [e]
      apply List.map_congr_left
      intro i _
      show V.int (0 + (i : Nat)) = V.int (i : Nat)
      rw [Int.zero_add]
    rw [erg]
    have e4 : Same H3 (upd H3 st (.tup (nis (List.range M.n)))) := same_new hst
    have hst4 : upd H3 st (.tup (nis (List.range M.n))) st = some (.tup (nis (List.range M.n))) := upd_same
    have g4 := gB.trans (.of e4)
    have d4 := dB.same e4
    have ha4 := e4 _ _ ha3
    show gName _ _ _ (upd H3 st (.tup (nis (List.range M.n)))) _
    generalize upd H3 st (.tup (nis (List.range M.n))) = H4 at hst4 g4 d4 ha4
    -- doings
    refine ⟨_, rfl, by show 1 ≤ 2 ^ 24; decide, fun pd hpd => ?_⟩
    have nad : a ≠ pd := ne_of_none ha4 hpd
    have bpd := d4 _ hpd
    refine ⟨_, rfl, a, CA, dx, _, rfl, (upd_ne nad).trans ha4, T.clCA, T.nCA_doings, by show 1 < 1000; decide, ?_⟩
    rw [pA2]
    have g5 : Gr (Tb D) HB (upd H4 pd (.lst [.ref st])) := g4.trans (.of (same_new hpd))
    have g6 : Gr (Tb D) HB (upd (upd H4 pd (.lst [.ref st])) a (.ins CA dx (fA2 b pd))) := gr_mut g5 hBa ((upd_ne nad).trans ha4) ins_ne
    have d6 : Dom HB (upd (upd H4 pd (.lst [.ref st])) a (.ins CA dx (fA2 b pd))) := d4.upd.upd
    have ha6 : upd (upd H4 pd (.lst [.ref st])) a (.ins CA dx (fA2 b pd)) a = some (.ins CA dx (fA2 b pd)) := upd_same
    have hd6 : upd (upd H4 pd (.lst [.ref st])) a (.ins CA dx (fA2 b pd)) pd = some (.lst [.ref st]) := by rw [upd_ne nad.symm]; exact upd_same
    have hs6 : upd (upd H4 pd (.lst [.ref st])) a (.ins CA dx (fA2 b pd)) st = some (.tup (nis (List.range M.n))) := by rw [upd_ne (ne_of hst4 ha4 (by intro z; cases z)), upd_ne (ne_of_none hst4 hpd)]; exact hst4
    generalize upd (upd H4 pd (.lst [.ref st])) a (.ins CA dx (fA2 b pd)) = H6 at g6 d6 ha6 hd6 hs6
    -- word_list
    refine ⟨by show 1 ≤ 2 ^ 24; decide, fun pw hpw => ?_⟩
    have naw : a ≠ pw := ne_of_none ha6 hpw
    have ndw : pd ≠ pw := ne_of_none hd6 hpw
    have bpw := d6 _ hpw
    refine ⟨_, rfl, a, CA, dx, _, rfl, (upd_ne naw).trans ha6, T.clCA, T.nCA_word_list, by show 2 < 1000; decide, ?_⟩
    rw [pA3]
    have g7 : Gr (Tb D) HB (upd H6 pw (.lst [.str ""])) := g6.trans (.of (same_new hpw))
    have g8 : Gr (Tb D) HB (upd (upd H6 pw (.lst [.str ""])) a (.ins CA dx (fA3 b pd pw))) := gr_mut g7 hBa ((upd_ne naw).trans ha6) ins_ne
    have d8 : Dom HB (upd (upd H6 pw (.lst [.str ""])) a (.ins CA dx (fA3 b pd pw))) := d6.upd.upd
    have ha8 : upd (upd H6 pw (.lst [.str ""])) a (.ins CA dx (fA3 b pd pw)) a = some (.ins CA dx (fA3 b pd pw)) := upd_same
    have hd8 : upd (upd H6 pw (.lst [.str ""])) a (.ins CA dx (fA3 b pd pw)) pd = some (.lst [.ref st]) := by rw [upd_ne nad.symm, upd_ne ndw]; exact hd6
    have hw8 : upd (upd H6 pw (.lst [.str ""])) a (.ins CA dx (fA3 b pd pw)) pw = some (.lst (([[]] : List Wd).map VS)) := by rw [upd_ne naw.symm]; exact upd_same
    have hs8 : upd (upd H6 pw (.lst [.str ""])) a (.ins CA dx (fA3 b pd pw)) st = some (.tup (nis (List.range M.n))) := by rw [upd_ne (ne_of hs6 ha6 (by intro z; cases z)), upd_ne (ne_of_none hs6 hpw)]; exact hs6
    generalize upd (upd H6 pw (.lst [.str ""])) a (.ins CA dx (fA3 b pd pw)) = H8 at g8 d8 ha8 hd8 hw8 hs8
    -- numbers_by
    refine fun pn hpn => ⟨_, rfl, tk (List.range M.n), st, rfl, upd_same, by rw [upd_ne (ne_of_none hs8 hpn), tk_kV]; exact hs8, ?_⟩
    have nan : a ≠ pn := ne_of_none ha8 hpn
    have ndn : pd ≠ pn := ne_of_none hd8 hpn
    have nwn : pw ≠ pn := ne_of_none hw8 hpn
    have bpn := d8 _ hpn
    have euu : upd (upd H8 pn (.dT [])) pn (.dT [(tk (List.range M.n), V.int 0)]) = upd H8 pn (.dT (idxFrom tk 0 [List.range M.n])) := by
      funext x; unfold upd; split <;> rfl
    rw [euu]
    refine ⟨_, rfl, a, CA, dx, _, rfl, (upd_ne nan).trans ha8, T.clCA, T.nCA_numbers_by, by show 3 < 1000; decide, ?_⟩
    rw [pA4]
    have g9 : Gr (Tb D) HB (upd H8 pn (.dT (idxFrom tk 0 [List.range M.n]))) := g8.trans (.of (same_new hpn))
    have g10 : Gr (Tb D) HB (upd (upd H8 pn (.dT (idxFrom tk 0 [List.range M.n]))) a (.ins CA dx (fA4 b pd pw pn))) := gr_mut g9 hBa ((upd_ne nan).trans ha8) ins_ne
    have d10 : Dom HB (upd (upd H8 pn (.dT (idxFrom tk 0 [List.range M.n]))) a (.ins CA dx (fA4 b pd pw pn))) := d8.upd.upd
    have ha10 : upd (upd H8 pn (.dT (idxFrom tk 0 [List.range M.n]))) a (.ins CA dx (fA4 b pd pw pn)) a = some (.ins CA dx (fA4 b pd pw pn)) := upd_same
    have hd10 : upd (upd H8 pn (.dT (idxFrom tk 0 [List.range M.n]))) a (.ins CA dx (fA4 b pd pw pn)) pd = some (.lst [.ref st]) := by rw [upd_ne nad.symm, upd_ne ndn]; exact hd8
    have hw10 : upd (upd H8 pn (.dT (idxFrom tk 0 [List.range M.n]))) a (.ins CA dx (fA4 b pd pw pn)) pw = some (.lst (([[]] : List Wd).map VS)) := by rw [upd_ne naw.symm, upd_ne nwn]; exact hw8
    have hn10 : upd (upd H8 pn (.dT (idxFrom tk 0 [List.range M.n]))) a (.ins CA dx (fA4 b pd pw pn)) pn = some (.dT (idxFrom tk 0 [List.range M.n])) := by rw [upd_ne nan.symm]; exact upd_same
    have hs10 : upd (upd H8 pn (.dT (idxFrom tk 0 [List.range M.n]))) a (.ins CA dx (fA4 b pd pw pn)) st = some (.tup (nis (List.range M.n))) := by rw [upd_ne (ne_of hs8 ha8 (by intro z; cases z)), upd_ne (ne_of_none hs8 hpn)]; exact hs8
    generalize upd (upd H8 pn (.dT (idxFrom tk 0 [List.range M.n]))) a (.ins CA dx (fA4 b pd pw pn)) = H10 at g10 d10 ha10 hd10 hw10 hn10 hs10
    -- table
    refine ⟨by show 0 ≤ 2 ^ 24; decide, fun pt hpt => ?_⟩
    have nat_ : a ≠ pt := ne_of_none ha10 hpt
    have ndt : pd ≠ pt := ne_of_none hd10 hpt
    have nwt : pw ≠ pt := ne_of_none hw10 hpt
    have nnt : pn ≠ pt := ne_of_none hn10 hpt
    have bpt := d10 _ hpt
    refine ⟨_, rfl, a, CA, dx, _, rfl, (upd_ne nat_).trans ha10, T.clCA, T.nCA_table, by show 4 < 1000; decide, ?_⟩
    rw [pA5]
    have g11 : Gr (Tb D) HB (upd H10 pt (.lst [])) := g10.trans (.of (same_new hpt))
    have g12 : Gr (Tb D) HB (upd (upd H10 pt (.lst [])) a (.ins CA dx (fA b pd pw pn pt))) := gr_mut g11 hBa ((upd_ne nat_).trans ha10) ins_ne
    have d12 : Dom HB (upd (upd H10 pt (.lst [])) a (.ins CA dx (fA b pd pw pn pt))) := d10.upd.upd
    have F12 : AlgF CM CA (upd (upd H10 pt (.lst [])) a (.ins CA dx (fA b pd pw pn pt))) a dx b pd pw pn pt M [List.range M.n] [[]] [] := by
      refine ⟨upd_same, hMB.sol g12.sol, ⟨[st], by rw [upd_ne nad.symm, upd_ne ndt]; exact hd10, TupsAt.add .nil (by rw [upd_ne (ne_of hs10 ha10 (by intro z; cases z)), upd_ne (ne_of_none hs10 hpt)]; exact hs10)⟩, by rw [upd_ne naw.symm, upd_ne nwt]; exact hw10, by rw [upd_ne nan.symm, upd_ne nnt]; exact hn10, [], by rw [upd_ne nat_.symm]; exact upd_same, .nil⟩
    generalize upd (upd H10 pt (.lst [])) a (.ins CA dx (fA b pd pw pn pt)) = H12 at g12 d12 F12
    have tw : Twin M0.ls false M0.lang M.lang := fun u hu => by rw [m4 u hu]; cases M0.lang u <;> rfl
    refine while_ix (fun m σ H13 => ∃ (ds : List (List Nat)) (ws : List Wd) (tb : List (List Nat)), σ = [some (.ref a), some (.ref m0), some (.ref r), some (.ref st)] ∧ AlgF CM CA H13 a dx b pd pw pn pt M ds ws tb ∧ Gr (Tb D) HB H13 ∧ Dom HB H13 ∧ AlgP M ds ws ∧ AlgT M ds ws tb ∧ ds.length ≤ 200 ∧ tb.length ≤ ds.length ∧ m = 201 - tb.length) 201
      ⟨_, _, _, rfl, F12, g12, d12, .first, (fun i r w h => by cases h), by show 1 ≤ 200; decide, Nat.zero_le _, rfl⟩ ?_
    rintro m σ H13 ⟨ds, ws, tb, rfl, F13, g13, d13, hp, ht, h200, hle, hm⟩
    obtain ⟨das, hpd13, hds13⟩ := id F13.d
    obtain ⟨tas, hpt13, hts13⟩ := id F13.t
    have hl1 : (tas.map V.ref).length = tb.length := by rw [List.length_map, hts13.1]
    have hl2 : (das.map V.ref).length = ds.length := by rw [List.length_map, hds13.1]
    refine ⟨_, rfl, a, CA, dx, _, _, rfl, F13.i, T.clCA, T.nCA_table, fA_tb, _, tb.length, rfl, .inl ⟨_, .of hpt13, hl1.symm⟩, _, rfl, a, CA, dx, _, _, rfl, F13.i, T.clCA, T.nCA_doings, fA_do, _, ds.length, rfl, .inl ⟨_, .of hpd13, hl2.symm⟩, _, _, rfl, rfl, _, rfl, ?_⟩
    by_cases hlt : tb.length < ds.length
    · rw [decide_eq_true (show ((tb.length : Nat) : Int) < (ds.length : Nat) by omega)]
      refine ⟨fun σ' H' => ∃ m', m' < m ∧ ∃ (ds : List (List Nat)) (ws : List Wd) (tb : List (List Nat)), σ' = [some (.ref a), some (.ref m0), some (.ref r), some (.ref st)] ∧ AlgF CM CA H' a dx b pd pw pn pt M ds ws tb ∧ Gr (Tb D) HB H' ∧ Dom HB H' ∧ AlgP M ds ws ∧ AlgT M ds ws tb ∧ ds.length ≤ 200 ∧ tb.length ≤ ds.length ∧ m' = 201 - tb.length, fun _ _ h => h, ?_⟩
      obtain ⟨wd, hwd, _⟩ := hp.at hlt
      refine ⟨_, rfl, a, CA, dx, _, _, rfl, F13.i, T.clCA, T.nCA_table, fA_tb, .inl ⟨rfl, _, .of hpt13⟩, _, rfl, a, dx, _, rfl, F13.i, fA_no (by decide +kernel), _, rfl, _, rfl, a, CA, dx, _, _, rfl, F13.i, T.clCA, T.nCA_table, fA_tb, _, tb.length, rfl, .inl ⟨_, .of hpt13, hl1.symm⟩, ?_⟩
      refine ⟨a, r, dx, b, pd, pw, pn, pt, M, ds, ws, tb, wd, tb.length, HB, rfl, F13, g13, d13, hRB, hMB, bpd, bpw, bpn, ndw, ndt.symm, nwt.symm, m1, hp, h200, hwd, fun H14 p row d v g14 d14 F14 p14 h14 r14 hp14 => ?_, fun gr H14 g14 => ?_⟩
      · obtain ⟨tas14, hpt14, hts14⟩ := id F14.t
        obtain ⟨das14, hpd14, hds14⟩ := id F14.d
        refine ⟨_, _, _, rfl, rfl, hpt14, by rw [List.length_map, hts14.1]; exact slt (by omega), ?_⟩
        have g15 := gr_mut (o := .lst (tas14.map V.ref ++ [.ref p])) g14 bpt hpt14 lst_ne
        refine ⟨201 - (tb.length + 1), by omega, ds ++ d, ws ++ v, tb ++ [row], rfl, ⟨(upd_ne nat_).trans F14.i, hMB.sol g15.sol, ⟨das14, (upd_ne ndt).trans hpd14, hds14.mut (lstNT hpt14)⟩, (upd_ne nwt).trans F14.w, (upd_ne nnt).trans F14.n, tas14 ++ [p], by rw [upd_same]; simp, (hts14.mut (lstNT hpt14)).add ((upd_ne (ne_of hp14 hpt14 (by intro z; cases z))).trans hp14)⟩, g15, d14.upd, p14, (ht.more hp hle d v).add (get_app hwd) r14, h14, by rw [List.length_append, List.length_append, List.length_singleton]; omega, by rw [List.length_append, List.length_singleton]⟩
      · exact q2 ((tw.symm.great (m2 ▸ gr))) _ fun H0 g h0 => (k3 H0 g h0).trans g14
    · rw [decide_eq_false (show ¬ (((tb.length : Nat) : Int) < (ds.length : Nat)) by omega)]
      exact q1 _ M ds ws tb m1 m2 m3 m4 ⟨dx, b, pd, pw, pn, pt, F13⟩ ⟨hp, ht, by omega, h200⟩ fun H0 g h0 => (k3 H0 g h0).trans g13
end
end Sw
/-! Algebra: letters, len, words, element, product, times. -/
namespace Sw
open PySem PySem.Spec PyProof.Rows L2 LamX NdefX
section
variable {P : Program} {w : World} {K : PySem.W.Frag} {mg : Str → Option Value} {base : Heap} {CM CA CW CG : Addr} {D : Cds}
def spAlgLetters (CM CA : Addr) : Sp := fun vs H Q _ => ∃ (a : Addr) (M : Mc) (ds : List (List Nat)) (ws : List Wd) (tb : List (List Nat)), vs = [.ref a] ∧ AlgAt CM CA H a M ds ws tb ∧ Q (VS M.ls) H
theorem ok_Algebra_letters (T : Tx K mg CM CA CW CG) : Pm P w K mg base CX0 2 CA "letters" P_Algebra_letters [] (spAlgLetters CM CA) := by
  refine T.d_Algebra_letters.pm sc_Algebra_letters (fun _ _ _ _ _ _ us hl => match us, hl with | [_], _ => rfl) (fun vs H Q E h => ?_) (fun f cdv A outer s H vs Q E hr h => ?_)
  · obtain ⟨a, M, ds, ws, tb, rfl, _⟩ := h; rfl
  · obtain ⟨a, M, ds, ws, tb, rfl, ⟨dx, b, pd, pw, pn, pt, F⟩, q⟩ := h
    obtain ⟨dy, pb, hb1, _⟩ := id F.mach
    refine ⟨_, (PSs.nox (pss_one (ps_ret (pe_methP0 (pe_fld (pv 0) rfl) T.clCM (ok_Machine_letters T) (hr.mono (by decide)) pass0)))), ?_⟩
    exact ⟨_, rfl, a, CA, dx, _, _, rfl, F.i, T.clCA, T.nCA_base, fA_base, b, dy, _, rfl, hb1, fM_no _ _ (by decide +kernel) (by decide +kernel), b, M, rfl, F.mach, q⟩
def spAlgLen (CM CA : Addr) : Sp := fun vs H Q _ => ∃ (a : Addr) (M : Mc) (ds : List (List Nat)) (ws : List Wd) (tb : List (List Nat)), vs = [.ref a] ∧ AlgAt CM CA H a M ds ws tb ∧ Q (vi ds.length) H
theorem ok_Algebra_len (T : Tx K mg CM CA CW CG) : Pm P w K mg base CX0 1 CA "__len__" P_Algebra_len [] (spAlgLen CM CA) := by
  refine T.d_Algebra_len.pm sc_Algebra_len (fun _ _ _ _ _ _ us hl => match us, hl with | [_], _ => rfl) (fun vs H Q E h => ?_) (fun f cdv A outer s H vs Q E hr h => ?_)
  · obtain ⟨a, M, ds, ws, tb, rfl, _⟩ := h; rfl
  · obtain ⟨a, M, ds, ws, tb, rfl, ⟨dx, b, pd, pw, pn, pt, F⟩, q⟩ := h
    obtain ⟨das, hpd, hds⟩ := id F.d
    have hl2 : (das.map V.ref).length = ds.length := by rw [List.length_map, hds.1]
    refine ⟨_, (PSs.nox (pss_one (ps_ret (pe_callB call_len rfl T.z_len boot_len (pa_cons (pe_fld (pv 0) rfl) pa_nil))))), ?_⟩
    exact ⟨_, rfl, a, CA, dx, _, _, rfl, F.i, T.clCA, T.nCA_doings, fA_do, _, ds.length, rfl, .inl ⟨_, .of hpd, hl2.symm⟩, q⟩
def spAlgNeed (CM CA : Addr) : Sp := fun vs H Q _ => ∃ (a : Addr) (M : Mc) (ds : List (List Nat)) (ws : List Wd) (tb : List (List Nat)) (i : Nat), vs = [.ref a, vi i] ∧ AlgAt CM CA H a M ds ws tb ∧ i < ds.length ∧ Q .non H
theorem ok_Algebra_need_element (T : Tx K mg CM CA CW CG) : Pm P w K mg base CX0 2 CA "need_element" P_Algebra_need_element [] (spAlgNeed CM CA) := by
  refine T.d_Algebra_need_element.pm sc_Algebra_need_element (fun _ _ _ _ _ _ us hl => match us, hl with | [_, _], _ => rfl) (fun vs H Q E h => ?_) (fun f cdv A outer s H vs Q E hr h => ?_)
  · obtain ⟨a, M, ds, ws, tb, i, rfl, _⟩ := h; rfl
  · obtain ⟨a, M, ds, ws, tb, i, rfl, ⟨dx, b, pd, pw, pn, pt, F⟩, hi, q⟩ := h
    obtain ⟨das, hpd, hds⟩ := id F.d
    have hl2 : (das.map V.ref).length = ds.length := by rw [List.length_map, hds.1]
    refine ⟨_, (PSs.nox (pss_one (ps_if (pt_not (pt_val (pe_callP (ok_is_number T) (hr.mono (by decide)) rfl pass0 (pa_cons (pv 1) (pa_cons pe_int (pa_cons (pe_op op_sub (pe_callB call_len rfl T.z_len boot_len (pa_cons (pe_fld (pv 0) rfl) pa_nil)) pe_int) pa_nil))))))
 (pss_one ps_never)
 pss_nil))), ?_⟩
    refine ⟨_, rfl, _, rfl, a, CA, dx, _, _, rfl, F.i, T.clCA, T.nCA_doings, fA_do, _, ds.length, rfl, .inl ⟨_, .of hpd, hl2.symm⟩, _, _, rfl, rfl, _, _, _, rfl, _, rfl, ?_⟩
    rw [decide_eq_true (show (0 : Int) ≤ (i : Nat) by omega), decide_eq_true (show ((i : Nat) : Int) ≤ (ds.length : Nat) - 1 by omega)]
    exact q
def spAlgWords (CM CA : Addr) : Sp := fun vs H Q _ => ∃ (a : Addr) (M : Mc) (ds : List (List Nat)) (ws : List Wd) (tb : List (List Nat)), vs = [.ref a] ∧ AlgAt CM CA H a M ds ws tb ∧ ∀ H' p, Same H H' → H p = none → H' p = some (.lst (ws.map VS)) → Q (.ref p) H'
theorem ok_Algebra_words (T : Tx K mg CM CA CW CG) : Pm P w K mg base CX0 1 CA "words" P_Algebra_words [] (spAlgWords CM CA) := by
  refine T.d_Algebra_words.pm sc_Algebra_words (fun _ _ _ _ _ _ us hl => match us, hl with | [_], _ => rfl) (fun vs H Q E h => ?_) (fun f cdv A outer s H vs Q E hr h => ?_)
  · obtain ⟨a, M, ds, ws, tb, rfl, _⟩ := h; rfl
  · obtain ⟨a, M, ds, ws, tb, rfl, ⟨dx, b, pd, pw, pn, pt, F⟩, q⟩ := h
    refine ⟨_, (PSs.nox (pss_one (ps_ret (pe_callTy call_list_of rfl T.z_list (by decide +kernel) (pa_cons (pe_fld (pv 0) rfl) pa_nil))))), ?_⟩
    exact ⟨_, rfl, a, CA, dx, _, _, rfl, F.i, T.clCA, T.nCA_word_list, fA_wl, _, _, rfl, .inl (.of F.w), fun p hp => q _ p (same_new hp) hp upd_same⟩
def spAlgElement (CM CA : Addr) : Sp := fun vs H Q _ => ∃ (a : Addr) (M : Mc) (ds : List (List Nat)) (ws : List Wd) (tb : List (List Nat)) (u : Wd), vs = [.ref a, VS u] ∧ AlgAt CM CA H a M ds ws tb ∧ AlgD M ds ws tb ∧ Ov M.ls u ∧ u.length ≤ 20000 ∧ ∀ H' j, Same H H' → ds[j]? = some (tr M u) → Q (vi j) H'
theorem ok_Algebra_element (T : Tx K mg CM CA CW CG) : Pm P w K mg base CX0 3 CA "element" P_Algebra_element [] (spAlgElement CM CA) := by
  refine T.d_Algebra_element.pm sc_Algebra_element (fun _ _ _ _ _ _ us hl => match us, hl with | [_, _], _ => rfl) (fun vs H Q E h => ?_) (fun f cdv A outer s H vs Q E hr h => ?_)
  · obtain ⟨a, M, ds, ws, tb, u, rfl, _⟩ := h; rfl
  · obtain ⟨a, M, ds, ws, tb, u, rfl, ⟨dx, b, pd, pw, pn, pt, F⟩, A1, ou, hu2, q⟩ := h
    obtain ⟨dy, pb, hb1, _⟩ := id F.mach
    refine ⟨_, (PSs.nox (pss_cons (ps_set (i := 2) sc_Algebra_element.nd rfl (Or.inl rfl) (pe_methP0 (pe_fld (pv 0) rfl) T.clCM (ok_Machine_letters T) (hr.mono (by decide)) pass0))
 (pss_cons (ps_expr (pe_callP (ok_need_word T) (hr.mono (by decide)) rfl pass0 (pa_cons (pv 2) (pa_cons (pv 1) pa_nil))))
 (pss_cons (ps_set (i := 3) sc_Algebra_element.nd rfl (Or.inl rfl) pe_int)
 (pss_cons (ps_for PassesOwn.never rfl (pi_str (pv 1)) (pg_name (i := 4) sc_Algebra_element.nd rfl (Or.inl rfl) (Or.inl rfl))
 (pss_one (ps_set (i := 3) sc_Algebra_element.nd rfl (Or.inl rfl) (pe_ix ix_tup (pe_ix ix_list (pe_fld (pv 0) rfl) (pv 3) (fun _ _ => rfl)) (pe_bm PySem.F.plainAttrs_str PySem.F.slot_str_index PySem.F.type_str_index mt_sindex (pv 2) (pa_cons (pv 4) pa_nil)) (fun _ _ => rfl)))))
 (pss_one (ps_ret (pv 3)))))))), ?_⟩
    refine ⟨_, rfl, a, CA, dx, _, _, rfl, F.i, T.clCA, T.nCA_base, fA_base, b, dy, _, rfl, hb1, fM_no _ _ (by decide +kernel) (by decide +kernel), b, M, rfl, F.mach, ?_⟩
    refine ⟨_, rfl, _, rfl, M.ls, u, 20000, rfl, ou, hu2, hu2, fun H1 e1 => ?_⟩
    refine ⟨_, rfl, _, rfl, for_it (walk_str (z := S u)) (fun k σ H2 => ∃ (j : Nat) (v4 : Option V), σ = [some (.ref a), some (VS u), some (VS M.ls), some (vi j), v4] ∧ H2 = H1 ∧ ds[j]? = some (tr M (u.take k)))
      ⟨0, _, rfl, rfl, by obtain ⟨_, _, h⟩ := A1.p.wd 0 [] A1.p.zero; exact h⟩ (fun _ _ _ _ _ => trivial) ?_ ?_⟩
    · rintro k x σ H2 H3 hk ⟨j, v4, rfl, rfl, hj⟩ ⟨rfl, c, hc, rfl⟩
      have hcu := S_get.mp hc
      have hcl := ou c (List.mem_of_getElem? hcu)
      obtain ⟨rest, ho⟩ := occ_idx hcl
      have hck : M.ls[M.ls.idxOf c]? = some c := by
        rw [List.getElem?_eq_getElem (List.idxOf_lt_length_iff.mpr hcl), List.getElem_idxOf]
      obtain ⟨r, j2, t1, t2, t3, t4⟩ := A1.next hj hck
      obtain ⟨tas, hpt, hts⟩ := (F.sol (.of e1)).t
      obtain ⟨ta, hta, htt⟩ := hts.get t1
      refine ⟨_, rfl, a, CA, dx, _, _, rfl, (F.sol (.of e1)).i, T.clCA, T.nCA_table, fA_tb, _, rfl, pt, _, _, _, rfl, rfl, .of hpt, atI_nat (refs_get hta), _, rfl, rfl, _, rfl, _, _, _, _, rfl, rfl, ho, _, _, _, _, rfl, rfl, .inl (.inl htt), atI_nat (nis_get t3), ?_⟩
      refine ⟨j2, _, rfl, rfl, ?_⟩
      rw [t4]
      have : u.take (k + 1) = u.take k ++ [c] := by rw [List.take_succ, hcu]; rfl
      rw [this]
    · rintro σ H2 ⟨j, v4, rfl, rfl, hj⟩
      have hsz : (S u).cps.size = u.length := by show u.toArray.size = _; simp
      rw [hsz, List.take_length] at hj
      exact ⟨_, rfl, q _ j e1 hj⟩
def spAlgTimes (CM CA : Addr) : Sp := fun vs H Q _ => ∃ (a : Addr) (M : Mc) (ds : List (List Nat)) (ws : List Wd) (tb : List (List Nat)) (i j : Nat) (u v : Wd), vs = [.ref a, vi i, vi j] ∧ AlgAt CM CA H a M ds ws tb ∧ AlgD M ds ws tb ∧ M.Ok ∧ Ov M.ls u ∧ Ov M.ls v ∧ ds[i]? = some (tr M u) ∧ ds[j]? = some (tr M v) ∧ ∀ H' k, Same H H' → ds[k]? = some (tr M (u ++ v)) → Q (vi k) H'
theorem ok_Algebra_product (T : Tx K mg CM CA CW CG) : Pm P w K mg base CX0 1 CA "product" P_Algebra_product [] (spAlgTimes CM CA) := by
  refine T.d_Algebra_product.pm sc_Algebra_product (fun _ _ _ _ _ _ us hl => match us, hl with | [_, _, _], _ => rfl) (fun vs H Q E h => ?_) (fun f cdv A outer s H vs Q E hr h => ?_)
  · obtain ⟨a, M, ds, ws, tb, i, j, u, v, rfl, _⟩ := h; rfl
  · obtain ⟨a, M, ds, ws, tb, i, j, u, v, rfl, ⟨dx, b, pd, pw, pn, pt, F⟩, A1, O, ou, ov1, hi, hj, q⟩ := h
    have hu := hu_of hr
    have hn60 := O.le
    obtain ⟨das, hpd, hds⟩ := id F.d
    obtain ⟨ai, hai, hti⟩ := hds.get hi
    obtain ⟨aj, haj, htj⟩ := hds.get hj
    refine ⟨_, (PSs.nox (pss_cons (ps_asg (pe_tup (pa_cons (pe_ix ix_list (pe_fld (pv 0) rfl) (pv 1) (fun _ _ => rfl)) (pa_cons (pe_ix ix_list (pe_fld (pv 0) rfl) (pv 2) (fun _ _ => rfl)) pa_nil))) (pg_tup rfl (pgs_cons (pg_name (i := 3) sc_Algebra_product.nd rfl (Or.inl rfl) (Or.inl rfl)) (pgs_cons (pg_name (i := 4) sc_Algebra_product.nd rfl (Or.inr rfl) (Or.inl rfl)) pgs_nil))))
 (pss_one (ps_ret (pe_dget hu (pe_fld (pv 0) rfl) (pe_callTy call_tuple_of rfl T.z_tuple (by decide +kernel) (pa_cons (pe_lc (own := [("stand", 5)]) rfl sc_Algebra_product.nd (pi_tup (pv 3)) (blkOk_by (own := [("stand", 5)]) (N := N_Algebra_product) (sc := defScope s_Algebra_product) (by decide +kernel)) (fun _ _ _ _ _ => (pg_name (i := 5) sc_Algebra_product.nd rfl (Or.inl rfl) (Or.inr rfl))) (fun _ _ _ _ _ => pts_nil) (fun _ _ _ _ _ => (pe_ix (ixT_K K rfl) (pv 4) (pv 5) (fun _ _ => rfl)))) pa_nil)) (fun _ _ => rfl)))))), ?_⟩
    refine ⟨_, rfl, a, CA, dx, _, _, rfl, F.i, T.clCA, T.nCA_doings, fA_do, _, rfl, pd, _, _, _, rfl, rfl, .of hpd, atI_nat (refs_get hai), _, rfl, a, CA, dx, _, _, rfl, F.i, T.clCA, T.nCA_doings, fA_do, _, rfl, pd, _, _, _, rfl, rfl, .of hpd, atI_nat (refs_get haj), ?_⟩
    refine ⟨by show 2 ≤ 2 ^ 24; decide, fun p hp => ⟨p, _, rfl, .inl (.inl upd_same), rfl, _, _, rfl, _, _, rfl, rfl, ?_⟩⟩
    have e1 : Same H (upd H p (.tup [.ref ai, .ref aj])) := same_new hp
    generalize upd H p (.tup [.ref ai, .ref aj]) = H1 at e1
    obtain ⟨k, hk⟩ := A1.elem (ou.app ov1)
    refine ⟨_, rfl, a, CA, dx, _, _, rfl, e1 _ _ F.i, T.clCA, T.nCA_numbers_by, fA_nb, _, rfl, ai, rfl, ⟨_, .inl (.inl (e1 _ _ hti))⟩, fun L hL => lc_map (walk_tup (xs := nis (tr M u))) (Same H1) (fun m => vi (M.run ((tr M u).getD m 0) v)) (by rw [nis_len, tr_len]; exact sl (by omega)) (same_new hL) (fun m H4 hm r hD2 => .inl (.inl (r _ _ (e1 _ _ hti)))) (fun H4 xs ys r _ => same_mut r hL) (fun m x H4 H5 Q' hm r1 hD2 hY kk => ?_) (fun H4 r4 hL4 => ?_)⟩
    · obtain ⟨rfl, hx⟩ := hY
      obtain ⟨st, hst, rfl⟩ := nis_inv hx
      have hstN := tr_lt O u st (List.mem_of_getElem? hst)
      have kk2 := kk _ hD2 r1
      rw [getD_of hst] at kk2
      exact ⟨rfl, _, rfl, _, rfl, _, _, _, _, rfl, rfl, .inl (.inl (r1 _ _ (e1 _ _ htj))), atI_nat (nis_get (tr_get hstN v)), kk2⟩
    · have htab : tab (fun m => vi (M.run ((tr M u).getD m 0) v)) (nis (tr M u)).length = nis (tr M (u ++ v)) := by
        refine tab_eq (by rw [nis_len, nis_len, tr_len, tr_len]) fun m x hx => ?_
        obtain ⟨n, hn, rfl⟩ := nis_inv hx
        have hm : m < M.n := by have := (List.getElem?_eq_some_iff.mp hn).1; rwa [tr_len] at this
        rw [tr_get hm, Mc.run_app] at hn
        rw [getD_of (tr_get hm u)]
        cases hn; rfl
      rw [htab] at hL4
      refine ⟨_, _, rfl, .inl ⟨.of hL4, fun q2 hq2 => ?_⟩⟩
      have e5 : Same H4 (upd H4 q2 (.tup (nis (tr M (u ++ v))))) := same_new hq2
      have r5 : Same H (upd H4 q2 (.tup (nis (tr M (u ++ v))))) := fun b o z => e5 b o (r4 b o (e1 b o z))
      exact ⟨pn, _, rfl, get_tk (r5 _ _ F.n) upd_same (by rw [valV_idx tk_inj, if_pos (List.mem_of_getElem? hk), Nat.zero_add, idx_of A1.p.nd hk]), q _ k r5 hk⟩
theorem ok_Algebra_times (T : Tx K mg CM CA CW CG) : Pm P w K mg base CX0 3 CA "times" P_Algebra_times [] (spAlgTimes CM CA) := by
  refine T.d_Algebra_times.pm sc_Algebra_times (fun _ _ _ _ _ _ us hl => match us, hl with | [_, _, _], _ => rfl) (fun vs H Q E h => ?_) (fun f cdv A outer s H vs Q E hr h => ?_)
  · obtain ⟨a, M, ds, ws, tb, i, j, u, v, rfl, _⟩ := h; rfl
  · obtain ⟨a, M, ds, ws, tb, i, j, u, v, rfl, hA, A1, O, ou, ov1, hi, hj, q⟩ := h
    obtain ⟨dx, b, pd, pw, pn, pt, F⟩ := id hA
    refine ⟨_, (PSs.nox (pss_cons (ps_expr (pe_methP (pv 0) T.clCA (ok_Algebra_need_element T) (hr.mono (by decide)) pass0 (pa_cons (pv 1) pa_nil)))
 (pss_cons (ps_expr (pe_methP (pv 0) T.clCA (ok_Algebra_need_element T) (hr.mono (by decide)) pass0 (pa_cons (pv 2) pa_nil)))
 (pss_one (ps_ret (pe_methP (pv 0) T.clCA (ok_Algebra_product T) (hr.mono (by decide)) pass0 (pa_cons (pv 1) (pa_cons (pv 2) pa_nil)))))))), ?_⟩
    exact ⟨_, rfl, a, dx, _, rfl, F.i, fA_no (by decide +kernel), _, rfl, a, M, ds, ws, tb, i, rfl, hA, (List.getElem?_eq_some_iff.mp hi).1, _, rfl, a, dx, _, rfl, F.i, fA_no (by decide +kernel), _, rfl, a, M, ds, ws, tb, j, rfl, hA, (List.getElem?_eq_some_iff.mp hj).1, _, rfl, a, dx, _, rfl, F.i, fA_no (by decide +kernel), _, rfl, _, rfl, a, M, ds, ws, tb, i, j, u, v, rfl, hA, A1, O, ou, ov1, hi, hj, q⟩
end
end Sw
/-! The search for a word ahead, plain. -/
namespace Sw
def stp (ls : Wd) (ld : List (List Nat)) (n c : Nat) : Nat := (ld.getD n []).getD (ls.idxOf c) 0
def ldw (ls : Wd) (ld : List (List Nat)) (i : Nat) : Wd → Nat
  | [] => i
  | c :: x => stp ls ld (ldw ls ld i x) c
structure LdOk (ls : Wd) (ld : List (List Nat)) : Prop where
  nd : ls.Nodup
  row : ∀ r ∈ ld, r.length = ls.length ∧ ∀ x ∈ r, x < ld.length
variable {ls : Wd} {ld : List (List Nat)}
theorem stp_eq {n k c t : Nat} {r : List Nat} (hn : ls.Nodup) (hr : ld[n]? = some r) (ht : r[k]? = some t) (hc : ls[k]? = some c) : stp ls ld n c = t := by
  have e : ld.getD n [] = r := by rw [List.getD_eq_getElem?_getD, hr]; rfl
  unfold stp
  rw [e, idx_of hn hc, List.getD_eq_getElem?_getD, ht]; rfl
theorem LdOk.at (h : LdOk ls ld) {n : Nat} (hn : n < ld.length) {k c : Nat} (hc : ls[k]? = some c) : ∃ (r : List Nat) (t : Nat), ld[n]? = some r ∧ r[k]? = some t ∧ stp ls ld n c = t ∧ t < ld.length := by
  have hr := List.getElem?_eq_getElem hn
  obtain ⟨h1, h2⟩ := h.row _ (List.mem_of_getElem? hr)
  have ht := List.getElem?_eq_getElem (show k < (ld[n]).length by rw [h1]; exact (List.getElem?_eq_some_iff.mp hc).1)
  exact ⟨_, _, hr, ht, stp_eq h.nd hr ht hc, h2 _ (List.mem_of_getElem? ht)⟩
structure WA (ls : Wd) (ld : List (List Nat)) (i j : Nat) (ms : List Nat) (wl : List (Nat × Wd)) (pd : List Nat) : Prop where
  nd : ms.Nodup
  i_in : i ∈ ms
  ok : ∀ m ∈ ms, m < ld.length
  wk : ∀ p ∈ wl, Ov ls p.2 ∧ ldw ls ld i p.2 = p.1 ∧ p.1 ∈ ms ∧ p.2.length ≤ ms.length
  cl : ∀ m ∈ ms, m ∈ pd ∨ (∃ u, (m, u) ∈ wl) ∨ ∀ c ∈ ls, stp ls ld m c ∈ ms ∧ stp ls ld m c ≠ j
variable {i j m : Nat} {ms : List Nat} {wl : List (Nat × Wd)} {pd : List Nat} {u : Wd}
theorem WA.first (h : i < ld.length) : WA ls ld i j [i] [(i, [])] [] := ⟨by simp, by simp, fun m hm => by rw [List.mem_singleton.mp hm]; exact h, fun p hp => by
  rw [List.mem_singleton.mp hp]; exact ⟨.nil, rfl, by simp, by simp⟩, fun m hm => by rw [List.mem_singleton.mp hm]; exact .inr (.inl ⟨[], by simp⟩)⟩
theorem WA.le (g : WA ls ld i j ms wl pd) : ms.length ≤ ld.length := by
  have := nodup_le _ (List.range ld.length) g.nd fun x hx => List.mem_range.mpr (g.ok x hx)
  rwa [List.length_range] at this
theorem WA.pop (g : WA ls ld i j ms ((m, u) :: wl) []) : WA ls ld i j ms wl [m] :=
  ⟨g.nd, g.i_in, g.ok, fun p hp => g.wk p (List.mem_cons_of_mem _ hp), fun x hx => by
    rcases g.cl x hx with a | ⟨v, a⟩ | a
    · cases a
    · rcases List.mem_cons.mp a with e | e
      · cases e; exact .inl (by simp)
      · exact .inr (.inl ⟨v, e⟩)
    · exact .inr (.inr a)⟩
theorem WA.new {c : Nat} (g : WA ls ld i j ms wl pd) (hm : ldw ls ld i u = m) (hu : Ov ls u) (hul : u.length ≤ ms.length) (hc : c ∈ ls) (hn : stp ls ld m c ∉ ms) (hlt : stp ls ld m c < ld.length) : WA ls ld i j (ms ++ [stp ls ld m c]) (wl ++ [(stp ls ld m c, c :: u)]) pd := by
  refine ⟨?_, List.mem_append.mpr (.inl g.i_in), fun x hx => ?_, fun p hp => ?_, fun x hx => ?_⟩
  · rw [List.nodup_append]
    exact ⟨g.nd, by simp, fun a ha b hb e => hn (by rw [List.mem_singleton] at hb; rw [← hb, ← e]; exact ha)⟩
  · rcases List.mem_append.mp hx with h | h
    · exact g.ok x h
    · rw [List.mem_singleton.mp h]; exact hlt
  · rw [List.length_append, List.length_singleton]
    rcases List.mem_append.mp hp with h | h
    · obtain ⟨a, b, d, e⟩ := g.wk p h; exact ⟨a, b, List.mem_append.mpr (.inl d), by omega⟩
    · rw [List.mem_singleton.mp h]; exact ⟨.cons hc hu, by show stp ls ld (ldw ls ld i u) c = _; rw [hm], by simp, by show u.length + 1 ≤ _; omega⟩
  · rcases List.mem_append.mp hx with h | h
    · rcases g.cl x h with a | ⟨v, a⟩ | a
      · exact .inl a
      · exact .inr (.inl ⟨v, List.mem_append.mpr (.inl a)⟩)
      · exact .inr (.inr fun d hd => ⟨List.mem_append.mpr (.inl (a d hd).1), (a d hd).2⟩)
    · rw [List.mem_singleton.mp h]; exact .inr (.inl ⟨c :: u, by simp⟩)
theorem WA.next (g : WA ls ld i j ms wl [m]) (h : ∀ c ∈ ls, stp ls ld m c ∈ ms ∧ stp ls ld m c ≠ j) : WA ls ld i j ms wl [] :=
  ⟨g.nd, g.i_in, g.ok, g.wk, fun x hx => by
    rcases g.cl x hx with a | a | a
    · rw [List.mem_singleton.mp a]; exact .inr (.inr h)
    · exact .inr (.inl a)
    · exact .inr (.inr a)⟩
theorem WA.none (g : WA ls ld i j ms [] []) : ∀ x, Ov ls x → x ≠ [] → ldw ls ld i x ≠ j := by
  have cl : ∀ m ∈ ms, ∀ c ∈ ls, stp ls ld m c ∈ ms ∧ stp ls ld m c ≠ j := fun m hm => by
    rcases g.cl m hm with a | ⟨_, a⟩ | a
    · cases a
    · cases a
    · exact a
  have key : ∀ x, Ov ls x → ldw ls ld i x ∈ ms := fun x => by
    induction x with
    | nil => intro _; exact g.i_in
    | cons c x ih => intro ho; exact (cl _ (ih ho.tl) c ho.hd).1
  intro x ho hne
  cases x with
  | nil => exact absurd rfl hne
  | cons c x => exact (cl _ (key x ho.tl) c ho.hd).2
/-- what the search tells -/
def WaR (ls : Wd) (ld : List (List Nat)) (i j : Nat) : Option Wd → Prop
  | some x => Ov ls x ∧ x ≠ [] ∧ x.length ≤ ld.length + 1 ∧ ldw ls ld i x = j
  | none => ∀ x, Ov ls x → x ≠ [] → ldw ls ld i x ≠ j
section
variable {M : Mc} {ds : List (List Nat)} {ws : List Wd}
theorem Leads.ok (L : Leads M ds ws ld) (g : AlgP M ds ws) (O : M.Ok) : LdOk M.ls ld := ⟨O.nd, fun r hr => by
  obtain ⟨i, hi⟩ := List.mem_iff_getElem?.mp hr
  have hil := (List.getElem?_eq_some_iff.mp hi).1
  obtain ⟨w, h1, _, _, h4⟩ := g.at (show i < ds.length by rw [← L.1]; exact hil)
  obtain ⟨r', e1, e2, e3⟩ := L.2 i w h1
  rw [hi] at e1; cases e1
  refine ⟨e2, fun x hx => ?_⟩
  obtain ⟨k, hk⟩ := List.mem_iff_getElem?.mp hx
  have hc := List.getElem?_eq_getElem (show k < M.ls.length by rw [← e2]; exact (List.getElem?_eq_some_iff.mp hk).1)
  obtain ⟨j, a1, a2⟩ := e3 k _ hc
  rw [hk] at a1; cases a1
  rw [L.1]; exact (List.getElem?_eq_some_iff.mp a2).1⟩
theorem Leads.ldw (L : Leads M ds ws ld) (g : AlgP M ds ws) (O : M.Ok) {i : Nat} {p : Wd} (hi : ds[i]? = some (tr M p)) : ∀ x, Ov M.ls x → ds[ldw M.ls ld i x]? = some (tr M (x ++ p))
  | [], _ => hi
  | c :: x, ho => by
    have ih := Leads.ldw L g O hi x ho.tl
    obtain ⟨k, hk⟩ := List.mem_iff_getElem?.mp ho.hd
    obtain ⟨r, j, h1, h2, h3, h4⟩ := L.step g O ih hk
    show ds[stp M.ls ld (Sw.ldw M.ls ld i x) c]? = _
    rw [stp_eq O.nd h1 h3 hk]; exact h4
end
end Sw
/-! led_ahead. -/
namespace Sw
open PySem PySem.Spec PyProof.Rows L2 LamX NdefX
theorem lt63 {n : Nat} (h : n ≤ 1000000) : ((n : Nat) : Int) < 2 ^ 63 := by
  have : (2 : Int) ^ 63 = 9223372036854775808 := by decide
  omega
theorem lo62 {n : Nat} : -(2 ^ 62 : Int) ≤ ((n : Nat) : Int) := by
  have : (2 : Int) ^ 62 = 4611686018427387904 := by decide
  omega
theorem lt62 {n : Nat} (h : n ≤ 1000000) : ((n : Nat) : Int) < 2 ^ 62 := by
  have : (2 : Int) ^ 62 = 4611686018427387904 := by decide
  omega
theorem call_lenP {X : Cx} {k : Nat} {C : Addr} {ps : List Str} {sp : Sp} (c : Cls X.K C) (h : Pm X.prog X.w X.K X.mg X.base CX0 k C "__len__" ps [] sp) (hr : Room (k + 1) X.A) :
    CallR X (.builtin "len") (fun xs H Q => ∃ a dx fs, xs = [.ref a] ∧ H a = some (.ins C dx fs) ∧ sp [.ref a] H (fun v H' => ∃ n : Nat, v = .int n ∧ (n : Int) < 2 ^ 63 ∧ Q (.int n) H') E0) := by
  obtain ⟨f, fd, ds, hm, b, v, F⟩ := h.ex
  cases v
  exact call_lenOwn c hm F hr b
/-- lists of ints at as -/
def LstsAt (H : Hp) (as : List Addr) (ls : List (List Nat)) : Prop := as.length = ls.length ∧ ∀ (i : Nat) (a : Addr) (l : List Nat), as[i]? = some a → ls[i]? = some l → H a = some (.lst (nis l))
def LeadsAt (H : Hp) (p : Addr) (ld : List (List Nat)) : Prop := ∃ as : List Addr, H p = some (.lst (as.map .ref)) ∧ LstsAt H as ld
theorem LstsAt.sol {H H' : Hp} {as : List Addr} {ls : List (List Nat)} (h : LstsAt H as ls) (e : Sol H H') : LstsAt H' as ls := ⟨h.1, fun i a l h1 h2 => e _ _ (h.2 i a l h1 h2) trivial⟩
theorem LstsAt.mut {H : Hp} {as : List Addr} {ls : List (List Nat)} {p : Addr} {o : HO} (h : LstsAt H as ls) (hp : p ∉ as) : LstsAt (upd H p o) as ls := ⟨h.1, fun i a l h1 h2 => by
  have hne : a ≠ p := fun e => hp (by rw [← e]; exact List.mem_of_getElem? h1)
  rw [upd_ne hne]; exact h.2 i a l h1 h2⟩
theorem LeadsAt.sol {H H' : Hp} {p : Addr} {ld : List (List Nat)} (h : LeadsAt H p ld) (e : Sol H H') : LeadsAt H' p ld := by
  obtain ⟨as, h1, h2⟩ := h; exact ⟨as, e _ _ h1 trivial, h2.sol e⟩
theorem LstsAt.get {H : Hp} {as : List Addr} {ls : List (List Nat)} {i : Nat} {l : List Nat} (h : LstsAt H as ls) (hi : ls[i]? = some l) : ∃ a, as[i]? = some a ∧ H a = some (.lst (nis l)) := by
  have hl := (List.getElem?_eq_some_iff.mp hi).1
  have := List.getElem?_eq_getElem (show i < as.length by rw [h.1]; exact hl)
  exact ⟨_, this, h.2 i _ l this hi⟩
theorem LstsAt.add {H : Hp} {as : List Addr} {ls : List (List Nat)} {a : Addr} {l : List Nat} (h : LstsAt H as ls) (ha : H a = some (.lst (nis l))) : LstsAt H (as ++ [a]) (ls ++ [l]) := by
  refine ⟨by simp [h.1], fun i b m h1 h2 => ?_⟩
  by_cases hi : i < as.length
  · rw [List.getElem?_append_left hi] at h1
    rw [List.getElem?_append_left (by rw [← h.1]; exact hi)] at h2
    exact h.2 i b m h1 h2
  · have : i = as.length := by
      have := (List.getElem?_eq_some_iff.mp h1).1
      simp at this; omega
    subst this
    simp at h1
    rw [h.1] at h2
    simp at h2
    rw [← h1, ← h2]; exact ha
section
variable {P : Program} {w : World} {K : PySem.W.Frag} {mg : Str → Option Value} {base : Heap} {CM CA CW CG : Addr} {D : Cds}
def ahd (M : Mc) (ds : List (List Nat)) (u : Wd) : Nat → V := fun k => vi (ds.idxOf (tr M (M.ls.getD k 0 :: u)))
def rowA (M : Mc) (ds : List (List Nat)) (u : Wd) : List Nat := M.ls.map fun c => ds.idxOf (tr M (c :: u))
theorem tab_ahd (M : Mc) (ds : List (List Nat)) (u : Wd) : tab (ahd M ds u) M.ls.length = nis (rowA M ds u) := by
  refine tab_eq (by simp [rowA, nis]) fun k x hx => ?_
  obtain ⟨n, hn, rfl⟩ := nis_inv hx
  unfold rowA at hn
  rw [List.getElem?_map] at hn
  cases e : M.ls[k]? with
  | none => rw [e] at hn; cases hn
  | some c => rw [e] at hn; cases hn; unfold ahd; rw [getD_of e]
def spLedAhead (CM CA : Addr) : Sp := fun vs H Q _ => ∃ (a : Addr) (M : Mc) (ds : List (List Nat)) (ws : List Wd) (tb : List (List Nat)), vs = [.ref a] ∧ AlgAt CM CA H a M ds ws tb ∧ AlgD M ds ws tb ∧ M.Ok ∧ ∀ H' p ld, Same H H' → Leads M ds ws ld → LeadsAt H' p ld → Q (.ref p) H'
theorem ok_led_ahead (T : Tx K mg CM CA CW CG) : Pr P w K mg base CX0 4 "led_ahead" P_led_ahead [] (spLedAhead CM CA) := by
  refine T.d_led_ahead.pr sc_led_ahead (fun _ _ _ _ _ _ us hl => match us, hl with | [_], _ => rfl) (fun vs H Q E h => ?_) (fun f cdv A outer s H vs Q E hr h => ?_)
  · obtain ⟨a, M, ds, ws, tb, rfl, _⟩ := h; rfl
  · obtain ⟨a, M, ds, ws, tb, rfl, hA, A1, O, q⟩ := h
    have hsz : (S M.ls).cps.size = M.ls.length := by show M.ls.toArray.size = _; simp
    have hl4 := O.lle
    refine ⟨_, (PSs.nox (pss_cons (ps_set (i := 1) sc_led_ahead.nd rfl (Or.inr rfl) (pe_lc (own := [("letter", 2)]) rfl sc_led_ahead.nd (pi_str (pe_methP0 (pv 0) T.clCA (ok_Algebra_letters T) (hr.mono (by decide)) pass0)) (blkOk_by (own := [("letter", 2)]) (N := N_led_ahead) (sc := defScope s_led_ahead) (by decide +kernel)) (fun _ _ _ _ _ => (pg_name (i := 2) sc_led_ahead.nd rfl (Or.inl rfl) (Or.inr rfl))) (fun _ _ _ _ _ => pts_nil) (fun _ _ _ _ _ => (pe_methP (pv 0) T.clCA (ok_Algebra_element T) (hr.mono (by decide)) pass0 (pa_cons (pv 2) pa_nil)))))
 (pss_one (ps_ret (pe_lc (own := [("i", 3)]) rfl sc_led_ahead.nd (pi_range1 rfl T.z_range (pa_cons (pe_callB (call_lenP T.clCA (ok_Algebra_len T) (hr.mono (by decide))) rfl T.z_len boot_len (pa_cons (pv 0) pa_nil)) pa_nil)) (blkOk_by (own := [("i", 3)]) (N := N_led_ahead) (sc := defScope s_led_ahead) (by decide +kernel)) (fun _ _ _ _ _ => (pg_name (i := 3) sc_led_ahead.nd rfl (Or.inr rfl) (Or.inl rfl))) (fun _ _ _ _ _ => pts_nil) (fun _ _ _ _ _ => (pe_lc (own := [("one", 4)]) rfl sc_led_ahead.nd (pi_listK K rfl (pv 1)) (blkOk_by (own := [("one", 4)]) (N := N_led_ahead) (by kernel_rfl)) (fun _ _ _ _ _ => (pg_name (i := 4) sc_led_ahead.nd rfl (Or.inl rfl) (Or.inr rfl))) (fun _ _ _ _ _ => pts_nil) (fun _ _ _ _ _ => (pe_methP (pv 0) T.clCA (ok_Algebra_times T) (hr.mono (by decide)) pass0 (pa_cons (pv 4) (pa_cons (pv 3) pa_nil))))))))))), ?_⟩
    obtain ⟨dx, b, pd, pw, pn, pt, F⟩ := id hA
    refine ⟨_, rfl, a, dx, _, rfl, F.i, fA_no (by decide +kernel), a, M, ds, ws, tb, rfl, hA, ?_⟩
    refine ⟨_, rfl, fun L hL => lc_map (walk_str (z := S M.ls)) (Same H) (ahd M ds []) (by rw [hsz]; exact sl (by omega)) (same_new hL) (fun _ _ _ _ _ => trivial) (fun H3 xs ys r _ => same_mut r hL) (fun k x H3 H3' Q' hk r3 hD3 hY kk => ?_) (fun H2 r2 hL2 => ?_)⟩
    · obtain ⟨rfl, c, hc, rfl⟩ := hY
      have hcu := S_get.mp hc
      refine ⟨rfl, _, rfl, a, dx, _, rfl, r3 _ _ F.i, fA_no (by decide +kernel), _, rfl, a, M, ds, ws, tb, [c], rfl, hA.sol (.of r3), A1, .one (List.mem_of_getElem? hcu), by show 1 ≤ 20000; decide, fun H4 j e4 hj => ?_⟩
      have k1 := kk H4 (e4 _ _ hD3) fun b o z => e4 b o (r3 b o z)
      have : ahd M ds [] k = vi j := by unfold ahd; rw [getD_of hcu, idx_of A1.p.nd hj]
      rw [this] at k1
      exact k1
    · rw [hsz, tab_ahd] at hL2
      -- for each element
      have h200 := A1.few
      have hM : ds.length ≤ 1000000 := Nat.le_trans h200 (by decide)
      have h63 := lt63 hM
      have h62 := lt62 hM
      refine ⟨_, rfl, _, _, _, rfl, r2 _ _ F.i, a, M, ds, ws, tb, rfl, hA.sol (.of r2), ds.length, rfl, h63, _, rfl, lo62, h62, fun L' hL' => ?_⟩
      have hL0 : H L' = none := r2.free hL'
      refine lc_it (walk_range (lo := 0) (n := ds.length)) (fun i H4 => ∃ (as : List Addr) (ld : List (List Nat)), Same H2 H4 ∧ H4 L' = some (.lst (as.map .ref)) ∧ LstsAt H4 as ld ∧ ld = (ws.take i).map (rowA M ds) ∧ L' ∉ as) ⟨[], [], same_new hL', upd_same, ⟨rfl, fun i a l h => by cases h⟩, rfl, by simp⟩ (fun _ _ _ _ => trivial) (fun i x H4 H4' hi h hY => ?_) (fun H4 h => ?_)
      · obtain ⟨as, ld, r4, hL4, hls, rfl, hna⟩ := h
        obtain ⟨rfl, hx⟩ := hY
        obtain ⟨u, hu, ou, hul, hdu⟩ := A1.p.at hi
        have hx2 : x = vi i := by
          rw [hx]; show V.int (0 + (i : Nat)) = V.int (i : Nat); rw [Int.zero_add]
        subst hx2
        refine ⟨rfl, _, rfl, L, rfl, ⟨_, .of (r4 _ _ hL2)⟩, fun N hN => lc_map (walk_list (xs := nis (rowA M ds []))) (Same H4') (ahd M ds u) (by rw [nis_len]; unfold rowA; rw [List.length_map]; exact sl (by omega)) (same_new hN) (fun j H5 hj r hD2 => .of (r _ _ (r4 _ _ hL2))) (fun H5 xs ys r _ => same_mut r hN) (fun k x H5 H5' Q' hk r5 hD5 hY kk => ?_) (fun H5 r5 hN5 => ?_)⟩
        · obtain ⟨rfl, hx⟩ := hY
          obtain ⟨n, hn, rfl⟩ := nis_inv hx
          unfold rowA at hn
          rw [List.getElem?_map] at hn
          obtain ⟨c, hc, rfl⟩ : ∃ c, M.ls[k]? = some c ∧ n = ds.idxOf (tr M [c]) := by
            cases e : M.ls[k]? with
            | none => rw [e] at hn; cases hn
            | some c => rw [e] at hn; exact ⟨c, rfl, (Option.some.inj hn).symm⟩
          have hcl := List.mem_of_getElem? hc
          obtain ⟨j1, hj1⟩ := A1.elem (.one hcl)
          have r25 : Same H H5' := fun b o z => r5 b o (r4 b o (r2 b o z))
          refine ⟨rfl, _, rfl, a, dx, _, rfl, r25 _ _ F.i, fA_no (by decide +kernel), _, rfl, _, rfl, a, M, ds, ws, tb, _, i, [c], u, rfl, hA.sol (.of r25), A1, O, .one hcl, ou, by rw [idx_of A1.p.nd hj1]; exact hj1, hdu, fun H6 m e6 hm => ?_⟩
          have k1 := kk H6 (e6 _ _ hD5) fun b o z => e6 b o (r5 b o z)
          have : ahd M ds u k = vi m := by unfold ahd; rw [getD_of hc]; exact congrArg vi (idx_of A1.p.nd hm)
          rw [this] at k1
          exact k1
        · have hra : (nis (rowA M ds [])).length = M.ls.length := by rw [nis_len]; unfold rowA; rw [List.length_map]
          rw [hra, tab_ahd] at hN5
          have hil : as.length ≤ 200 := by rw [hls.1, List.length_map, List.length_take]; omega
          have hL5 := r5 _ _ hL4
          have nNL : N ≠ L' := fun e => by rw [e, hL4] at hN; cases hN
          have hnb : L' ∉ as ++ [N] := fun z => by
            rcases List.mem_append.mp z with z | z
            · exact hna z
            · exact nNL (List.mem_singleton.mp z).symm
          refine ⟨_, hL5, by rw [List.length_map]; exact slt (by omega), as ++ [N], (ws.take (i + 1)).map (rowA M ds), same_mut (fun b o z => r5 b o (r4 b o z)) hL', by rw [upd_same]; simp, ?_, rfl, hnb⟩
          have e1 : (ws.take (i + 1)).map (rowA M ds) = (ws.take i).map (rowA M ds) ++ [rowA M ds u] := by rw [List.take_succ, hu, List.map_append]; rfl
          rw [e1]
          exact ((hls.sol (.of r5)).add hN5).mut hnb
      · obtain ⟨as, ld, r4, hL4, hls, rfl, hna⟩ := h
        have hwl : ws.length = ds.length := A1.p.len.symm
        rw [← hwl, List.take_length] at hls
        refine q H4 L' (ws.map (rowA M ds)) (fun b o z => r4 b o (r2 b o z)) ⟨by rw [List.length_map, hwl], fun i u hu => ?_⟩ ⟨as, hL4, hls⟩
        refine ⟨rowA M ds u, by rw [List.getElem?_map, hu]; rfl, by unfold rowA; rw [List.length_map], fun k c hc => ?_⟩
        obtain ⟨ou, _, _⟩ := A1.p.wd i u hu
        obtain ⟨j, hj⟩ := A1.elem (.cons (List.mem_of_getElem? hc) ou)
        exact ⟨j, by unfold rowA; rw [List.getElem?_map, hc]; exact congrArg some (idx_of A1.p.nd hj), hj⟩
end
end Sw
/-! word_from. -/
namespace Sw
open PySem PySem.Spec PyProof.Rows L2 LamX NdefX
def mv1 (M : Mc) (c : Nat) (m : List Nat) : List Nat := m.map fun s => M.go s c
def mvs (M : Mc) (w : Wd) (m : List Nat) : List Nat := m.map fun s => M.run s w
section
variable {M : Mc}
theorem mvs_nil (m : List Nat) : mvs M [] m = m := by unfold mvs; simp [Mc.run_nil]
theorem mvs_cons (c : Nat) (w : Wd) (m : List Nat) : mvs M (c :: w) m = mvs M w (mv1 M c m) := by unfold mvs mv1; rw [List.map_map]; rfl
theorem mvs_snoc (c : Nat) (w : Wd) (m : List Nat) : mvs M (w ++ [c]) m = mv1 M c (mvs M w m) := by
  unfold mvs mv1; rw [List.map_map]; apply List.map_congr_left; intro s _
  show M.run s (w ++ [c]) = _
  rw [Mc.run_app]; rfl
theorem mvs_len (w : Wd) (m : List Nat) : (mvs M w m).length = m.length := by unfold mvs; simp
theorem mv1_len (c : Nat) (m : List Nat) : (mv1 M c m).length = m.length := by unfold mv1; simp
theorem mv1_lt (O : M.Ok) (c : Nat) (m : List Nat) : ∀ x ∈ mv1 M c m, x < M.n := fun x hx => by
  obtain ⟨s, _, rfl⟩ := List.mem_map.mp hx; exact O.go_lt s c
/-- what the search holds -/
structure WI (M : Mc) (l : List Nat) (due : List Nat → Bool) (ms : List (List Nat)) (wl : List (List Nat × Wd)) (pd : List (List Nat)) : Prop where
  nd : ms.Nodup
  ok : ∀ m ∈ ms, m.length = l.length ∧ (∀ x ∈ m, x < M.n) ∧ due m = false
  wk : ∀ p ∈ wl, Ov M.ls p.2 ∧ mvs M p.2 l = p.1 ∧ p.2.length ≤ ms.length
  cl : ∀ m, (m = l ∨ m ∈ ms) → m ∈ pd ∨ (∃ u, (m, u) ∈ wl) ∨ ∀ c ∈ M.ls, mv1 M c m ∈ ms
variable {l m : List Nat} {due : List Nat → Bool} {ms : List (List Nat)} {wl : List (List Nat × Wd)} {pd : List (List Nat)} {u : Wd}
theorem WI.le (g : WI M l due ms wl pd) : ms.length ≤ M.n ^ l.length := by
  rw [← lists_len]
  exact nodup_le _ _ g.nd fun x hx => mem_lists (g.ok x hx).1 (g.ok x hx).2.1
theorem WI.pop (g : WI M l due ms ((m, u) :: wl) []) : WI M l due ms wl [m] :=
  ⟨g.nd, g.ok, fun p hp => g.wk p (List.mem_cons_of_mem _ hp), fun x hx => by
    rcases g.cl x hx with a | ⟨v, a⟩ | a
    · cases a
    · rcases List.mem_cons.mp a with e | e
      · cases e; exact .inl (by simp)
      · exact .inr (.inl ⟨v, e⟩)
    · exact .inr (.inr a)⟩
theorem WI.new {c : Nat} (g : WI M l due ms wl pd) (O : M.Ok) (hm : mvs M u l = m) (hu : Ov M.ls u) (hul : u.length ≤ ms.length) (hc : c ∈ M.ls) (hn : mv1 M c m ∉ ms) (hd : due (mv1 M c m) = false) : WI M l due (ms ++ [mv1 M c m]) (wl ++ [(mv1 M c m, u ++ [c])]) pd := by
  refine ⟨?_, fun x hx => ?_, fun p hp => ?_, fun x hx => ?_⟩
  · rw [List.nodup_append]
    exact ⟨g.nd, by simp, fun a ha b hb e => hn (by rw [List.mem_singleton] at hb; rw [← hb, ← e]; exact ha)⟩
  · rcases List.mem_append.mp hx with h | h
    · exact g.ok x h
    · rw [List.mem_singleton.mp h]; exact ⟨by rw [mv1_len, ← hm, mvs_len], mv1_lt O c m, hd⟩
  · rw [List.length_append, List.length_singleton]
    rcases List.mem_append.mp hp with h | h
    · obtain ⟨a, b, d⟩ := g.wk p h; exact ⟨a, b, by omega⟩
    · rw [List.mem_singleton.mp h]; exact ⟨hu.app (.one hc), by rw [mvs_snoc, hm], by rw [List.length_append, List.length_singleton]; omega⟩
  · have old : (x = l ∨ x ∈ ms) → x ∈ pd ∨ (∃ v, (x, v) ∈ wl ++ [(mv1 M c m, u ++ [c])]) ∨ ∀ d ∈ M.ls, mv1 M d x ∈ ms ++ [mv1 M c m] := fun h => by
      rcases g.cl x h with a | ⟨v, a⟩ | a
      · exact .inl a
      · exact .inr (.inl ⟨v, List.mem_append.mpr (.inl a)⟩)
      · exact .inr (.inr fun d hd => List.mem_append.mpr (.inl (a d hd)))
    rcases hx with h | h
    · exact old (.inl h)
    · rcases List.mem_append.mp h with a | a
      · exact old (.inr a)
      · rw [List.mem_singleton.mp a]; exact .inr (.inl ⟨u ++ [c], by simp⟩)
theorem WI.next (g : WI M l due ms wl [m]) (h : ∀ c ∈ M.ls, mv1 M c m ∈ ms) : WI M l due ms wl [] :=
  ⟨g.nd, g.ok, g.wk, fun x hx => by
    rcases g.cl x hx with a | a | a
    · rw [List.mem_singleton.mp a]; exact .inr (.inr h)
    · exact .inr (.inl a)
    · exact .inr (.inr a)⟩
theorem WI.none (g : WI M l due ms [] []) : ∀ w, Ov M.ls w → w ≠ [] → due (mvs M w l) = false := by
  have key : ∀ (w : Wd) (x : List Nat), (x = l ∨ x ∈ ms) → Ov M.ls w → w ≠ [] → mvs M w x ∈ ms := fun w => by
    induction w with
    | nil => intro x _ _ h; exact absurd rfl h
    | cons c w ih =>
      intro x hx ho _
      have h1 : mv1 M c x ∈ ms := by
        rcases g.cl x hx with a | ⟨_, a⟩ | a
        · cases a
        · cases a
        · exact a c ho.hd
      rw [mvs_cons]
      cases w with
      | nil => rw [mvs_nil]; exact h1
      | cons d w => exact ih _ (.inr h1) ho.tl (by simp)
  intro w ho hne
  exact (g.ok _ (key w l (.inl rfl) ho hne)).2.2
end
def PairIn (H : Hp) (as : List Addr) (wl : List (List Nat × Wd)) : Prop := as.length = wl.length ∧ ∀ (i : Nat) a p, as[i]? = some a → wl[i]? = some p → ∃ t, H a = some (.tup [.ref t, VS p.2]) ∧ H t = some (.tup (nis p.1))
theorem PairIn.sol {H H' : Hp} {as : List Addr} {wl : List (List Nat × Wd)} (h : PairIn H as wl) (e : Sol H H') : PairIn H' as wl := ⟨h.1, fun i a p h1 h2 => by obtain ⟨t, a1, a2⟩ := h.2 i a p h1 h2; exact ⟨t, e _ _ a1 trivial, e _ _ a2 trivial⟩⟩
theorem PairIn.mut {H : Hp} {as : List Addr} {wl : List (List Nat × Wd)} {q : Addr} {o : HO} (h : PairIn H as wl) (hq : ∀ xs, H q ≠ some (.tup xs)) : PairIn (upd H q o) as wl := ⟨h.1, fun i a p h1 h2 => by
  obtain ⟨t, a1, a2⟩ := h.2 i a p h1 h2
  exact ⟨t, by rw [upd_ne fun e => hq _ (e ▸ a1)]; exact a1, by rw [upd_ne fun e => hq _ (e ▸ a2)]; exact a2⟩⟩
theorem PairIn.tl {H : Hp} {a : Addr} {as : List Addr} {p : List Nat × Wd} {wl : List (List Nat × Wd)} (h : PairIn H (a :: as) (p :: wl)) : PairIn H as wl := ⟨by simpa using h.1, fun i b q h1 h2 => h.2 (i + 1) b q h1 h2⟩
theorem PairIn.snoc {H : Hp} {as : List Addr} {a t : Addr} {p : List Nat × Wd} {wl : List (List Nat × Wd)} (h : PairIn H as wl) (h1 : H a = some (.tup [.ref t, VS p.2])) (h2 : H t = some (.tup (nis p.1))) : PairIn H (as ++ [a]) (wl ++ [p]) := by
  refine ⟨by rw [List.length_append, List.length_append, h.1]; rfl, fun i b q e1 e2 => ?_⟩
  rw [List.getElem?_append] at e1 e2
  by_cases hi : i < wl.length
  · rw [if_pos (by rw [h.1]; exact hi)] at e1
    rw [if_pos hi] at e2
    exact h.2 i b q e1 e2
  · rw [if_neg (by rw [h.1]; exact hi), h.1] at e1
    rw [if_neg hi] at e2
    have hi0 : i - wl.length = 0 := by
      have := (List.getElem?_eq_some_iff.mp e1).1
      simp at this; omega
    rw [hi0] at e1 e2
    cases e1; cases e2
    exact ⟨t, h1, h2⟩
theorem strOk_S {ls u : Wd} (A : ∀ c ∈ ls, 97 ≤ c ∧ c ≤ 122) (h : Ov ls u) : PyData.strOk (S u) = true := by
  unfold PyData.strOk; simp [S]
  intro x hx
  have := A _ (h _ hx); omega
theorem pair_dp {K : PySem.W.Frag} {H : Hp} : ∀ {as : List Addr} {wl : List (List Nat × Wd)}, PairIn H as wl → DpAll K H (as.map V.ref) (wl.map fun p => PyData.tuple [.tuple (its p.1), .str (S p.2)])
  | [], [], _ => .nil
  | [], _ :: _, h => by have := h.1; simp at this
  | _ :: _, [], h => by have := h.1; simp at this
  | a :: as, p :: wl, h => by
    obtain ⟨t, h1, h2⟩ := h.2 0 a p rfl rfl
    exact .cons (.tup (.inl (.inl h1)) (.cons (.tup (.inl (.inl h2)) (dp_nis p.1)) (.cons (.str _) .nil))) (pair_dp h.tl)
theorem pair_ok {ls : Wd} (A : ∀ c ∈ ls, 97 ≤ c ∧ c ≤ 122) {wl : List (List Nat × Wd)} (h : ∀ p ∈ wl, Ov ls p.2) : ∀ d ∈ wl.map (fun p => PyData.tuple [.tuple (its p.1), .str (S p.2)]), Okd 3 d := fun d hd => by
  obtain ⟨p, hp, rfl⟩ := List.mem_map.mp hd
  refine okd_tup (k := 2) fun e he => ?_
  rcases List.mem_cons.mp he with h1 | h1
  · rw [h1]; exact okd_tup (okd_its _)
  · rw [List.mem_singleton.mp h1]; exact okd_mono (okd_str (strOk_S A (h p hp))) (by omega)
section
variable {P : Program} {w : World} {K : PySem.W.Frag} {mg : Str → Option Value} {base : Heap} {CM CA CW CG : Addr} {D : Cds}
def spDue (N k : Nat) (due : List Nat → Bool) : Sp := fun vs H Q _ => ∃ t m, vs = [.ref t] ∧ H t = some (.tup (nis m)) ∧ m.length = k ∧ (∀ x ∈ m, x < N) ∧ ∀ H', Same H H' → Q (.bl (due m)) H'
def wW (M : Mc) (l : List Nat) (due : List Nat → Bool) (a t f Mt : Addr) (H : Hp) (m : Nat) (σ : L2.St) (H4 : Hp) : Prop := ∃ (ms : List (List Nat)) (wl : List (List Nat × Wd)) (as : List Addr) (W : Addr) (v5 v6 v7 v8 : Option V), σ = [some (.ref a), some (.ref t), some (.ref f), some (.ref W), some (.ref Mt), v5, v6, v7, v8] ∧
  m = 2 * (M.n ^ l.length - ms.length) + wl.length ∧ WI M l due ms wl [] ∧ Same H H4 ∧ H4 Mt = some (.dT (setOf tk ms)) ∧ H4 W = some (.lst (as.map .ref)) ∧ PairIn H4 as wl ∧ H W = none ∧ wl.length ≤ ms.length + 1
def WfR (M : Mc) (l : List Nat) (due : List Nat → Bool) : Option Wd → Prop
  | some u => Ov M.ls u ∧ u ≠ [] ∧ u.length ≤ 3601 ∧ due (mvs M u l) = true
  | none => ∀ u, Ov M.ls u → u ≠ [] → due (mvs M u l) = false
def spWordFrom (P : Program) (w : World) (K : PySem.W.Frag) (mg : Str → Option Value) (base : Heap) (CM CW : Addr) : Sp := fun vs H Q _ => ∃ (a t f : Addr) (M : Mc) (l : List Nat) (due : List Nat → Bool), vs = [.ref a, .ref t, .ref f] ∧ WalksAt CM CW H a M ∧ M.Min ∧ H t = some (.tup (nis l)) ∧ l.length ≤ 2 ∧ (∀ x ∈ l, x < M.n) ∧ Cb P w K mg base 2 f H (spDue M.n l.length due) ∧
  ∀ H' r, Same H H' → WfR M l due r → Q (ov r) H'
theorem pow_le {n k : Nat} (hn : n ≤ 60) (hk : k ≤ 2) : n ^ k ≤ 3600 := by
  match k, hk with
  | 0, _ => simp
  | 1, _ => simp; omega
  | 2, _ => have : n ^ 2 ≤ 60 ^ 2 := Nat.pow_le_pow_left hn 2; simpa using this
theorem ok_Walks_word_from (T : Tx K mg CM CA CW CG) : Pm P w K mg base CX0 3 CW "word_from" P_Walks_word_from [] (spWordFrom P w K mg base CM CW) := by
  refine T.d_Walks_word_from.pm sc_Walks_word_from (fun _ _ _ _ _ _ us hl => match us, hl with | [_, _, _], _ => rfl) (fun vs H Q E h => ?_) (fun f cdv A outer s H vs Q E hr h => ?_)
  · obtain ⟨a, t, f, M, l, due, rfl, _⟩ := h; rfl
  · obtain ⟨a, t, fd, M, l, due, rfl, hW, O, ht, hk, hlt, Cd, q⟩ := h
    have hu := hu_of hr
    have hpow := pow_le (k := l.length) O.le hk
    refine ⟨_, (PSs.nox (pss_cons (ps_par (i := 3) (j := 4) (by rfl) sc_Walks_word_from.nd rfl rfl (by decide) rfl rfl (pa_cons (pe_lst (pa_cons (pe_tup (pa_cons (pv 1) (pa_cons pe_str pa_nil))) pa_nil)) (pa_cons pe_dnewT pa_nil)) (by rfl))
 (pss_cons (ps_while PassesOwn.never (pt_cmpR (op_neD hr.units) (pv 3) (pe_lst pa_nil) (nomark _))
 (pss_cons (ps_asg (pv 3) (pg_star hr.hd (pgs_cons (pg_tup rfl (pgs_cons (pg_name (i := 5) sc_Walks_word_from.nd rfl (Or.inl rfl) (Or.inl rfl)) (pgs_cons (pg_name (i := 6) sc_Walks_word_from.nd rfl (Or.inl rfl) (Or.inl rfl)) pgs_nil))) (pgs_star (pg_name (i := 3) sc_Walks_word_from.nd rfl (Or.inl rfl) (Or.inl rfl)) pgs_nil))))
 (pss_one (ps_for PassesOwn.never rfl (pi_str (pe_fld (pv 0) rfl)) (pg_name (i := 7) sc_Walks_word_from.nd rfl (Or.inl rfl) (Or.inl rfl))
 (pss_cons (ps_set (i := 8) sc_Walks_word_from.nd rfl (Or.inl rfl) (pe_methP (pv 0) T.clCW (ok_Walks_moved T) (hr.mono (by decide)) pass0 (pa_cons (pv 5) (pa_cons (pv 7) pa_nil))))
 (pss_one (ps_if (pt_cmp (pc_dnotin hu (pv 8) (pv 4)))
 (pss_cons (ps_if (pt_val (pe_callF (i := 2) hr rfl (.inl rfl) (pa_cons (pv 8) pa_nil)))
 (pss_one (ps_ret (pe_op op_add_str (pv 6) (pv 7))))
 pss_nil)
 (pss_cons (ps_dput hu (pv 4) (pv 8) pe_bl rfl)
 (pss_one (ps_expr (pe_bm PySem.F.plainAttrs_list PySem.F.slot_list_append PySem.F.type_list_append mt_append (pv 3) (pa_cons (pe_tup (pa_cons (pv 8) (pa_cons (pe_op op_add_str (pv 6) (pv 7)) pa_nil))) pa_nil))))))
 pss_nil)))))))
 (pss_one (ps_ret pe_non))))), ?_⟩
    -- waiting, met = ([(some, '')], {})
    refine ⟨_, rfl, by show 2 ≤ 2 ^ 24; decide, fun p0 hp0 => ⟨by show 1 ≤ 2 ^ 24; decide, fun W0 hW0 => fun Mt hMt => ⟨_, _, rfl, ?_⟩⟩⟩
    have e1 : Same H (upd (upd H p0 (.tup [.ref t, .str ""])) W0 (.lst [.ref p0])) := fun b o z => by rw [upd_ne (ne_of_none ((same_new hp0) b o z) hW0)]; exact (same_new hp0) b o z
    have hW1 : upd (upd H p0 (.tup [.ref t, .str ""])) W0 (.lst [.ref p0]) W0 = some (.lst ([p0].map .ref)) := upd_same
    have hp1 : upd (upd H p0 (.tup [.ref t, .str ""])) W0 (.lst [.ref p0]) p0 = some (.tup [.ref t, VS []]) := by rw [upd_ne (ne_of_none upd_same hW0)]; exact upd_same
    have hW00 : H W0 = none := (same_new hp0 : Same H (upd H p0 (.tup [.ref t, .str ""]))).free hW0
    generalize upd (upd H p0 (.tup [.ref t, .str ""])) W0 (.lst [.ref p0]) = H1 at e1 hW1 hp1 hMt
    have hMt0 : H Mt = none := e1.free hMt
    refine while_ix (wW M l due a t fd Mt H) _ ⟨[], [(l, [])], [p0], W0, _, _, _, _, rfl, rfl, ⟨by simp, (fun m h => by cases h), fun p hp => ?_, fun m hm => ?_⟩, same_mut e1 hMt0, upd_same, by rw [upd_ne (ne_of_none hW1 hMt)]; exact hW1, ?_, hW00, by simp⟩ ?_
    · rw [List.mem_singleton.mp hp]; exact ⟨.nil, mvs_nil l, Nat.le_refl _⟩
    · rcases hm with h | h
      · exact .inr (.inl ⟨[], by rw [h]; simp⟩)
      · cases h
    · refine ⟨rfl, fun i b p h1 h2 => ?_⟩
      match i with
      | 0 => cases h1; cases h2; exact ⟨t, by rw [upd_ne (ne_of_none hp1 hMt)]; exact hp1, by rw [upd_ne (ne_of_none (e1 _ _ ht) hMt)]; exact e1 _ _ ht⟩
      | i + 1 => cases h1
    rintro m σ H4 ⟨ms, wl, as, W, v5, v6, v7, v8, rfl, hm, g, r4, hM4, hW4, hpr, hW0', hwm⟩
    have hmle := g.le
    refine ⟨_, rfl, by show 0 ≤ 2 ^ 24; decide, fun E1 hE1 => ?_⟩
    have e5 : Same H4 (upd H4 E1 (.lst [])) := same_new hE1
    refine ne_nil (.of (e5 _ _ hW4)) (pair_dp (hpr.sol (.of e5))) (pair_ok (fun c hc => O.abc c hc) fun p hp => (g.wk p hp).1) (by omega) (.of upd_same) ⟨_, rfl, ?_⟩
    generalize upd H4 E1 (.lst []) = H5 at e5
    have hM5 := e5 _ _ hM4
    have hW5 := e5 _ _ hW4
    have hpr5 := hpr.sol (.of e5)
    have r5 : Same H H5 := fun b o z => e5 b o (r4 b o z)
    cases wl with
    | nil =>
      have has : as = [] := List.eq_nil_of_length_eq_zero (by rw [hpr.1]; rfl)
      subst has
      exact q _ none r5 g.none
    | cons pr wl =>
      obtain ⟨here, u0⟩ := pr
      cases as with
      | nil => have := hpr.1; simp at this
      | cons a0 as =>
        obtain ⟨t0, ha0, ht0⟩ := hpr5.2 0 a0 _ rfl rfl
        obtain ⟨u1, u2, u3⟩ := g.wk (here, u0) List.mem_cons_self
        dsimp only at u1 u2 u3
        have hlen : here.length = l.length := by rw [← u2, mvs_len]
        have hlt2 : ∀ x ∈ here, x < M.n := fun x hx => by
          rw [← u2] at hx
          obtain ⟨s, hs, rfl⟩ := List.mem_map.mp hx
          exact O.run_lt (hlt s hs) _
        refine ⟨fun σ' H' => ∃ m', m' < m ∧ wW M l due a t fd Mt H m' σ' H', fun _ _ h => h, ?_⟩
        -- (here, word), *waiting = waiting
        refine ⟨_, rfl, W, .ref a0, as.map .ref, rfl, .inl (.of hW5), fun W2 hW2 => ⟨_, _, rfl, a0, _, rfl, .inl (.inl (by rw [upd_ne (ne_of_none ha0 hW2)]; exact ha0)), rfl, _, _, rfl, _, _, rfl, rfl, _, _, rfl, rfl, ?_⟩⟩
        have e6 : Same H5 (upd H5 W2 (.lst (as.map .ref))) := same_new hW2
        have hW6 : upd H5 W2 (.lst (as.map .ref)) W2 = some (.lst (as.map .ref)) := upd_same
        have hW20 : H W2 = none := r5.free hW2
        generalize upd H5 W2 (.lst (as.map .ref)) = H6 at e6 hW6
        have hM6 := e6 _ _ hM5
        have r6 : Same H H6 := fun b o z => e6 b o (r5 b o z)
        have ht6 := e6 _ _ ht0
        have nWM : W2 ≠ Mt := (ne_of_none hM5 hW2).symm
        have hpr6 := (hpr5.tl).sol (.of e6)
        obtain ⟨dx, b, fw, p, hw1, hw2, hw3, hw4⟩ := id hW
        rw [List.length_cons] at hm hwm
        -- for letter in self.signs
        refine ⟨_, rfl, a, CW, dx, _, _, rfl, r6 _ _ hw1, T.clCW, T.nCW_signs, fWk_sg _ _ _ _, _, rfl, for_it (walk_str (z := S M.ls)) (fun i σ H7 => ∃ (ms : List (List Nat)) (wl : List (List Nat × Wd)) (as : List Addr) (v7 v8 : Option V), σ = [some (.ref a), some (.ref t), some (.ref fd), some (.ref W2), some (.ref Mt), some (.ref t0), some (VS u0), v7, v8] ∧ 2 * (M.n ^ l.length - ms.length) + wl.length < m ∧ WI M l due ms wl [here] ∧ (∀ (j c : Nat), j < i → M.ls[j]? = some c → mv1 M c here ∈ ms) ∧ u0.length ≤ ms.length ∧ Same H H7 ∧ H7 t0 = some (.tup (nis here)) ∧ H7 Mt = some (.dT (setOf tk ms)) ∧ H7 W2 = some (.lst (as.map .ref)) ∧ PairIn H7 as wl ∧ wl.length ≤ ms.length + 1)
          ⟨ms, wl, as, _, _, rfl, by omega, g.pop, fun j c h => absurd h (Nat.not_lt_zero _), u3, r6, ht6, hM6, hW6, hpr6, by omega⟩ (fun _ _ _ _ _ => trivial) ?_ ?_⟩
        · rintro i x σ H7 H7' hi ⟨ms, wl, as, v7, v8, rfl, hmm, g7, hsucc, hul, r7, ht7, hM7, hW7, hpr7, hwm7⟩ ⟨rfl, c, hc, rfl⟩
          have hcu := S_get.mp hc
          have hcl := List.mem_of_getElem? hcu
          have hle7 := g7.le
          refine ⟨_, rfl, a, dx, _, rfl, r7 _ _ hw1, fWk_no _ _ _ _ (by decide +kernel), _, rfl, _, rfl, a, t0, M, c, here, rfl, hW.sol (.of r7), O.toOk, hcl, ht7, by rw [hlen]; omega, hlt2, fun H8 p8 e8 np8 hp8 => ?_⟩
          have hM8 := e8 _ _ hM7
          have hW8 := e8 _ _ hW7
          have r8 : Same H H8 := fun b o z => e8 b o (r7 b o z)
          have hpr8 := hpr7.sol (.of e8)
          by_cases hm8 : mv1 M c here ∈ ms
          · refine ⟨_, rfl, _, rfl, Mt, _, rfl, get_tk (r := some (.bl true)) hM8 hp8 (by rw [valV_set tk_inj]; exact if_pos hm8), _, rfl, ?_⟩
            refine ⟨ms, wl, as, _, _, rfl, hmm, g7, fun j d hj hd => ?_, hul, r8, e8 _ _ ht7, hM8, hW8, hpr8, hwm7⟩
            by_cases hji : j < i
            · exact hsucc j d hji hd
            · obtain rfl : j = i := by omega
              rw [hcu] at hd; cases hd; exact hm8
          · have hv : valV (setOf tk ms) (tk (mv1 M c here)) = none := by rw [valV_set tk_inj]; exact if_neg hm8
            refine ⟨_, rfl, _, rfl, Mt, _, rfl, get_tk hM8 hp8 hv, _, rfl, ?_⟩
            refine ⟨fd, _, rfl, Cd.keep (.of r8), _, rfl, .refl _, p8, mv1 M c here, rfl, hp8, by rw [mv1_len, hlen], mv1_lt O.toOk c here, fun H9 e9 => ⟨_, rfl, ?_⟩⟩
            have r9 : Same H H9 := fun b o z => e9 b o (r8 b o z)
            have hul2 : u0.length ≤ 3600 := by omega
            cases hdue : due (mv1 M c here) with
            | true =>
              refine ⟨_, rfl, _, rfl, _, _, rfl, rfl, by rw [S_len]; show _ + 1 ≤ 2 ^ 24; omega, ?_⟩
              show Q (.str (S u0 ++ S [c])) H9
              rw [S_app]
              exact q _ (some _) r9 ⟨u1.app (.one hcl), by simp, by rw [List.length_append, List.length_singleton]; omega, by rw [mvs_snoc, u2]; exact hdue⟩
            | false =>
              have hM9 := e9 _ _ hM8
              have hp9 := e9 _ _ hp8
              have hW9 := e9 _ _ hW8
              have hpr9 := hpr8.sol (.of e9)
              have hml : ms.length < M.n ^ l.length := by
                have := (g7.new O.toOk u2 u1 hul hcl hm8 hdue).le
                rw [List.length_append, List.length_singleton] at this; omega
              refine ⟨_, rfl, _, rfl, Mt, _, rfl, DPut.t (k := tk (mv1 M c here)) hM9 (by rw [tk_kV]; exact hp9) (by rw [setOf_len]; exact slt (by omega)), ?_⟩
              rw [putK_new _ hv, ← setOf_snoc]
              have hW10 : upd H9 Mt (.dT (setOf tk (ms ++ [mv1 M c here]))) W2 = some (.lst (as.map .ref)) := by rw [upd_ne nWM]; exact hW9
              have hpr10 := hpr9.mut (o := .dT (setOf tk (ms ++ [mv1 M c here]))) (dtNT hM9)
              have hM10 : upd H9 Mt (.dT (setOf tk (ms ++ [mv1 M c here]))) Mt = some (.dT (setOf tk (ms ++ [mv1 M c here]))) := upd_same
              have hp10 : upd H9 Mt (.dT (setOf tk (ms ++ [mv1 M c here]))) p8 = some (.tup (nis (mv1 M c here))) := by rw [upd_ne (ne_of hp9 hM9 (by intro z; cases z))]; exact hp9
              have ht10 : upd H9 Mt (.dT (setOf tk (ms ++ [mv1 M c here]))) t0 = some (.tup (nis here)) := by rw [upd_ne (ne_of (e9 _ _ (e8 _ _ ht7)) hM9 (by intro z; cases z))]; exact e9 _ _ (e8 _ _ ht7)
              have r10 : Same H (upd H9 Mt (.dT (setOf tk (ms ++ [mv1 M c here])))) := same_mut r9 hMt0
              generalize upd H9 Mt (.dT (setOf tk (ms ++ [mv1 M c here]))) = H10 at hW10 hpr10 hM10 hp10 ht10 r10
              refine ⟨_, rfl, .inl ⟨rfl, _, .of hW10⟩, _, rfl, _, rfl, _, rfl, _, _, rfl, rfl, by rw [S_len]; show _ + 1 ≤ 2 ^ 24; omega, by show 2 ≤ 2 ^ 24; decide, fun p11 hp11 => ?_⟩
              have e11 : Same H10 (upd H10 p11 (.tup [.ref p8, .str (S u0 ++ S [c])])) := same_new hp11
              have hp11' : upd H10 p11 (.tup [.ref p8, .str (S u0 ++ S [c])]) p11 = some (.tup [.ref p8, VS (u0 ++ [c])]) := by rw [upd_same, S_app]
              refine ⟨_, _, _, rfl, rfl, e11 _ _ hW10, by rw [List.length_map, hpr7.1]; exact slt (by omega), ?_⟩
              refine ⟨ms ++ [mv1 M c here], wl ++ [(mv1 M c here, u0 ++ [c])], as ++ [p11], _, _, rfl, ?_, g7.new O.toOk u2 u1 hul hcl hm8 hdue, fun j d hj hd => ?_, by rw [List.length_append]; omega, same_mut (fun b o z => e11 b o (r10 b o z)) hW20, ?_, ?_, ?_, ?_, by rw [List.length_append, List.length_append, List.length_singleton, List.length_singleton]; omega⟩
              · rw [List.length_append, List.length_append, List.length_singleton, List.length_singleton]; omega
              · by_cases hji : j < i
                · exact List.mem_append.mpr (.inl (hsucc j d hji hd))
                · obtain rfl : j = i := by omega
                  rw [hcu] at hd; cases hd; simp
              · rw [upd_ne (ne_of (e11 _ _ ht10) (e11 _ _ hW10) (by intro z; cases z))]; exact e11 _ _ ht10
              · rw [upd_ne nWM.symm]; exact e11 _ _ hM10
              · rw [upd_same, List.map_append]; rfl
              · exact ((hpr10.sol (.of e11)).snoc (p := (mv1 M c here, u0 ++ [c])) hp11' (e11 _ _ hp10)).mut (lstNT (e11 _ _ hW10))
        · rintro σ H7 ⟨ms, wl, as, v7, v8, rfl, hmm, g7, hsucc, hul, r7, ht7, hM7, hW7, hpr7, hwm7⟩
          refine ⟨_, hmm, ms, wl, as, W2, _, _, _, _, rfl, rfl, g7.next fun c hc => ?_, r7, hM7, hW7, hpr7, hW20, hwm7⟩
          obtain ⟨j, hj⟩ := List.mem_iff_getElem?.mp hc
          refine hsucc j c ?_ hj
          show j < M.ls.toArray.size
          simpa using (List.getElem?_eq_some_iff.mp hj).1
end
end Sw
/-! word_ahead. -/
namespace Sw
open PySem PySem.Spec PyProof.Rows L2 LamX NdefX
def PairI (H : Hp) (as : List Addr) (wl : List (Nat × Wd)) : Prop := as.length = wl.length ∧ ∀ (i : Nat) a p, as[i]? = some a → wl[i]? = some p → H a = some (.tup [vi p.1, VS p.2])
theorem PairI.sol {H H' : Hp} {as : List Addr} {wl : List (Nat × Wd)} (h : PairI H as wl) (e : Sol H H') : PairI H' as wl := ⟨h.1, fun i a p h1 h2 => e _ _ (h.2 i a p h1 h2) trivial⟩
theorem PairI.mut {H : Hp} {as : List Addr} {wl : List (Nat × Wd)} {q : Addr} {o : HO} (h : PairI H as wl) (hq : ∀ xs, H q ≠ some (.tup xs)) : PairI (upd H q o) as wl := ⟨h.1, fun i a p h1 h2 => by
  have a1 := h.2 i a p h1 h2
  rw [upd_ne fun e => hq _ (e ▸ a1)]; exact a1⟩
theorem PairI.tl {H : Hp} {a : Addr} {as : List Addr} {p : Nat × Wd} {wl : List (Nat × Wd)} (h : PairI H (a :: as) (p :: wl)) : PairI H as wl := ⟨by simpa using h.1, fun i b q h1 h2 => h.2 (i + 1) b q h1 h2⟩
theorem PairI.snoc {H : Hp} {as : List Addr} {a : Addr} {p : Nat × Wd} {wl : List (Nat × Wd)} (h : PairI H as wl) (h1 : H a = some (.tup [vi p.1, VS p.2])) : PairI H (as ++ [a]) (wl ++ [p]) := by
  refine ⟨by rw [List.length_append, List.length_append, h.1]; rfl, fun i b q e1 e2 => ?_⟩
  rw [List.getElem?_append] at e1 e2
  by_cases hi : i < wl.length
  · rw [if_pos (by rw [h.1]; exact hi)] at e1
    rw [if_pos hi] at e2
    exact h.2 i b q e1 e2
  · rw [if_neg (by rw [h.1]; exact hi), h.1] at e1
    rw [if_neg hi] at e2
    have hi0 : i - wl.length = 0 := by
      have := (List.getElem?_eq_some_iff.mp e1).1
      simp at this; omega
    rw [hi0] at e1 e2
    cases e1; cases e2
    exact h1
theorem pairI_dp {K : PySem.W.Frag} {H : Hp} : ∀ {as : List Addr} {wl : List (Nat × Wd)}, PairI H as wl → DpAll K H (as.map V.ref) (wl.map fun p => PyData.tuple [.int (p.1 : Nat), .str (S p.2)])
  | [], [], _ => .nil
  | [], _ :: _, h => by have := h.1; simp at this
  | _ :: _, [], h => by have := h.1; simp at this
  | a :: as, p :: wl, h => .cons (.tup (.inl (.inl (h.2 0 a p rfl rfl))) (.cons (.int _) (.cons (.str _) .nil))) (pairI_dp h.tl)
theorem pairI_ok {ls : Wd} (A : ∀ c ∈ ls, 97 ≤ c ∧ c ≤ 122) {wl : List (Nat × Wd)} (h : ∀ p ∈ wl, Ov ls p.2) : ∀ d ∈ wl.map (fun p => PyData.tuple [.int (p.1 : Nat), .str (S p.2)]), Okd 2 d := fun d hd => by
  obtain ⟨p, hp, rfl⟩ := List.mem_map.mp hd
  refine okd_tup (k := 1) fun e he => ?_
  rcases List.mem_cons.mp he with h1 | h1
  · rw [h1]; exact okd_int _
  · rw [List.mem_singleton.mp h1]; exact okd_str (strOk_S A (h p hp))
section
variable {P : Program} {w : World} {K : PySem.W.Frag} {mg : Str → Option Value} {base : Heap} {CM CA CW CG : Addr} {D : Cds}
def spWordAhead : Sp := fun vs H Q _ => ∃ (ls : Wd) (p : Addr) (i j : Nat) (ld : List (List Nat)), vs = [VS ls, .ref p, vi i, vi j] ∧ LdOk ls ld ∧ LeadsAt H p ld ∧ i < ld.length ∧ ld.length ≤ 200 ∧ (∀ c ∈ ls, 97 ≤ c ∧ c ≤ 122) ∧ ∀ H' r, Same H H' → WaR ls ld i j r → Q (ov r) H'
def aW (ls : Wd) (ld : List (List Nat)) (p : Addr) (i j : Nat) (Mt : Addr) (H : Hp) (m : Nat) (σ : L2.St) (H4 : Hp) : Prop := ∃ (ms : List Nat) (wl : List (Nat × Wd)) (as : List Addr) (W : Addr) (v6 v7 v8 v9 : Option V), σ = [some (VS ls), some (.ref p), some (vi i), some (vi j), some (.ref W), some (.ref Mt), v6, v7, v8, v9] ∧
  m = 2 * (ld.length - ms.length) + wl.length ∧ WA ls ld i j ms wl [] ∧ Same H H4 ∧ H4 Mt = some (.dK (setOf ik ms)) ∧ H4 W = some (.lst (as.map .ref)) ∧ PairI H4 as wl ∧ H W = none ∧ wl.length ≤ ms.length
theorem ok_word_ahead (T : Tx K mg CM CA CW CG) : Pr P w K mg base CX0 1 "word_ahead" P_word_ahead [] spWordAhead := by
  refine T.d_word_ahead.pr sc_word_ahead (fun _ _ _ _ _ _ us hl => match us, hl with | [_, _, _, _], _ => rfl) (fun vs H Q E h => ?_) (fun f cdv A outer s H vs Q E hr h => ?_)
  · obtain ⟨ls, p, i, j, ld, rfl, _⟩ := h; rfl
  · obtain ⟨ls, p, i, j, ld, rfl, LO, hLd, hi, h200, hab, q⟩ := h
    have hu := hu_of hr
    refine ⟨_, (PSs.nox (pss_cons (ps_par (i := 4) (j := 5) (by rfl) sc_word_ahead.nd rfl rfl (by decide) rfl rfl (pa_cons (pe_lst (pa_cons (pe_tup (pa_cons (pv 2) (pa_cons pe_str pa_nil))) pa_nil)) (pa_cons (pe_disp (pps_cons (pv 2) pe_bl pps_nil) (by rfl) (by rfl) (fun z => by cases z) (by decide)) pa_nil)) (by rfl))
 (pss_cons (ps_while PassesOwn.never (pt_cmpR (op_neD hr.units) (pv 4) (pe_lst pa_nil) (nomark _))
 (pss_cons (ps_asg (pv 4) (pg_star hr.hd (pgs_cons (pg_tup rfl (pgs_cons (pg_name (i := 6) sc_word_ahead.nd rfl (Or.inl rfl) (Or.inl rfl)) (pgs_cons (pg_name (i := 7) sc_word_ahead.nd rfl (Or.inl rfl) (Or.inl rfl)) pgs_nil))) (pgs_star (pg_name (i := 4) sc_word_ahead.nd rfl (Or.inl rfl) (Or.inl rfl)) pgs_nil))))
 (pss_one (ps_for PassesOwn.never rfl (pi_zip2 rfl T.z_zip (pa_cons (pv 0) (pa_cons (pe_ix ix_list (pv 1) (pv 6) (fun _ _ => rfl)) pa_nil))) (pg_tup rfl (pgs_cons (pg_name (i := 8) sc_word_ahead.nd rfl (Or.inl rfl) (Or.inl rfl)) (pgs_cons (pg_name (i := 9) sc_word_ahead.nd rfl (Or.inl rfl) (Or.inl rfl)) pgs_nil)))
 (pss_cons (ps_if (pt_cmpR op_eq (pv 9) (pv 3) (nomark _))
 (pss_one (ps_ret (pe_op op_add_str (pv 8) (pv 7))))
 pss_nil)
 (pss_one (ps_if (pt_cmp (pc_dnotin hu (pv 9) (pv 5)))
 (pss_cons (ps_dput hu (pv 5) (pv 9) pe_bl rfl)
 (pss_one (ps_expr (pe_bm PySem.F.plainAttrs_list PySem.F.slot_list_append PySem.F.type_list_append mt_append (pv 4) (pa_cons (pe_tup (pa_cons (pv 9) (pa_cons (pe_op op_add_str (pv 8) (pv 7)) pa_nil))) pa_nil)))))
 pss_nil)))))))
 (pss_one (ps_ret pe_non))))), ?_⟩
    -- waiting, met = ([(i, '')], {i: True})
    refine ⟨_, rfl, by show 2 ≤ 2 ^ 24; decide, fun p0 hp0 => ⟨by show 1 ≤ 2 ^ 24; decide, fun W0 hW0 => fun Mt hMt => ⟨_, rfl, upd_same, [(ik i, .bl true)], rfl, by show 1 ≤ 15; decide, _, _, rfl, ?_⟩⟩⟩
    have e1 : Same H (upd (upd H p0 (.tup [vi i, .str ""])) W0 (.lst [.ref p0])) := fun b o z => by rw [upd_ne (ne_of_none ((same_new hp0) b o z) hW0)]; exact (same_new hp0) b o z
    have hW1 : upd (upd H p0 (.tup [vi i, .str ""])) W0 (.lst [.ref p0]) W0 = some (.lst ([p0].map .ref)) := upd_same
    have hp1 : upd (upd H p0 (.tup [vi i, .str ""])) W0 (.lst [.ref p0]) p0 = some (.tup [vi i, VS []]) := by rw [upd_ne (ne_of_none upd_same hW0)]; exact upd_same
    have hW00 : H W0 = none := (same_new hp0 : Same H (upd H p0 (.tup [vi i, .str ""]))).free hW0
    generalize upd (upd H p0 (.tup [vi i, .str ""])) W0 (.lst [.ref p0]) = H1 at e1 hW1 hp1 hMt
    have hMt0 : H Mt = none := e1.free hMt
    have eD : upd (upd H1 Mt (.dK [])) Mt (.dK (mergeK [] [(ik i, .bl true)])) = upd H1 Mt (.dK (setOf ik [i])) := by
      funext x; unfold upd; split <;> rfl
    rw [eD]
    refine while_ix (aW ls ld p i j Mt H) _ ⟨[i], [(i, [])], [p0], W0, _, _, _, _, rfl, rfl, .first hi, same_mut e1 hMt0, upd_same, by rw [upd_ne (ne_of_none hW1 hMt)]; exact hW1, ⟨rfl, fun k b pr h1 h2 => ?_⟩, hW00, by simp⟩ ?_
    · match k with
      | 0 => cases h1; cases h2; rw [upd_ne (ne_of_none hp1 hMt)]; exact hp1
      | k + 1 => cases h1
    rintro m σ H4 ⟨ms, wl, as, W, v6, v7, v8, v9, rfl, hm, g, r4, hM4, hW4, hpr, hW0', hwm⟩
    have hmle := g.le
    refine ⟨_, rfl, by show 0 ≤ 2 ^ 24; decide, fun E1 hE1 => ?_⟩
    have e5 : Same H4 (upd H4 E1 (.lst [])) := same_new hE1
    refine ne_nil (.of (e5 _ _ hW4)) (pairI_dp (hpr.sol (.of e5))) (pairI_ok hab fun p hp => (g.wk p hp).1) (by omega) (.of upd_same) ⟨_, rfl, ?_⟩
    generalize upd H4 E1 (.lst []) = H5 at e5
    have hM5 := e5 _ _ hM4
    have hW5 := e5 _ _ hW4
    have hpr5 := hpr.sol (.of e5)
    have r5 : Same H H5 := fun b o z => e5 b o (r4 b o z)
    cases wl with
    | nil =>
      have has : as = [] := List.eq_nil_of_length_eq_zero (by rw [hpr.1]; rfl)
      subst has
      exact q _ none r5 g.none
    | cons pr wl =>
      obtain ⟨here, u0⟩ := pr
      cases as with
      | nil => have := hpr.1; simp at this
      | cons a0 as =>
        have ha0 := hpr5.2 0 a0 _ rfl rfl
        obtain ⟨u1, u2, u3, u4⟩ := g.wk (here, u0) List.mem_cons_self
        dsimp only at u1 u2 u3 u4 ha0
        have hhere := g.ok here u3
        refine ⟨fun σ' H' => ∃ m', m' < m ∧ aW ls ld p i j Mt H m' σ' H', fun _ _ h => h, ?_⟩
        refine ⟨_, rfl, W, .ref a0, as.map .ref, rfl, .inl (.of hW5), fun W2 hW2 => ⟨_, _, rfl, a0, _, rfl, .inl (.inl (by rw [upd_ne (ne_of_none ha0 hW2)]; exact ha0)), rfl, _, _, rfl, _, _, rfl, rfl, _, _, rfl, rfl, ?_⟩⟩
        have e6 : Same H5 (upd H5 W2 (.lst (as.map .ref))) := same_new hW2
        have hW6 : upd H5 W2 (.lst (as.map .ref)) W2 = some (.lst (as.map .ref)) := upd_same
        have hW20 : H W2 = none := r5.free hW2
        generalize upd H5 W2 (.lst (as.map .ref)) = H6 at e6 hW6
        have hM6 := e6 _ _ hM5
        have r6 : Same H H6 := fun b o z => e6 b o (r5 b o z)
        have nWM : W2 ≠ Mt := (ne_of_none hM5 hW2).symm
        have hpr6 := (hpr5.tl).sol (.of e6)
        rw [List.length_cons] at hm hwm
        obtain ⟨las, hpH, hlsH⟩ := id hLd
        have hp6 := r6 _ _ hpH
        have hrow := List.getElem?_eq_getElem hhere
        generalize ld[here] = row at hrow
        obtain ⟨hrl, hrx⟩ := LO.row row (List.mem_of_getElem? hrow)
        obtain ⟨ar, har, hrwH⟩ := hlsH.get hrow
        have hrw := r6 _ _ hrwH
        -- for letter, there in zip(letters, leads[here])
        refine ⟨_, rfl, _, rfl, _, rfl, p, _, _, _, rfl, rfl, .of hp6, atI_nat (refs_get har), .txt (S ls), .lst ar, _, _, rfl, rfl, .of hrw, ?_⟩
        refine for_it (walk_zip2 (c := .txt (S ls)) (d := .lst ar) (xs := sgn (S ls)) (ys := nis row)) (fun k σ H7 => ∃ (ms : List Nat) (wl : List (Nat × Wd)) (as : List Addr) (v8 v9 : Option V), σ = [some (VS ls), some (.ref p), some (vi i), some (vi j), some (.ref W2), some (.ref Mt), some (vi here), some (VS u0), v8, v9] ∧ 2 * (ld.length - ms.length) + wl.length < m ∧ WA ls ld i j ms wl [here] ∧ (∀ (k' c : Nat), k' < k → ls[k']? = some c → stp ls ld here c ∈ ms ∧ stp ls ld here c ≠ j) ∧ u0.length ≤ ms.length ∧ Same H H7 ∧ H7 Mt = some (.dK (setOf ik ms)) ∧ H7 W2 = some (.lst (as.map .ref)) ∧ PairI H7 as wl ∧ wl.length ≤ ms.length ∧ H7 ar = some (.lst (nis row)))
          ⟨ms, wl, as, _, _, rfl, by omega, g.pop, fun j c h => absurd h (Nat.not_lt_zero _), u4, r6, hM6, hW6, hpr6, by omega, hrw⟩ (fun k σ H7 _ h => ?_) (fun k x σ H7 H7' hk h hY => ?_) (fun σ H7 h => ?_)
        · obtain ⟨_, _, _, _, _, _, _, _, _, _, _, _, _, _, _, h⟩ := h
          exact ⟨rfl, .of h⟩
        · obtain ⟨ms, wl, as, v8, v9, rfl, hmm, g7, hsucc, hul, r7, hM7, hW7, hpr7, hwm7, hr7⟩ := h
          obtain ⟨T1, x1, y1, rfl, hT, rfl, hx, hy⟩ := hY
          dsimp only at hx hy
          rw [sgn_S] at hx
          obtain ⟨c, hc, rfl⟩ : ∃ c, ls[k]? = some c ∧ x1 = VS [c] := by
            rw [List.getElem?_map] at hx
            cases e : ls[k]? with
            | none => rw [e] at hx; cases hx
            | some c => rw [e] at hx; exact ⟨c, rfl, (Option.some.inj hx).symm⟩
          obtain ⟨to, hto, rfl⟩ := nis_inv hy
          have hcl := List.mem_of_getElem? hc
          have hst : stp ls ld here c = to := stp_eq LO.nd hrow hto hc
          have htl : to < ld.length := hrx _ (List.mem_of_getElem? hto)
          have hle7 := g7.le
          have e8 : Same H7 (upd H7 T1 (.tup [VS [c], vi to])) := same_new hT
          have hT8 : upd H7 T1 (.tup [VS [c], vi to]) T1 = some (.tup [VS [c], vi to]) := upd_same
          generalize upd H7 T1 (.tup [VS [c], vi to]) = H8 at e8 hT8
          have hM8 := e8 _ _ hM7
          have hW8 := e8 _ _ hW7
          have hr8 := e8 _ _ hr7
          have r8 : Same H H8 := fun b o z => e8 b o (r7 b o z)
          have hpr8 := hpr7.sol (.of e8)
          refine ⟨T1, _, rfl, .inl (.inl hT8), rfl, _, _, rfl, _, _, rfl, rfl, _, rfl, _, rfl, rfl, _, rfl, ?_⟩
          by_cases htj : to = j
          · rw [decide_eq_true (show V.int ((to : Nat) : Int) = V.int ((j : Nat) : Int) by rw [htj])]
            refine ⟨_, rfl, _, rfl, _, _, rfl, rfl, by rw [S_len, S_len]; show 1 + _ ≤ 2 ^ 24; omega, ?_⟩
            show Q (.str (S [c] ++ S u0)) H8
            rw [S_app]
            exact q _ (some _) r8 ⟨.cons hcl u1, by simp, by show u0.length + 1 ≤ _; omega, by show stp ls ld (ldw ls ld i u0) c = j; rw [u2, hst, htj]⟩
          · rw [decide_eq_false (show ¬ (V.int ((to : Nat) : Int) = V.int ((j : Nat) : Int)) from fun e => htj (by injection e; omega))]
            by_cases hm8 : to ∈ ms
            · refine ⟨_, rfl, _, rfl, Mt, _, rfl, get_ik (r := some (.bl true)) hM8 (by rw [valV_set ik_inj]; exact if_pos hm8), _, rfl, ?_⟩
              refine ⟨ms, wl, as, _, _, rfl, hmm, g7, fun k' d hj hd => ?_, hul, r8, hM8, hW8, hpr8, hwm7, hr8⟩
              by_cases hji : k' < k
              · exact hsucc k' d hji hd
              · have : k' = k := by omega
                subst this
                rw [hc] at hd; cases hd; rw [hst]; exact ⟨hm8, htj⟩
            · have hv : valV (setOf ik ms) (ik to) = none := by rw [valV_set ik_inj]; exact if_neg hm8
              have hn : stp ls ld here c ∉ ms := by rw [hst]; exact hm8
              have gn := g7.new u2 u1 hul hcl hn (by rw [hst]; exact htl)
              rw [hst] at gn
              have hml : ms.length < ld.length := by
                have := gn.le
                rw [List.length_append, List.length_singleton] at this; omega
              refine ⟨_, rfl, _, rfl, Mt, _, rfl, get_ik hM8 hv, _, rfl, ?_⟩
              refine ⟨_, rfl, _, rfl, Mt, _, rfl, DPut.k (k := ik to) hM8 (by rw [setOf_len]; exact slt (by omega)), ?_⟩
              rw [putK_new _ hv, ← setOf_snoc]
              have hW10 : upd H8 Mt (.dK (setOf ik (ms ++ [to]))) W2 = some (.lst (as.map .ref)) := by rw [upd_ne nWM]; exact hW8
              have hpr10 := hpr8.mut (o := .dK (setOf ik (ms ++ [to]))) (dkNT hM8)
              have hM10 : upd H8 Mt (.dK (setOf ik (ms ++ [to]))) Mt = some (.dK (setOf ik (ms ++ [to]))) := upd_same
              have hr10 : upd H8 Mt (.dK (setOf ik (ms ++ [to]))) ar = some (.lst (nis row)) := by rw [upd_ne (ne_of hr8 hM8 (by intro z; cases z))]; exact hr8
              have r10 : Same H (upd H8 Mt (.dK (setOf ik (ms ++ [to])))) := same_mut r8 hMt0
              generalize upd H8 Mt (.dK (setOf ik (ms ++ [to]))) = H10 at hW10 hpr10 hM10 hr10 r10
              refine ⟨_, rfl, .inl ⟨rfl, _, .of hW10⟩, _, rfl, _, rfl, _, rfl, _, _, rfl, rfl, by rw [S_len, S_len]; show 1 + _ ≤ 2 ^ 24; omega, by show 2 ≤ 2 ^ 24; decide, fun p11 hp11 => ?_⟩
              have e11 : Same H10 (upd H10 p11 (.tup [vi to, .str (S [c] ++ S u0)])) := same_new hp11
              have hp11' : upd H10 p11 (.tup [vi to, .str (S [c] ++ S u0)]) p11 = some (.tup [vi to, VS (c :: u0)]) := by rw [upd_same, S_app]; rfl
              refine ⟨_, _, _, rfl, rfl, e11 _ _ hW10, by rw [List.length_map, hpr7.1]; exact slt (by omega), ?_⟩
              have nrW : ar ≠ W2 := ne_of_none hrwH hW20
              refine ⟨ms ++ [to], wl ++ [(to, c :: u0)], as ++ [p11], _, _, rfl, ?_, gn, fun k' d hj hd => ?_, by rw [List.length_append]; omega, same_mut (fun b o z => e11 b o (r10 b o z)) hW20, ?_, ?_, ?_, by rw [List.length_append, List.length_append, List.length_singleton, List.length_singleton]; omega, ?_⟩
              · rw [List.length_append, List.length_append, List.length_singleton, List.length_singleton]; omega
              · by_cases hji : k' < k
                · obtain ⟨a1, a2⟩ := hsucc k' d hji hd
                  exact ⟨List.mem_append.mpr (.inl a1), a2⟩
                · have : k' = k := by omega
                  subst this
                  rw [hc] at hd; cases hd; rw [hst]; exact ⟨by simp, htj⟩
              · rw [upd_ne nWM.symm]; exact e11 _ _ hM10
              · rw [upd_same, List.map_append]; rfl
              · exact ((hpr10.sol (.of e11)).snoc (p := (to, c :: u0)) hp11').mut (lstNT (e11 _ _ hW10))
              · rw [upd_ne nrW]; exact e11 _ _ hr10
        · obtain ⟨ms, wl, as, v8, v9, rfl, hmm, g7, hsucc, hul, r7, hM7, hW7, hpr7, hwm7, hr7⟩ := h
          refine ⟨_, hmm, ms, wl, as, W2, _, _, _, _, rfl, rfl, g7.next fun c hc => ?_, r7, hM7, hW7, hpr7, hW20, hwm7⟩
          obtain ⟨k', hk'⟩ := List.mem_iff_getElem?.mp hc
          refine hsucc k' c ?_ hk'
          have h1 := (List.getElem?_eq_some_iff.mp hk').1
          have h2 : (sgn (S ls)).length = ls.length := by rw [sgn_S, List.length_map]
          rw [h2, nis_len, hrl]; omega
end
end Sw
/-! round_of, to_end, parting. -/
namespace Sw
open PySem PySem.Spec PyProof.Rows L2 LamX NdefX
section
variable {P : Program} {w : World} {K : PySem.W.Frag} {mg : Str → Option Value} {base : Heap} {CM CA CW CG : Addr} {D : Cds}
abbrev e_lam_round : Expr := argE (retE ((defBody s_Walks_round_of).getD 0 (.Pass ⟨0, 0, 0, 0⟩))) 1
abbrev e_lam_toend : Expr := argE (retE ((defBody s_Walks_to_end).getD 1 (.Pass ⟨0, 0, 0, 0⟩))) 1
def ifB : Stmt → List Stmt
  | .If _ b _ _ => b
  | _ => []
abbrev e_lam_part : Expr := argE (retE ((ifB ((defBody s_Walks_parting).getD 1 (.Pass ⟨0, 0, 0, 0⟩))).getD 0 (.Pass ⟨0, 0, 0, 0⟩))) 1
theorem ns_lam_round : NScope ["there", "some"] ["there"] ["some"] (lamS e_lam_round) := ⟨rfl, rfl, rfl, by decide +kernel, rfl, by decide +kernel, by decide +kernel, by decide +kernel, by decide +kernel⟩
theorem ns_lam_toend : NScope ["there", "due", "self"] ["there"] ["due", "self"] (lamS e_lam_toend) := ⟨rfl, rfl, rfl, by decide +kernel, rfl, by decide +kernel, by decide +kernel, by decide +kernel, by decide +kernel⟩
theorem ns_lam_part : NScope ["there", "self"] ["there"] ["self"] (lamS e_lam_part) := ⟨rfl, rfl, rfl, by decide +kernel, rfl, by decide +kernel, by decide +kernel, by decide +kernel, by decide +kernel⟩
theorem dec_bl (a b : Bool) : decide (V.bl a = V.bl b) = decide (a = b) := by cases a <;> cases b <;> rfl
def swRound : List (Option V) → Sp := fun ws vs H Q _ => ∃ (p t : Addr) (l m : List Nat), ws = [some (.ref p)] ∧ vs = [.ref t] ∧ H p = some (.tup (nis l)) ∧ H t = some (.tup (nis m)) ∧ Q (.bl (decide (m = l))) H
theorem lok_round {f : Addr} {F : NF} {e : Expr} (h1 : F.scope = lamS e_lam_round) (h2 : F.params = lamP e_lam_round) (h3 : e = lamB e_lam_round) : LOk P w K mg base 1 f F e ["there"] ["some"] swRound := by
  obtain ⟨nm, qu, pa, bo, sc, cl, c⟩ := F
  subst h1; subst h2; subst h3
  refine lok_of ns_lam_round (fun pm ctv us hl => match us, hl with | [_], _ => rfl) (fun ws vs H Q E h => ?_) (fun A outer s H vs ws Q E hr _ h => ?_)
  · obtain ⟨p, t, l, m, _, rfl, _⟩ := h; rfl
  · obtain ⟨p, t, l, m, rfl, rfl, hp, ht, q⟩ := h
    refine ⟨_, ((pe_cmpR (op_eqD hr.units) (pv 0) (pv 1) (nomark _))), ?_⟩
    exact ⟨_, rfl, _, rfl, eq_tn (.inl (.inl ht)) (.inl (.inl hp)) q⟩
def swTen (CM CW : Addr) : List (Option V) → Sp := fun ws vs H Q _ => ∃ (a t : Addr) (M : Mc) (d : Bool) (s : Nat), ws = [some (.bl d), some (.ref a)] ∧ vs = [.ref t] ∧ WalksAt CM CW H a M ∧ M.Ok ∧ H t = some (.tup (nis [s])) ∧ s < M.n ∧ Q (.bl (decide (M.fin s = d))) H
theorem lok_toend (T : Tx K mg CM CA CW CG) {f : Addr} {F : NF} {e : Expr} (h1 : F.scope = lamS e_lam_toend) (h2 : F.params = lamP e_lam_toend) (h3 : e = lamB e_lam_toend) : LOk P w K mg base 2 f F e ["there"] ["due", "self"] (swTen CM CW) := by
  obtain ⟨nm, qu, pa, bo, sc, cl, c⟩ := F
  subst h1; subst h2; subst h3
  refine lok_of ns_lam_toend (fun pm ctv us hl => match us, hl with | [_], _ => rfl) (fun ws vs H Q E h => ?_) (fun A outer s H vs ws Q E hr _ h => ?_)
  · obtain ⟨a, t, M, d, st, _, rfl, _⟩ := h; rfl
  · obtain ⟨a, t, M, d, st, rfl, rfl, hW, O, ht, hst, q⟩ := h
    obtain ⟨dx, b, fw, p, hw1, _⟩ := id hW
    refine ⟨_, ((pe_cmpR op_eq (pe_methP (pv 2) T.clCW (ok_Walks_ends T) (hr.mono (by decide)) pass0 (pa_cons (pe_ix ix_tup (pv 0) pe_int (fun _ _ => rfl)) pa_nil)) (pv 1) (nomark _))), ?_⟩
    refine ⟨_, rfl, a, dx, _, rfl, hw1, fWk_no _ _ _ _ (by decide +kernel), _, rfl, _, _, 0, _, rfl, rfl, .inl (.inl ht), rfl, a, M, st, rfl, hW, O, hst, _, rfl, rfl, ?_⟩
    rw [dec_bl]; exact q
def swPart (CM CW : Addr) : List (Option V) → Sp := fun ws vs H Q _ => ∃ (a t : Addr) (M : Mc) (s s2 : Nat), ws = [some (.ref a)] ∧ vs = [.ref t] ∧ WalksAt CM CW H a M ∧ M.Ok ∧ H t = some (.tup (nis [s, s2])) ∧ s < M.n ∧ s2 < M.n ∧ Q (.bl (!decide (M.fin s = M.fin s2))) H
theorem lok_part (T : Tx K mg CM CA CW CG) {f : Addr} {F : NF} {e : Expr} (h1 : F.scope = lamS e_lam_part) (h2 : F.params = lamP e_lam_part) (h3 : e = lamB e_lam_part) : LOk P w K mg base 2 f F e ["there"] ["self"] (swPart CM CW) := by
  obtain ⟨nm, qu, pa, bo, sc, cl, c⟩ := F
  subst h1; subst h2; subst h3
  refine lok_of ns_lam_part (fun pm ctv us hl => match us, hl with | [_], _ => rfl) (fun ws vs H Q E h => ?_) (fun A outer s H vs ws Q E hr _ h => ?_)
  · obtain ⟨a, t, M, st, s2, _, rfl, _⟩ := h; rfl
  · obtain ⟨a, t, M, st, s2, rfl, rfl, hW, O, ht, hst, hs2, q⟩ := h
    obtain ⟨dx, b, fw, p, hw1, _⟩ := id hW
    refine ⟨_, ((pe_cmpR op_ne (pe_methP (pv 1) T.clCW (ok_Walks_ends T) (hr.mono (by decide)) pass0 (pa_cons (pe_ix ix_tup (pv 0) pe_int (fun _ _ => rfl)) pa_nil)) (pe_methP (pv 1) T.clCW (ok_Walks_ends T) (hr.mono (by decide)) pass0 (pa_cons (pe_ix ix_tup (pv 0) pe_int (fun _ _ => rfl)) pa_nil)) (nomark _))), ?_⟩
    refine ⟨_, rfl, a, dx, _, rfl, hw1, fWk_no _ _ _ _ (by decide +kernel), _, rfl, _, _, 0, _, rfl, rfl, .inl (.inl ht), rfl, a, M, st, rfl, hW, O, hst, ?_⟩
    refine ⟨_, rfl, a, dx, _, rfl, hw1, fWk_no _ _ _ _ (by decide +kernel), _, rfl, _, _, 1, _, rfl, rfl, .inl (.inl ht), rfl, a, M, s2, rfl, hW, O, hs2, rfl, ?_⟩
    rw [dec_bl]; exact q
/-! ### the methods -/
def EndR (M : Mc) (s : Nat) (d : Bool) : Option Wd → Prop
  | some u => Ov M.ls u ∧ u.length ≤ 3601 ∧ M.fin (M.run s u) = d
  | none => ∀ u, Ov M.ls u → M.fin (M.run s u) ≠ d
def RndR (M : Mc) (l : List Nat) : Option Wd → Prop
  | some u => Ov M.ls u ∧ u ≠ [] ∧ u.length ≤ 3601 ∧ mvs M u l = l
  | none => ∀ u, Ov M.ls u → u ≠ [] → mvs M u l ≠ l
def spRound (CM CW : Addr) (D : Cds) : Sp := fun vs H Q _ => ∃ (a t : Addr) (M : Mc) (l : List Nat), vs = [.ref a, .ref t] ∧ TabsN (Tb D) H ∧ WalksAt CM CW H a M ∧ M.Min ∧ H t = some (.tup (nis l)) ∧ l.length ≤ 2 ∧ (∀ x ∈ l, x < M.n) ∧
  ∀ H' r, Gr (Tb D) H H' → RndR M l r → Q (ov r) H'
theorem ok_Walks_round_of (T : Tx K mg CM CA CW CG) (Y : Ty K mg base CW D) : Pm P w K mg base CX0 4 CW "round_of" P_Walks_round_of [] (spRound CM CW D) := by
  refine Y.rnd.pm sc_Walks_round_of (fun _ _ _ _ _ _ us hl => match us, hl with | [_, _], _ => rfl) (fun vs H Q E h => ?_) (fun TB f A outer s H vs Q E hr h => ?_)
  · obtain ⟨a, t, M, l, rfl, _⟩ := h; rfl
  · obtain ⟨a, t, M, l, rfl, hT, hW, O, ht, hl, hlt, q⟩ := h
    have m1 : (D.rnd.2, nmLam "Walks.round_of") ∈ Tb D := .tail _ (.tail _ (.tail _ (.tail _ (.head _))))
    obtain ⟨dx, b, fw, p, hw1, _⟩ := id hW
    refine ⟨_, (PSs.nox (pss_one (ps_ret (pe_methDP ["some"] [1] (defScope s_Walks_round_of) (pv 0) T.clCW (ok_Walks_word_from T) (hr.mono (by decide)) rfl (by decide +kernel) (fun _ _ => rfl) rfl (pa_cons (pv 1) (pa_cons (pe_lamN (T := Tb D) ["some"] TB rfl m1 rfl (Y.hu m1) (by kernel_rfl)) pa_nil)))))), ?_⟩
    refine ⟨_, rfl, a, dx, _, rfl, hw1, fWk_no _ _ _ _ (by decide +kernel), _, rfl, hT, fun f1 c1 H3 g3 nf1 ok1 hf1 hc1 => ⟨[.ref t], rfl, fun Hl L => ?_⟩⟩
    have hT3 := g3.tab hT
    have t1 := L.told ok1 rfl
    have htl : Hl t = some (.tup (nis l)) := L.same _ _ (g3.sol _ _ ht trivial)
    have C1 := (cb_lam (P := P) (w := w) (K := K) (mg := mg) (base := base) (lok_round rfl rfl rfl) (L.same _ _ hf1) (L.same _ _ hc1) ok1 t1).mono (by decide : 1 ≤ 2)
    have fin : ∀ H5, Same Hl H5 → Gr (Tb D) H (cut (cellsFor _ ["some"]) H5) := fun H5 e5 => g3.trans (L.back (Gr.of (T := Tb D) e5) hT3)
    refine ⟨a, t, f1, M, l, (fun m => decide (m = l)), rfl, (hW.sol g3.sol).sol (.of L.same), O, htl, hl, hlt, C1.imp ?_, fun H5 r e5 hd => ?_⟩
    · rintro vs H' Q' E' e ⟨t2, m, rfl, ht2, _, _, k⟩
      have tc := told_cells2 (P := P) (w := w) (h := base) (t1.keep e)
      exact ⟨t, t2, l, m, rfl, rfl, cut_sol tc _ _ (e _ _ htl (by intro ps z; cases z)) trivial, cut_sol tc _ _ ht2 trivial, k _ (mix_same fun _ _ z => z)⟩
    · cases r with
      | some u => exact q _ (some u) (fin H5 e5) ⟨hd.1, hd.2.1, hd.2.2.1, of_decide_eq_true hd.2.2.2⟩
      | none => exact q _ none (fin H5 e5) fun u a1 a2 => of_decide_eq_false (hd u a1 a2)
def spToEnd (CM CW : Addr) (D : Cds) : Sp := fun vs H Q _ => ∃ (a : Addr) (M : Mc) (s : Nat) (d : Bool), vs = [.ref a, vi s, .bl d] ∧ TabsN (Tb D) H ∧ WalksAt CM CW H a M ∧ M.Min ∧ s < M.n ∧
  ∀ H' r, Gr (Tb D) H H' → EndR M s d r → Q (ov r) H'
theorem ok_Walks_to_end (T : Tx K mg CM CA CW CG) (Y : Ty K mg base CW D) : Pm P w K mg base CX0 4 CW "to_end" P_Walks_to_end [] (spToEnd CM CW D) := by
  refine Y.ten.pm sc_Walks_to_end (fun _ _ _ _ _ _ us hl => match us, hl with | [_, _, _], _ => rfl) (fun vs H Q E h => ?_) (fun TB f A outer s H vs Q E hr h => ?_)
  · obtain ⟨a, M, st, d, rfl, _⟩ := h; rfl
  · obtain ⟨a, M, st, d, rfl, hT, hW, O, hst, q⟩ := h
    have m1 : (D.ten.2, nmLam "Walks.to_end") ∈ Tb D := .tail _ (.tail _ (.tail _ (.tail _ (.tail _ (.head _)))))
    obtain ⟨dx, b, fw, p, hw1, _⟩ := id hW
    refine ⟨_, (PSs.nox (pss_cons (ps_if (pt_cmpR op_eq (pe_methP (pv 0) T.clCW (ok_Walks_ends T) (hr.mono (by decide)) pass0 (pa_cons (pv 1) pa_nil)) (pv 2) (nomark _))
 (pss_one (ps_ret pe_str))
 pss_nil)
 (pss_one (ps_ret (pe_methDP ["due", "self"] [2, 0] (defScope s_Walks_to_end) (pv 0) T.clCW (ok_Walks_word_from T) (hr.mono (by decide)) rfl (by decide +kernel) (fun _ _ => rfl) rfl (pa_cons (pe_tup (pa_cons (pv 1) pa_nil)) (pa_cons (pe_lamN (T := Tb D) ["due", "self"] TB rfl m1 rfl (Y.hu m1) (by kernel_rfl)) pa_nil))))))), ?_⟩
    refine ⟨_, rfl, a, dx, _, rfl, hw1, fWk_no _ _ _ _ (by decide +kernel), _, rfl, a, M, st, rfl, hW, O.toOk, hst, _, rfl, rfl, _, rfl, ?_⟩
    rw [dec_bl]
    refine ite2 (fun he => ?_) (fun hne => ?_)
    · exact q H (some []) Gr.refl ⟨.nil, by simp, of_decide_eq_true he⟩
    · have hne' : M.fin st ≠ d := of_decide_eq_false (Bool.eq_false_iff.mpr hne)
      refine ⟨_, rfl, a, dx, _, rfl, hw1, fWk_no _ _ _ _ (by decide +kernel), _, rfl, by show 1 ≤ 2 ^ 24; decide, fun t ht => ?_⟩
      have e0 : Same H (upd H t (.tup (nis [st]))) := same_new ht
      have ht0 : upd H t (.tup (nis [st])) t = some (.tup (nis [st])) := upd_same
      have hT0 := hT.ext e0
      show tLamN (Tb D) _ _ _ _ _ (upd H t (.tup (nis [st]))) _
      generalize upd H t (.tup (nis [st])) = H0 at e0 ht0 hT0
      refine ⟨hT0, fun f1 c1 H3 g3 nf1 ok1 hf1 hc1 => ⟨[.bl d, .ref a], rfl, fun Hl L => ?_⟩⟩
      have hT3 := g3.tab hT0
      have t1 := L.told ok1 rfl
      have htl : Hl t = some (.tup (nis [st])) := L.same _ _ (g3.sol _ _ ht0 trivial)
      have hWl : WalksAt CM CW Hl a M := ((hW.sol (.of e0)).sol g3.sol).sol (.of L.same)
      have C1 := cb_lam (P := P) (w := w) (K := K) (mg := mg) (base := base) (lok_toend T rfl rfl rfl) (L.same _ _ hf1) (L.same _ _ hc1) ok1 t1
      have fin : ∀ H5, Same Hl H5 → Gr (Tb D) H (cut (cellsFor _ ["due", "self"]) H5) := fun H5 e5 => (Gr.of e0).trans (g3.trans (L.back (Gr.of (T := Tb D) e5) hT3))
      refine ⟨a, t, f1, M, [st], (fun m => decide (M.fin (m.getD 0 0) = d)), rfl, hWl, O, htl, by simp, fun x hx => by rw [List.mem_singleton.mp hx]; exact hst, C1.imp ?_, fun H5 r e5 hd => ?_⟩
      · rintro vs H' Q' E' e ⟨t2, m, rfl, ht2, hm1, hm2, k⟩
        have tc := told_cells2 (P := P) (w := w) (h := base) (t1.keep e)
        match m, hm1 with
        | [s2], _ =>
          exact ⟨a, t2, M, d, s2, rfl, rfl, (hWl.sol (.ofN e)).sol (cut_sol tc), O.toOk, cut_sol tc _ _ ht2 trivial, hm2 s2 (by simp), k _ (mix_same fun _ _ z => z)⟩
      · cases r with
        | some u => exact q _ (some u) (fin H5 e5) ⟨hd.1, hd.2.2.1, of_decide_eq_true hd.2.2.2⟩
        | none =>
          refine q _ none (fin H5 e5) fun u a1 => ?_
          by_cases hu : u = []
          · subst hu; exact hne'
          · exact of_decide_eq_false (hd u a1 hu)
def spParting (CM CW : Addr) (D : Cds) : Sp := fun vs H Q _ => ∃ (a : Addr) (M : Mc) (s t : Nat), vs = [.ref a, vi s, vi t] ∧ TabsN (Tb D) H ∧ WalksAt CM CW H a M ∧ M.Min ∧ s < M.n ∧ t < M.n ∧ s ≠ t ∧
  ∀ H' p u, Gr (Tb D) H H' → Ov M.ls u → u.length ≤ 3601 → M.fin (M.run t u) = !M.fin (M.run s u) → H' p = some (.tup [VS u, .bl (M.fin (M.run s u))]) → Q (.ref p) H'
theorem ok_Walks_parting (T : Tx K mg CM CA CW CG) (Y : Ty K mg base CW D) : Pm P w K mg base CX0 4 CW "parting" P_Walks_parting [] (spParting CM CW D) := by
  refine Y.prt.pm sc_Walks_parting (fun _ _ _ _ _ _ us hl => match us, hl with | [_, _, _], _ => rfl) (fun vs H Q E h => ?_) (fun TB f A outer s H vs Q E hr h => ?_)
  · obtain ⟨a, M, st, s2, rfl, _⟩ := h; rfl
  · obtain ⟨a, M, st, s2, rfl, hT, hW, O, hst, hs2, hne, q⟩ := h
    have m1 : (D.prt.2, nmLam "Walks.parting") ∈ Tb D := .tail _ (.tail _ (.tail _ (.tail _ (.tail _ (.tail _ (.head _))))))
    obtain ⟨dx, b, fw, p, hw1, hMb, _⟩ := id hW
    refine ⟨_, (PSs.nox (pss_cons (ps_set (i := 3) sc_Walks_parting.nd rfl (Or.inl rfl) pe_str)
 (Evl.pss_cut (ps_if (pt_cmpR op_eq (pe_methP (pv 0) T.clCW (ok_Walks_ends T) (hr.mono (by decide)) pass0 (pa_cons (pv 1) pa_nil)) (pe_methP (pv 0) T.clCW (ok_Walks_ends T) (hr.mono (by decide)) pass0 (pa_cons (pv 2) pa_nil)) (nomark _))
 (pss_one (ps_set (i := 3) sc_Walks_parting.nd rfl (Or.inl rfl) (pe_methDP ["self"] [0] (defScope s_Walks_parting) (pv 0) T.clCW (ok_Walks_word_from T) (hr.mono (by decide)) rfl (by decide +kernel) (fun _ _ => rfl) rfl (pa_cons (pe_tup (pa_cons (pv 1) (pa_cons (pv 2) pa_nil))) (pa_cons (pe_lamN (T := Tb D) ["self"] TB rfl m1 rfl (Y.hu m1) (by kernel_rfl)) pa_nil)))))
 pss_nil)
 (pss_one (ps_ret (pe_tup (pa_cons (pv 3) (pa_cons (pe_methP (pv 0) T.clCW (ok_Walks_ends T) (hr.mono (by decide)) pass0 (pa_cons (pe_methK (pe_fld (pv 0) rfl) T.clCM (ok_behind T).2 (hr.mono (by decide)) pass0 (pa_cons (pv 3) pa_nil) (pk_cons (pv 1) pk_nil)) pa_nil)) pa_nil)))))))), ?_⟩
    refine ⟨fun σ H1 => ∃ u, σ = [some (.ref a), some (vi st), some (vi s2), some (VS u)] ∧ Gr (Tb D) H H1 ∧ Ov M.ls u ∧ u.length ≤ 3601 ∧ M.fin (M.run s2 u) = !M.fin (M.run st u), ?_, ?_⟩
    · refine ⟨_, rfl, a, dx, _, rfl, hw1, fWk_no _ _ _ _ (by decide +kernel), _, rfl, a, M, st, rfl, hW, O.toOk, hst, ?_⟩
      refine ⟨_, rfl, a, dx, _, rfl, hw1, fWk_no _ _ _ _ (by decide +kernel), _, rfl, a, M, s2, rfl, hW, O.toOk, hs2, rfl, _, rfl, ?_⟩
      rw [dec_bl]
      refine ite2 (fun he => ?_) (fun hne' => ?_)
      · have heq : M.fin st = M.fin s2 := of_decide_eq_true he
        refine ⟨_, rfl, a, dx, _, rfl, hw1, fWk_no _ _ _ _ (by decide +kernel), _, rfl, _, rfl, by show 2 ≤ 2 ^ 24; decide, fun t ht => ?_⟩
        have e0 : Same H (upd H t (.tup (nis [st, s2]))) := same_new ht
        have ht0 : upd H t (.tup (nis [st, s2])) t = some (.tup (nis [st, s2])) := upd_same
        have hT0 := hT.ext e0
        show tLamN (Tb D) _ _ _ _ _ (upd H t (.tup (nis [st, s2]))) _
        generalize upd H t (.tup (nis [st, s2])) = H0 at e0 ht0 hT0
        refine ⟨hT0, fun f1 c1 H3 g3 nf1 ok1 hf1 hc1 => ⟨[.ref a], rfl, fun Hl L => ?_⟩⟩
        have hT3 := g3.tab hT0
        have t1 := L.told ok1 rfl
        have htl : Hl t = some (.tup (nis [st, s2])) := L.same _ _ (g3.sol _ _ ht0 trivial)
        have hWl : WalksAt CM CW Hl a M := ((hW.sol (.of e0)).sol g3.sol).sol (.of L.same)
        have C1 := cb_lam (P := P) (w := w) (K := K) (mg := mg) (base := base) (lok_part T rfl rfl rfl) (L.same _ _ hf1) (L.same _ _ hc1) ok1 t1
        have fin : ∀ H5, Same Hl H5 → Gr (Tb D) H (cut (cellsFor _ ["self"]) H5) := fun H5 e5 => (Gr.of e0).trans (g3.trans (L.back (Gr.of (T := Tb D) e5) hT3))
        refine ⟨a, t, f1, M, [st, s2], (fun m => !decide (M.fin (m.getD 0 0) = M.fin (m.getD 1 0))), rfl, hWl, O, htl, by simp, fun x hx => ?_, C1.imp ?_, fun H5 r e5 hr => ?_⟩
        · rcases List.mem_cons.mp hx with h | h
          · rw [h]; exact hst
          · rw [List.mem_singleton.mp h]; exact hs2
        · rintro vs H' Q' E' e ⟨t2, m, rfl, ht2, hm1, hm2, k⟩
          have tc := told_cells2 (P := P) (w := w) (h := base) (t1.keep e)
          match m, hm1 with
          | [s3, s4], _ =>
            exact ⟨a, t2, M, s3, s4, rfl, rfl, (hWl.sol (.ofN e)).sol (cut_sol tc), O.toOk, cut_sol tc _ _ ht2 trivial, hm2 s3 (by simp), hm2 s4 (by simp), k _ (mix_same fun _ _ z => z)⟩
        · cases r with
          | some u =>
            obtain ⟨hu1, hu2, hu3, hd⟩ := hr
            have hd' : ¬ (M.fin (M.run st u) = M.fin (M.run s2 u)) := by simpa [mvs] using hd
            refine ⟨u, rfl, fin H5 e5, hu1, hu3, ?_⟩
            cases e1 : M.fin (M.run st u) <;> cases e2 : M.fin (M.run s2 u) <;> simp_all
          | none =>
            exfalso
            refine hne (O.red st s2 hst hs2 fun u hu => ?_)
            by_cases h0 : u = []
            · subst h0; exact heq
            · have := hr u hu h0
              simpa [mvs] using this
      · have hne2 : M.fin st ≠ M.fin s2 := of_decide_eq_false (Bool.eq_false_iff.mpr hne')
        refine ⟨[], rfl, Gr.refl, .nil, by simp, ?_⟩
        show M.fin s2 = !M.fin st
        cases e1 : M.fin st <;> cases e2 : M.fin s2 <;> simp_all
    · rintro σ H1 ⟨u, rfl, g1, hu1, hu2, hu3⟩
      have hW1 := hW.sol g1.sol
      obtain ⟨dx, b, fw, p, hw1, hMb, _⟩ := id hW1
      obtain ⟨dy, pb, hb1, _⟩ := id hMb
      refine ⟨_, rfl, _, rfl, a, dx, _, rfl, hw1, fWk_no _ _ _ _ (by decide +kernel), ?_⟩
      refine ⟨_, rfl, a, CW, dx, _, _, rfl, hw1, T.clCW, T.nCW_base, fWk_base _ _ _ _, b, dy, _, rfl, hb1, fM_no _ _ (by decide +kernel) (by decide +kernel), _, rfl, _, rfl, rfl, rfl, b, M, u, st, rfl, hMb, O.toOk, hu1, by omega, hst, fun H2 e2 => ?_⟩
      refine ⟨a, M, M.run st u, rfl, hW1.sol (.of e2), O.toOk, O.run_lt hst u, by show 2 ≤ 2 ^ 24; decide, fun p2 hp2 => ?_⟩
      exact q _ p2 u (g1.trans (.of fun b o z => (same_new hp2) b o (e2 b o z))) hu1 hu2 hu3 upd_same
end
end Sw
/-! few, starts. -/
namespace Sw
open PySem PySem.Spec PyProof.Rows L2 LamX NdefX
def sgV : Sg → List V
  | .few u y v s z t => [.str "few", VS u, VS y, VS v, VS s, VS z, VS t]
  | .starts u y v w => [.str "starts", VS u, VS y, VS v, VS w]
  | .ends u v y w => [.str "ends", VS u, VS v, VS y, VS w]
  | .counts u x y v => [.str "counts", VS u, VS x, VS y, VS v]
  | .subwords r f u x y v => [.str "subwords", .str (if r then "right" else "left"), .bl f, VS u, VS x, VS y, VS v]
  | .falling f u x y v => [.str "falling", .bl f, VS u, VS x, VS y, VS v]
  | .starfree u y v p => [.str "starfree", VS u, VS y, VS v, vi p]
  | .turning f u y v => [.str "turning", .bl f, VS u, VS y, VS v]
def Fnd (ls : Wd) (L : Lang) (k : Kd) (g : Sg) : Prop := Cond ls L k ∧ g.kd = k ∧ g.ok ls 3900 ∧ ShowsL L g
section
variable {P : Program} {w : World} {K : PySem.W.Frag} {mg : Str → Option Value} {base : Heap} {CM CA CW CG : Addr} {D : Cds}
/-- what a swing's search promises -/
def spSw (CM CW : Addr) (D : Cds) (k : Kd) : Sp := fun vs H Q _ => ∃ (a : Addr) (M : Mc), vs = [.ref a] ∧ TabsN (Tb D) H ∧ WalksAt CM CW H a M ∧ M.Min ∧
  (∀ H', Gr (Tb D) H H' → ¬ Cond M.ls M.lang k → Q .non H') ∧ (∀ H' p g, Gr (Tb D) H H' → Fnd M.ls M.lang k g → H' p = some (.tup (sgV g)) → Q (.ref p) H')
theorem one_mvs {M : Mc} {u : Wd} {s : Nat} : mvs M u [s] = [s] ↔ M.run s u = s := by simp [mvs]
theorem two_mvs {M : Mc} {u : Wd} {s t : Nat} : mvs M u [s, t] = [s, t] ↔ M.run s u = s ∧ M.run t u = t := by simp [mvs]
theorem Wk.of {ls u : Wd} {m k : Nat} (h : Ov ls u) (hl : u.length ≤ k) (hk : k ≤ m) : Wk ls u m := ⟨h, Nat.le_trans hl hk⟩
theorem ok_starts_swing (T : Tx K mg CM CA CW CG) (Y : Ty K mg base CW D) : Pr P w K mg base CX0 5 "starts_swing" P_starts_swing [] (spSw CM CW D .starts) := by
  refine T.d_starts_swing.pr sc_starts_swing (fun _ _ _ _ _ _ us hl => match us, hl with | [_], _ => rfl) (fun vs H Q E h => ?_) (fun f cdv A outer s H vs Q E hr h => ?_)
  · obtain ⟨a, M, rfl, _⟩ := h; rfl
  · obtain ⟨a, M, rfl, hT, hW, O, q1, q2⟩ := h
    have hn60 := O.le
    obtain ⟨dx, b, fw, p, hw1, hMb, ⟨ws, hfw, hwl, hws⟩, hst⟩ := id hW
    refine ⟨_, (PSs.nox (pss_cons (ps_for PassesOwn.never rfl (pi_list (pe_methP0 (pv 0) T.clCW (ok_Walks_all_stands T) (hr.mono (by decide)) pass0)) (pg_name (i := 1) sc_starts_swing.nd rfl (Or.inl rfl) (Or.inl rfl))
 (pss_cons (ps_set (i := 2) sc_starts_swing.nd rfl (Or.inl rfl) (pe_lst (pa_cons (pe_methP (pv 0) T.clCW (ok_Walks_to_end T Y) (hr.mono (by decide)) pass0 (pa_cons (pv 1) (pa_cons pe_bl pa_nil))) (pa_cons (pe_methP (pv 0) T.clCW (ok_Walks_to_end T Y) (hr.mono (by decide)) pass0 (pa_cons (pv 1) (pa_cons pe_bl pa_nil))) pa_nil))))
 (pss_cons (ps_set (i := 3) sc_starts_swing.nd rfl (Or.inl rfl) (pe_methP (pv 0) T.clCW (ok_Walks_round_of T Y) (hr.mono (by decide)) pass0 (pa_cons (pe_tup (pa_cons (pv 1) pa_nil)) pa_nil)))
 (pss_one (ps_if (PW.pt (pw_and (pt_cmpR op_notN (pv 3) pe_non (nomark _)) (pw_and1 (pt_cmpR op_notIn_seq pe_non (pv 2) (by rfl)))))
 (pss_one (ps_ret (pe_tup (pa_cons pe_str (pa_cons (pe_ix ix_list (pe_fld (pv 0) rfl) (pv 1) (fun _ _ => rfl)) (pa_cons (pv 3) (pa_cons (pe_ix ix_list (pv 2) pe_int (fun _ _ => rfl)) (pa_cons (pe_ix ix_list (pv 2) pe_int (fun _ _ => rfl)) pa_nil))))))))
 pss_nil)))))
 (pss_one (ps_ret pe_non)))), ?_⟩
    refine ⟨_, rfl, a, dx, _, rfl, hw1, fWk_no _ _ _ _ (by decide +kernel), a, M, rfl, hW, O.toOk, fun H1 l e1 nl hl => ?_⟩
    refine ⟨l, rfl, ⟨_, .of hl⟩, for_list (K := K) (a := l) (xs := nis (List.range M.n)) (fun i σ H2 => ∃ v1 v2 v3, σ = [some (.ref a), v1, v2, v3] ∧ Gr (Tb D) H H2 ∧ H2 l = some (.lst (nis (List.range M.n))) ∧ ∀ s, s < i → (∃ y, Ov M.ls y ∧ y ≠ [] ∧ M.run s y = s) → (∃ v, Ov M.ls v ∧ M.fin (M.run s v) = true) → (∃ v, Ov M.ls v ∧ M.fin (M.run s v) = false) → False)
      ⟨_, _, _, rfl, .of e1, hl, fun s h => absurd h (Nat.not_lt_zero _)⟩ (fun i σ H2 _ h => by obtain ⟨_, _, _, _, _, h, _⟩ := h; exact .of h) ?_ ?_⟩
    · rintro i x σ H2 hx ⟨v1, v2, v3, rfl, g2, hl2, hno⟩
      obtain ⟨st, hst0, rfl⟩ := nis_inv hx
      have hiN : i < M.n := by have := (List.getElem?_eq_some_iff.mp hst0).1; simpa using this
      obtain rfl : st = i := by rw [List.getElem?_range hiN] at hst0; exact (Option.some.inj hst0).symm
      have hT2 := g2.tab hT
      have hW2 := hW.sol g2.sol
      obtain ⟨w0, hw0⟩ : ∃ w0, ws[st]? = some w0 := ⟨_, List.getElem?_eq_getElem (by rw [hwl]; exact hiN)⟩
      obtain ⟨b1, b2, b3⟩ := hws st w0 hw0
      refine ⟨_, rfl, a, dx, _, rfl, g2.sol _ _ hw1 trivial, fWk_no _ _ _ _ (by decide +kernel), _, rfl, a, M, st, true, rfl, hT2, hW2, O, hiN, fun H3 r1 g3 h1 => ?_⟩
      have g23 := g2.trans g3
      have hl3 := g3.sol _ _ hl2 trivial
      refine ⟨_, rfl, a, dx, _, rfl, g23.sol _ _ hw1 trivial, fWk_no _ _ _ _ (by decide +kernel), _, rfl, a, M, st, false, rfl, g23.tab hT, hW.sol g23.sol, O, hiN, fun H4 r2 g4 h2 => ⟨by show 2 ≤ 2 ^ 24; decide, fun Wd1 hWd1 => ?_⟩⟩
      have g24 := g23.trans g4
      have hl4 := g4.sol _ _ hl3 trivial
      have e5 : Same H4 (upd H4 Wd1 (.lst [ov r1, ov r2])) := same_new hWd1
      have hWd5 : upd H4 Wd1 (.lst [ov r1, ov r2]) Wd1 = some (.lst [ov r1, ov r2]) := upd_same
      generalize upd H4 Wd1 (.lst [ov r1, ov r2]) = H5 at e5 hWd5
      have g25 := g24.trans (.of e5)
      have hl5 := e5 _ _ hl4
      refine ⟨_, rfl, a, dx, _, rfl, g25.sol _ _ hw1 trivial, fWk_no _ _ _ _ (by decide +kernel), _, rfl, by show 1 ≤ 2 ^ 24; decide, fun t ht => ?_⟩
      have e6 : Same H5 (upd H5 t (.tup (nis [st]))) := same_new ht
      have ht6 : upd H5 t (.tup (nis [st])) t = some (.tup (nis [st])) := upd_same
      have g26 := g25.trans (.of e6)
      refine ⟨a, t, M, [st], rfl, g26.tab hT, hW.sol g26.sol, O, ht6, by simp, fun x hx => by rw [List.mem_singleton.mp hx]; exact hiN, fun H7 r3 g7 h3 => ?_⟩
      have g27 := g26.trans g7
      have hl7 := g7.sol _ _ (e6 _ _ hl5) trivial
      have hWd7 := g7.sol _ _ (e6 _ _ hWd5) trivial
      generalize upd H5 t (.tup (nis [st])) = H6 at *
      have hfl : ∀ r : Option Wd, flatV (ov r) = true := fun r => by cases r <;> rfl
      cases r3 with
      | none =>
        refine ⟨_, rfl, rfl, _, rfl, ?_⟩
        refine ⟨_, _, _, rfl, g27, hl7, fun s hs y1 v1 v2 => ?_⟩
        by_cases hsi : s < st
        · exact hno s hsi y1 v1 v2
        · obtain rfl : s = st := by omega
          obtain ⟨y, a1, a2, a3⟩ := y1
          exact h3 y a1 a2 (one_mvs.mpr a3)
      | some y =>
        obtain ⟨y1, y2, y3, y4⟩ := h3
        refine ⟨_, rfl, rfl, _, rfl, ?_⟩
        refine ⟨_, rfl, Wd1, _, rfl, .inl (.of hWd7), rfl, by simp [hfl], _, rfl, ?_⟩
        cases r1 with
        | none =>
          refine ⟨_, _, _, rfl, g27, hl7, fun s hs _ v1 _ => ?_⟩
          by_cases hsi : s < st
          · exact hno s hsi ‹_› v1 ‹_›
          · obtain rfl : s = st := by omega
            obtain ⟨v, a1, a2⟩ := v1
            exact h1 v a1 a2
        | some v =>
          cases r2 with
          | none =>
            refine ⟨_, _, _, rfl, g27, hl7, fun s hs _ _ v2 => ?_⟩
            by_cases hsi : s < st
            · exact hno s hsi ‹_› ‹_› v2
            · obtain rfl : s = st := by omega
              obtain ⟨v, a1, a2⟩ := v2
              exact h2 v a1 a2
          | some v' =>
            obtain ⟨c1, c2, c3⟩ := h1
            obtain ⟨d1, d2, d3⟩ := h2
            have hfw7 := g27.sol _ _ hfw trivial
            refine ⟨_, rfl, a, CW, dx, _, _, rfl, g27.sol _ _ hw1 trivial, T.clCW, T.nCW_first_words, fWk_fw _ _ _ _, _, rfl, fw, _, _, _, rfl, rfl, .of hfw7, atI_nat (vs_get hw0), _, rfl, _, rfl, Wd1, _, _, _, rfl, rfl, .of hWd7, rfl, _, rfl, Wd1, _, _, _, rfl, rfl, .of hWd7, rfl, by show 5 ≤ 2 ^ 24; decide, fun p hp => ?_⟩
            obtain ⟨k1, k2⟩ := O.starts_some (u := w0) b1 y1 c1 d1 y2 (by rw [b2]; exact one_mvs.mp y4 |> fun z => by simpa [mvs] using z) (by rw [b2]; exact c3) (by rw [b2]; exact d3)
            exact q2 _ p (.starts w0 y v v') (g27.trans (.of (same_new hp))) ⟨k1, rfl, ⟨.of b1 b3 (by omega), .of y1 y3 (by omega), y2, .of c1 c2 (by omega), .of d1 d2 (by omega)⟩, k2⟩ upd_same
    · rintro σ H2 ⟨v1, v2, v3, rfl, g2, hl2, hno⟩
      rw [nis_len, List.length_range] at hno
      exact q1 _ g2 (O.starts_none hno)
end
end Sw
/-! few. -/
namespace Sw
open PySem PySem.Spec PyProof.Rows L2 LamX NdefX
section
variable {P : Program} {w : World} {K : PySem.W.Frag} {mg : Str → Option Value} {base : Heap} {CM CA CW CG : Addr} {D : Cds}
/-- one word that leads, one that turns, one that ends so -/
def F3 (M : Mc) (d : Bool) (ws : List Wd) : Prop := ∃ u y v, ws = [u, y, v] ∧ Wk M.ls u 60 ∧ Wk M.ls y 3601 ∧ y ≠ [] ∧ Wk M.ls v 3601 ∧ M.run (M.run 0 u) y = M.run 0 u ∧ M.fin (M.run (M.run 0 u) v) = d
def FwR (M : Mc) (i : Nat) (ws : List Wd) : Prop := (i = 0 ∧ ws = []) ∨ (i = 1 ∧ F3 M true ws) ∨ (i = 2 ∧ ∃ w1 w2, ws = w1 ++ w2 ∧ F3 M true w1 ∧ F3 M false w2)
def dueAt : Nat → Bool
  | 0 => true
  | _ => false
theorem FwR.add {M : Mc} {i : Nat} {ws w3 : List Wd} (h : FwR M i ws) (hi : i < 2) (h3 : F3 M (dueAt i) w3) : FwR M (i + 1) (ws ++ w3) := by
  rcases h with ⟨rfl, rfl⟩ | ⟨rfl, h⟩ | ⟨rfl, _⟩
  · exact .inr (.inl ⟨rfl, h3⟩)
  · exact .inr (.inr ⟨rfl, ws, w3, rfl, h, h3⟩)
  · omega
/-- the stands kept so far of those below i -/
structure Kp (Pd : Nat → Prop) (src sub : List Nat) (i : Nat) : Prop where
  yes : ∀ s ∈ sub, s ∈ src ∧ Pd s
  no : ∀ (j s : Nat), j < i → src[j]? = some s → s ∉ sub → ¬ Pd s
  len : sub.length ≤ i
theorem Kp.nil {Pd : Nat → Prop} {src : List Nat} : Kp Pd src [] 0 := ⟨fun s h => (by cases h), fun j s h => absurd h (Nat.not_lt_zero _), Nat.le_refl _⟩
theorem Kp.add {Pd : Nat → Prop} {src sub : List Nat} {i s : Nat} (g : Kp Pd src sub i) (h : src[i]? = some s) (hp : Pd s) : Kp Pd src (sub ++ [s]) (i + 1) := by
  refine ⟨fun t ht => ?_, fun j t hj ht hn => ?_, by rw [List.length_append, List.length_singleton]; have := g.len; omega⟩
  · rcases List.mem_append.mp ht with a | a
    · exact g.yes t a
    · rw [List.mem_singleton.mp a]; exact ⟨List.mem_of_getElem? h, hp⟩
  · by_cases hji : j < i
    · exact g.no j t hji ht fun a => hn (List.mem_append.mpr (.inl a))
    · obtain rfl : j = i := by omega
      rw [h] at ht; cases ht
      exact absurd (by simp) hn
theorem Kp.skip {Pd : Nat → Prop} {src sub : List Nat} {i s : Nat} (g : Kp Pd src sub i) (h : src[i]? = some s) (hp : ¬ Pd s) : Kp Pd src sub (i + 1) := by
  refine ⟨g.yes, fun j t hj ht hn => ?_, by have := g.len; omega⟩
  by_cases hji : j < i
  · exact g.no j t hji ht hn
  · obtain rfl : j = i := by omega
    rw [h] at ht; cases ht; exact hp
theorem Kp.all {Pd : Nat → Prop} {src sub : List Nat} (g : Kp Pd src sub src.length) {s : Nat} (hs : s ∈ src) (hp : Pd s) : s ∈ sub := by
  refine Classical.byContradiction fun hn => ?_
  obtain ⟨j, hj⟩ := List.mem_iff_getElem?.mp hs
  exact g.no j s (List.getElem?_eq_some_iff.mp hj).1 hj hn hp
theorem ok_few_swing (T : Tx K mg CM CA CW CG) (Y : Ty K mg base CW D) : Pr P w K mg base CX0 5 "few_swing" P_few_swing [] (spSw CM CW D .few) := by
  refine T.d_few_swing.pr sc_few_swing (fun _ _ _ _ _ _ us hl => match us, hl with | [_], _ => rfl) (fun vs H Q E h => ?_) (fun f cdv A outer s H vs Q E hr h => ?_)
  · obtain ⟨a, M, rfl, _⟩ := h; rfl
  · obtain ⟨a, M, rfl, hT, hW, O, q1, q2⟩ := h
    have hn60 := O.le
    obtain ⟨dx, b, fw, p, hw1, hMb, ⟨ws, hfw, hwl, hws⟩, hst⟩ := id hW
    refine ⟨_, (PSs.nox (pss_cons (ps_set (i := 1) sc_few_swing.nd rfl (Or.inl rfl) (pe_lst pa_nil))
 (pss_cons (ps_for PassesOwn.never rfl (pi_tup (pe_tup (pa_cons pe_bl (pa_cons pe_bl pa_nil)))) (pg_name (i := 2) sc_few_swing.nd rfl (Or.inr rfl) (Or.inl rfl))
 (pss_cons (ps_setLc (i := 3) (own := [("stand", 4)]) rfl sc_few_swing.nd rfl rfl (sw_true rfl rfl rfl (by decide +kernel)) (pi_list (pe_methP0 (pv 0) T.clCW (ok_Walks_all_stands T) (hr.mono (by decide)) pass0)) (blkOk_by (own := [("stand", 4)]) (N := N_few_swing) (sc := defScope s_few_swing) (by decide +kernel)) (fun _ _ _ _ _ => (pg_name (i := 4) sc_few_swing.nd rfl (Or.inl rfl) (Or.inr rfl))) (fun _ _ _ _ _ => pts_one (pt_cmpR op_notN (pe_methP (pv 0) T.clCW (ok_Walks_to_end T Y) (hr.mono (by decide)) pass0 (pa_cons (pv 4) (pa_cons (pv 2) pa_nil))) pe_non (nomark _))) (fun _ _ _ _ _ => (pv 4)))
 (pss_cons (ps_setLc (i := 3) (own := [("stand", 4)]) rfl sc_few_swing.nd rfl rfl (sw_true rfl rfl rfl (by decide +kernel)) (pi_list (pv 3)) (blkOk_by (own := [("stand", 4)]) (N := N_few_swing) (sc := defScope s_few_swing) (by decide +kernel)) (fun _ _ _ _ _ => (pg_name (i := 4) sc_few_swing.nd rfl (Or.inl rfl) (Or.inr rfl))) (fun _ _ _ _ _ => pts_one (pt_cmpR op_notN (pe_methP (pv 0) T.clCW (ok_Walks_round_of T Y) (hr.mono (by decide)) pass0 (pa_cons (pe_tup (pa_cons (pv 4) pa_nil)) pa_nil)) pe_non (nomark _))) (fun _ _ _ _ _ => (pv 4)))
 (pss_cons (ps_if (pt_cmpR (op_eqD hr.units) (pv 3) (pe_lst pa_nil) (nomark _))
 (pss_one (ps_ret pe_non))
 pss_nil)
 (pss_one (ps_aug (i := 1) sc_few_swing.nd rfl (Or.inl rfl) (pe_lst (pa_cons (pe_ix ix_list (pe_fld (pv 0) rfl) (pe_ix ix_list (pv 3) pe_int (fun _ _ => rfl)) (fun _ _ => rfl)) (pa_cons (pe_methP (pv 0) T.clCW (ok_Walks_round_of T Y) (hr.mono (by decide)) pass0 (pa_cons (pe_tup (pa_cons (pe_ix ix_list (pv 3) pe_int (fun _ _ => rfl)) pa_nil)) pa_nil)) (pa_cons (pe_methP (pv 0) T.clCW (ok_Walks_to_end T Y) (hr.mono (by decide)) pass0 (pa_cons (pe_ix ix_list (pv 3) pe_int (fun _ _ => rfl)) (pa_cons (pv 2) pa_nil))) pa_nil)))) iop_ext))))))
 (pss_one (ps_ret (pe_op op_catA (pe_tup (pa_cons pe_str pa_nil)) (pe_callTy call_tuple_of rfl T.z_tuple (by decide +kernel) (pa_cons (pv 1) pa_nil)))))))), ?_⟩
    refine ⟨by show 0 ≤ 2 ^ 24; decide, fun F hF => ?_⟩
    refine ⟨by show 2 ≤ 2 ^ 24; decide, fun tp htp => ⟨tp, rfl, ⟨_, .inl (.inl upd_same)⟩, ?_⟩⟩
    have nFt : F ≠ tp := ne_of_none upd_same htp
    have g1 : Gr (Tb D) H (upd (upd H F (.lst [])) tp (.tup [.bl true, .bl false])) := (Gr.of (same_new hF)).trans (.of (same_new htp))
    have hF1 : upd (upd H F (.lst [])) tp (.tup [.bl true, .bl false]) F = some (.lst (([] : List Wd).map VS)) := by rw [upd_ne nFt]; exact upd_same
    have htp1 : upd (upd H F (.lst [])) tp (.tup [.bl true, .bl false]) tp = some (.tup [.bl true, .bl false]) := upd_same
    generalize upd (upd H F (.lst [])) tp (.tup [.bl true, .bl false]) = H1 at g1 hF1 htp1
    refine for_tup (K := K) (a := tp) (xs := [.bl true, .bl false]) (fun i σ H2 => ∃ (fws : List Wd) (v2 v3 v4 : Option V), σ = [some (.ref a), some (.ref F), v2, v3, v4] ∧ Gr (Tb D) H H2 ∧ H2 tp = some (.tup [.bl true, .bl false]) ∧ H2 F = some (.lst (fws.map VS)) ∧ FwR M i fws)
      ⟨[], _, _, _, rfl, g1, htp1, hF1, .inl ⟨rfl, rfl⟩⟩ (fun i σ H2 _ h => by obtain ⟨_, _, _, _, _, _, h, _⟩ := h; exact .inl (.inl h)) ?_ ?_
    · rintro i x σ H2 hx ⟨fws, v2, v3, v4, rfl, g2, htp2, hF2, hR⟩
      have hi2 : i < 2 := (List.getElem?_eq_some_iff.mp hx).1
      obtain rfl : x = .bl (dueAt i) := by
        match i, hi2 with
        | 0, _ => cases hx; rfl
        | 1, _ => cases hx; rfl
      have hfl : fws.length ≤ 6 := by
        rcases hR with ⟨_, rfl⟩ | ⟨_, u, y, v, rfl, _⟩ | ⟨_, w1, w2, rfl, ⟨u, y, v, rfl, _⟩, u', y', v', rfl, _⟩ <;> simp
      generalize hdd : dueAt i = d at *
      -- the stands from which some word ends so
      refine ⟨_, rfl, a, dx, _, rfl, g2.sol _ _ hw1 trivial, fWk_no _ _ _ _ (by decide +kernel), a, M, rfl, hW.sol g2.sol, O.toOk, fun H3 l e3 nl hl3 => ⟨l, rfl, ⟨_, .of hl3⟩, fun S1 hS1 => ?_⟩⟩
      have g3 := g2.trans (.of e3)
      refine lc_it (walk_list (xs := nis (List.range M.n))) (fun j H4 => ∃ sub, Gr (Tb D) H3 H4 ∧ H4 S1 = some (.lst (nis sub)) ∧ Kp (fun s => ∃ v, Ov M.ls v ∧ M.fin (M.run s v) = d) (List.range M.n) sub j) ⟨[], .of (same_new hS1), upd_same, .nil⟩ (fun j H4 _ h => by obtain ⟨_, g, _⟩ := h; exact .of (g.sol _ _ hl3 trivial)) (fun j x H4 H4' hj h hY => ?_) (fun H4 h => ?_)
      · obtain ⟨sub, g4, hS4, k4⟩ := h
        obtain ⟨rfl, hx2⟩ := hY
        obtain ⟨st, hst2, rfl⟩ := nis_inv hx2
        have hstN : st < M.n := by simpa using List.mem_of_getElem? hst2
        have g34 := g3.trans g4
        have hjn : j ≤ 60 := by have := (List.getElem?_eq_some_iff.mp hst2).1; simp at this; omega
        refine ⟨rfl, _, rfl, a, dx, _, rfl, g34.sol _ _ hw1 trivial, fWk_no _ _ _ _ (by decide +kernel), _, rfl, _, rfl, a, M, st, d, rfl, g34.tab hT, hW.sol g34.sol, O, hstN, fun H5 r g5 h5 => ⟨rfl, _, rfl, ?_⟩⟩
        have g35 := g4.trans g5
        have hS5 := g5.sol _ _ hS4 trivial
        cases r with
        | none => exact ⟨sub, g35, hS5, k4.skip hst2 fun ⟨v, a1, a2⟩ => h5 v a1 a2⟩
        | some v => exact ⟨_, rfl, _, hS5, by rw [nis_len]; have := k4.len; exact slt (by omega), sub ++ [st], gr_mut g35 hS1 hS5 lst_ne, by rw [upd_same]; simp [nis], k4.add hst2 ⟨v, h5.1, h5.2.2⟩⟩
      · obtain ⟨sub, g4, hS4, k4⟩ := h
        rw [nis_len] at k4
        have hsl := k4.len
        rw [List.length_range] at hsl
        -- of those, the ones to which some word leads back
        refine ⟨_, rfl, S1, rfl, ⟨_, .of hS4⟩, fun S2 hS2 => ?_⟩
        refine lc_it (walk_list (xs := nis sub)) (fun j H5 => ∃ sub2, Gr (Tb D) H4 H5 ∧ H5 S2 = some (.lst (nis sub2)) ∧ Kp (fun s => ∃ y, Ov M.ls y ∧ y ≠ [] ∧ M.run s y = s) sub sub2 j) ⟨[], .of (same_new hS2), upd_same, .nil⟩ (fun j H5 _ h => by obtain ⟨_, g, _⟩ := h; exact .of (g.sol _ _ hS4 trivial)) (fun j x H5 H5' hj h hY => ?_) (fun H5 h => ?_)
        · obtain ⟨sub2, g5, hS5, k5⟩ := h
          obtain ⟨rfl, hx2⟩ := hY
          obtain ⟨st, hst2, rfl⟩ := nis_inv hx2
          have hstN : st < M.n := by simpa using (k4.yes st (List.mem_of_getElem? hst2)).1
          have g35 := (g3.trans g4).trans g5
          have hjn : j ≤ 60 := by have := (List.getElem?_eq_some_iff.mp hst2).1; omega
          refine ⟨rfl, _, rfl, a, dx, _, rfl, g35.sol _ _ hw1 trivial, fWk_no _ _ _ _ (by decide +kernel), _, rfl, by show 1 ≤ 2 ^ 24; decide, fun t ht => ?_⟩
          have e6 : Same H5' (upd H5' t (.tup (nis [st]))) := same_new ht
          have ht6 : upd H5' t (.tup (nis [st])) t = some (.tup (nis [st])) := upd_same
          have g36 := g35.trans (.of e6)
          refine ⟨a, t, M, [st], rfl, g36.tab hT, hW.sol g36.sol, O, ht6, by simp, fun x hx => by rw [List.mem_singleton.mp hx]; exact hstN, fun H7 r g7 h7 => ⟨rfl, _, rfl, ?_⟩⟩
          have g57 := (g5.trans (.of e6)).trans g7
          have hS7 := g7.sol _ _ (e6 _ _ hS5) trivial
          cases r with
          | none => exact ⟨sub2, g57, hS7, k5.skip hst2 fun ⟨y, a1, a2, a3⟩ => h7 y a1 a2 (one_mvs.mpr a3)⟩
          | some y => exact ⟨_, rfl, _, hS7, by rw [nis_len]; have := k5.len; exact slt (by omega), sub2 ++ [st], gr_mut g57 hS2 hS7 lst_ne, by rw [upd_same]; simp [nis], k5.add hst2 ⟨y, h7.1, h7.2.1, one_mvs.mp h7.2.2.2⟩⟩
        · obtain ⟨sub2, g5, hS5, k5⟩ := h
          rw [nis_len] at k5
          have g35 := (g3.trans g4).trans g5
          -- if some == []
          refine ⟨_, rfl, by show 0 ≤ 2 ^ 24; decide, fun E1 hE1 => eq_nil (.of ((same_new hE1) _ _ hS5)) (dp_nis sub2) (okd_its sub2) (by omega) (.of upd_same) ⟨_, rfl, ?_⟩⟩
          have e6 : Same H5 (upd H5 E1 (.lst [])) := same_new hE1
          generalize upd H5 E1 (.lst []) = H6 at e6
          have g36 := g35.trans (.of e6)
          cases sub2 with
          | nil =>
            refine q1 _ g36 (O.few_none d fun s hs y v => ?_)
            have h1 := k4.all (s := s) (by simpa using hs) y
            have h2 := k5.all h1 v
            cases h2
          | cons s0 rest =>
            have hs0 := k5.yes s0 List.mem_cons_self
            have hs0N : s0 < M.n := by simpa using (k4.yes s0 hs0.1).1
            have hS6 := e6 _ _ hS5
            obtain ⟨w0, hw0⟩ : ∃ w0, ws[s0]? = some w0 := ⟨_, List.getElem?_eq_getElem (by rw [hwl]; exact hs0N)⟩
            obtain ⟨b1, b2, b3⟩ := hws s0 w0 hw0
            have hF6 : H6 F = some (.lst (fws.map VS)) := e6 _ _ (g5.sol _ _ (g4.sol _ _ (e3 _ _ hF2) trivial) trivial)
            have htp6 : H6 tp = some (.tup [.bl true, .bl false]) := e6 _ _ (g5.sol _ _ (g4.sol _ _ (e3 _ _ htp2) trivial) trivial)
            refine ⟨_, rfl, _, rfl, a, CW, dx, _, _, rfl, g36.sol _ _ hw1 trivial, T.clCW, T.nCW_first_words, fWk_fw _ _ _ _, _, rfl, S2, _, 0, _, rfl, rfl, .of hS6, atI_nat (j := 0) rfl, fw, _, _, _, rfl, rfl, .of (g36.sol _ _ hfw trivial), atI_nat (vs_get hw0), ?_⟩
            refine ⟨_, rfl, a, dx, _, rfl, g36.sol _ _ hw1 trivial, fWk_no _ _ _ _ (by decide +kernel), _, rfl, S2, _, 0, _, rfl, rfl, .of hS6, atI_nat (j := 0) rfl, by show 1 ≤ 2 ^ 24; decide, fun t ht => ?_⟩
            have e7 : Same H6 (upd H6 t (.tup (nis [s0]))) := same_new ht
            have ht7 : upd H6 t (.tup (nis [s0])) t = some (.tup (nis [s0])) := upd_same
            have g37 := g36.trans (.of e7)
            refine ⟨a, t, M, [s0], rfl, g37.tab hT, hW.sol g37.sol, O, ht7, by simp, fun x hx => by rw [List.mem_singleton.mp hx]; exact hs0N, fun H8 r8 g8 h8 => ?_⟩
            have g38 := g37.trans g8
            have g68 := (Gr.of (T := Tb D) e7).trans g8
            have hS8 := g68.sol _ _ hS6 trivial
            refine ⟨_, rfl, a, dx, _, rfl, g38.sol _ _ hw1 trivial, fWk_no _ _ _ _ (by decide +kernel), _, rfl, S2, _, 0, _, rfl, rfl, .of hS8, atI_nat (j := 0) rfl, _, rfl, a, M, s0, d, rfl, g38.tab hT, hW.sol g38.sol, O, hs0N, fun H9 r9 g9 h9 => ⟨by show 3 ≤ 2 ^ 24; decide, fun L hL => ?_⟩⟩
            have g39 := g38.trans g9
            have g69 := g68.trans g9
            have hF9 := g69.sol _ _ hF6 trivial
            have htp9 := g69.sol _ _ htp6 trivial
            have nFL : F ≠ L := ne_of_none hF9 hL
            have ntL : tp ≠ L := ne_of_none htp9 hL
            have ntF : tp ≠ F := ne_of htp9 hF9 (by intro z; cases z)
            cases r8 with
            | none =>
              obtain ⟨y, a1, a2, a3⟩ := hs0.2
              exact absurd (one_mvs.mpr a3) (h8 y a1 a2)
            | some y =>
              cases r9 with
              | none =>
                obtain ⟨v, a1, a2⟩ := (k4.yes s0 hs0.1).2
                exact absurd a2 (h9 v a1)
              | some v =>
                obtain ⟨c1, c2, c3, c4⟩ := h8
                obtain ⟨d1, d2, d3⟩ := h9
                refine ⟨F, L, fws.map VS, [VS w0, VS y, VS v], rfl, rfl, by rw [upd_ne nFL]; exact hF9, upd_same, by rw [List.length_map]; show fws.length + 3 ≤ 2 ^ 24; omega, ?_⟩
                refine ⟨fws ++ [w0, y, v], _, _, _, rfl, ?_, by rw [upd_ne ntF, upd_ne ntL]; exact htp9, by rw [upd_same, List.map_append]; rfl, ?_⟩
                · refine gr_mut (o1 := .lst (fws.map VS)) (g39.trans (.of (same_new hL))) hF (by rw [upd_ne nFL]; exact hF9) lst_ne
                · refine hR.add hi2 ⟨w0, y, v, rfl, ⟨b1, b3⟩, ⟨c1, c3⟩, c2, ⟨d1, d2⟩, ?_, ?_⟩
                  · rw [b2]; exact one_mvs.mp c4
                  · rw [b2, hdd]; exact d3
    · rintro σ H2 ⟨fws, v2, v3, v4, rfl, g2, htp2, hF2, hR⟩
      rcases hR with ⟨h, _⟩ | ⟨h, _⟩ | ⟨_, w1, w2, rfl, ⟨u, y, v, rfl, a1, a2, a3, a4, a5, a6⟩, u', y', v', rfl, c1, c2, c3, c4, c5, c6⟩
      · cases h
      · cases h
      · refine ⟨by show 1 ≤ 2 ^ 24; decide, fun t ht => ?_⟩
        have e3 : Same H2 (upd H2 t (.tup [.str "few"])) := same_new ht
        have ht3 : upd H2 t (.tup [.str "few"]) t = some (.tup [.str "few"]) := upd_same
        generalize upd H2 t (.tup [.str "few"]) = H3 at e3 ht3
        refine ⟨_, rfl, F, _, rfl, .inl ⟨.of (e3 _ _ hF2), fun l hl => ?_⟩⟩
        have hl4 : upd H3 l (.tup ((([u, y, v] ++ [u', y', v']) : List Wd).map VS)) l = some (.tup [VS u, VS y, VS v, VS u', VS y', VS v']) := upd_same
        refine ⟨t, l, _, _, rfl, rfl, .inl (.inl (by rw [upd_ne (ne_of_none ht3 hl)]; exact ht3)), .inl (.inl hl4), by show 1 + 6 ≤ 2 ^ 24; decide, (fun e => by cases e), (fun _ e => by cases e), fun _ _ p hp => ?_⟩
        obtain ⟨k1, k2⟩ := O.few_some a1.1 a2.1 a4.1 c1.1 c2.1 c4.1 a3 c3 a5 c5 a6 c6
        refine q2 _ p (.few u y v u' y' v') (((g2.trans (.of e3)).trans (.of (same_new hl))).trans (.of (same_new hp))) ⟨k1, rfl, ⟨a1.mono (by omega), a2.mono (by omega), a3, a4.mono (by omega), c1.mono (by omega), c2.mono (by omega), c3, c4.mono (by omega)⟩, k2⟩ ?_
        rw [upd_same]; rfl
end
end Sw
/-! sorted of a dict whose keys are ints, however many. -/
namespace Sw
open PySem PySem.Spec PyProof.Rows L2 LamX NdefX
theorem call_sortedDn {X : Cx} (hc : X.calm = true) : CallR X (.builtin "sorted") (fun xs H Q => ∃ (a : Addr) (kvs : List (Key × V)) (ks : List Int), xs = [.ref a] ∧ Rd H a (.dK kvs) ∧ kvs.map (·.1) = ks.map Sum.inl ∧ ks.length ≤ 10000 ∧
    ∀ (ys : List Int) (p : Addr), ys.Perm ks → ys.Pairwise (· ≤ ·) → H p = none → Q (.ref p) (upd H p (.lst (ys.map V.int)))) := by
  intro pins s σ H xs us Q I r q
  obtain ⟨a, kvs, ks, ex, hd, hks, hle, q⟩ := q
  subst ex
  obtain ⟨u, eu, rx⟩ := vals1 r
  subst eu
  cases rx
  obtain ⟨z, lo, vs, rel, dd⟩ := dk_rd I.hok hd
  obtain ⟨ep, hat⟩ := dd.dictAt
  have hkeys : vs.map (·.1) = ks.map Sum.inl := rel.keys.symm.trans hks
  have hl : vs.length = ks.length := by
    have e := congrArg List.length hkeys
    simpa using e
  have hz : ks.length ≤ sizeLine := Nat.le_trans hle (by rw [sizeLine_eq]; decide)
  refine Calls.call_function_entry PyProof.Rows.kind_sorted PyProof.Rows.plain_sorted PyProof.Rows.entry_sorted (PyProof.Rows.args_sorted1 _) ?_
  unfold Builtin.«sorted»
  refine wpAny_bind (m := checkCount "sorted" 1 1 _) (wpAny_pure ?_)
  refine wpAny_bind (PySem.W.kdu_collect (A := X.A.in1) (PySem.W.kdl_dict (knd := mixKind X.prog X.w) (kvs := vs) (ep := ep) lo) (I.ok.hd hc) hat (by rw [hl]; exact hz) fun h' tk acc hk hacc => ?_)
  have hal : acc.toList.length = ks.length := by rw [Array.length_toList, hacc.1, hl]
  have hS : IntsAre acc.toList ks := ints_each hal fun j v e => by
    obtain ⟨k, x, e1, e2⟩ := hacc.2 j v (by rw [← Array.getElem?_toList]; exact e)
    have e3 : (ks.map Sum.inl)[j]? = some k := by rw [← hkeys, List.getElem?_map, e1]; rfl
    rw [List.getElem?_map] at e3
    cases e4 : ks[j]? with
    | none => rw [e4] at e3; cases e3
    | some y =>
      rw [e4] at e3
      cases Option.some.inj e3
      rcases keyIs_shape (show keyIs (Sum.inl y) v = true from e2) with ⟨i, t, ek, ev⟩ | ⟨z, t, ek, ev⟩
      · cases ek
        exact ⟨y, t, rfl, ev⟩
      · cases ek
  have I1 : L2.Inv X pins σ H { s with heap := h', toks := tk } := I.kept hk
  refine wpAny_bind (wpAny_newList ?_ (by rw [hal]; exact hz))
  have hoL : (h'.push (seqObj "list" acc.toList.toArray 0)).get? h'.objs.size = some (seqObj "list" acc.toList.toArray 0) := Heap.get?_push_size _ rfl
  show wpAny _ _ _ _ _ { s with heap := h'.push (seqObj "list" acc.toList.toArray 0), toks := tk }
  refine wpAny_bind (wpAny_holding (wpAny_call_entry PyProof.Rows.slot_list_sort ⟨_, hoL, rfl⟩ PyProof.Rows.entry_list_sort
    (SrtO.list_sort_ord (s := { s with heap := h'.push (seqObj "list" acc.toList.toArray 0), toks := tk }) SrtO.swo_int hoL (by rw [hal]; exact hz) (fun h2 => SrtO.ints_sortable hS h2) fun out g1 g2 => ⟨_, rfl, ?_⟩) (PyProof.Rows.args_list_sort _)))
  obtain ⟨k1, k2, k3⟩ := SrtO.ints_out hS g1 g2
  obtain ⟨e', he'⟩ := PyProof.Rows.sortedHeap_at (vs := acc.toList) (out := out.toArray) hoL
  have hlen : ((out.map SrtO.iv).map V.int).length ≤ sizeLine := by
    rw [List.length_map, k2.length_eq]; exact hz
  refine wpAny_pure ⟨_, rfl, .ref h'.objs.size, upd H h'.objs.size (.lst ((out.map SrtO.iv).map V.int)), I1.laid (t' := tk) (fun b u e => ?_) (Nat.le_refl _)
    (show ObjOk X.prog X.w _ _ _ (.lst ((out.map SrtO.iv).map V.int)) from ⟨hlen, out, e', vals_of_ints k1, he'⟩), rfl, q _ _ k2 k3 (I1.hok.fresh (Nat.le_refl _))⟩
  have hb : b < h'.objs.size := Heap.lt_size e
  rw [PyProof.Rows.sortedHeap_old (Nat.ne_of_lt hb) (by show _ < (h'.push _).objs.size; rw [size_push']; exact Nat.lt_succ_of_lt hb)]
  exact Heap.get?_push_of_some _ e
end Sw
/-! on_rounds. -/
namespace Sw
open PySem PySem.Spec PyProof.Rows L2 LamX NdefX
theorem getD_ofL {l : List (List Nat)} {i : Nat} {a : List Nat} (h : l[i]? = some a) : l.getD i [] = a := by rw [List.getD_eq_getElem?_getD, h]; rfl
theorem setOf_keys (l : List Nat) : (setOf ik l).map (·.1) = (l.map fun n => ((n : Nat) : Int)).map Sum.inl := by
  unfold setOf; rw [List.map_map, List.map_map]; rfl
section
variable {P : Program} {w : World} {K : PySem.W.Frag} {mg : Str → Option Value} {base : Heap} {CM CA CW CG : Addr} {D : Cds}
def spOnRounds : Sp := fun vs H Q _ => ∃ (p : Addr) (ld : List (List Nat)), vs = [.ref p] ∧ LeadsAt H p ld ∧ ld.length ≤ 200 ∧ (∀ r ∈ ld, r.length ≤ 4) ∧
  ∀ H' q out, Same H H' → H q = none → H' q = some (.lst (nis out)) → (∀ i ∈ out, i < ld.length) → (∀ S : Nat → Prop, OnRounds ld S → ∀ i, S i → i ∈ out) → Q (.ref q) H'
/-- it leads to another one that is left -/
def Gd (ld : List (List Nat)) (left : List Nat) (n : Nat) : Bool := (ld.getD n []).any fun j => !decide (j = n) && decide (j ∈ left)
theorem ok_on_rounds (T : Tx K mg CM CA CW CG) : Pr P w K mg base CX0 1 "on_rounds" P_on_rounds [] spOnRounds := by
  refine T.d_on_rounds.pr sc_on_rounds (fun _ _ _ _ _ _ us hl => match us, hl with | [_], _ => rfl) (fun vs H Q E h => ?_) (fun f cdv A outer s H vs Q E hr h => ?_)
  · obtain ⟨p, ld, rfl, _⟩ := h; rfl
  · obtain ⟨p, ld, rfl, hLd, h200, hr4, q⟩ := h
    have hu := hu_of hr
    refine ⟨_, (PSs.nox (pss_cons (ps_set (i := 1) sc_on_rounds.nd rfl (Or.inr rfl) (pe_dc (own := [("i", 3)]) rfl sc_on_rounds.nd (pi_range1 rfl T.z_range (pa_cons (pe_callB call_len rfl T.z_len boot_len (pa_cons (pv 0) pa_nil)) pa_nil)) (blkOk_by (own := [("i", 3)]) (N := N_on_rounds) (sc := defScope s_on_rounds) (by decide +kernel)) (fun _ _ _ _ _ => (pg_name (i := 3) sc_on_rounds.nd rfl (Or.inl rfl) (Or.inr rfl))) (fun _ _ _ _ _ => pts_nil) (fun _ _ _ _ _ => (pv 3)) (fun _ _ _ _ _ => pe_bl)))
 (pss_cons (ps_set (i := 2) sc_on_rounds.nd rfl (Or.inl rfl) pe_int)
 (pss_cons (ps_while PassesOwn.never (pt_cmpR op_ne (pv 2) (pe_callB call_lenD rfl T.z_len boot_len (pa_cons (pv 1) pa_nil)) (nomark _))
 (pss_cons (ps_set (i := 2) sc_on_rounds.nd rfl (Or.inl rfl) (pe_callB call_lenD rfl T.z_len boot_len (pa_cons (pv 1) pa_nil)))
 (pss_one (ps_set (i := 1) sc_on_rounds.nd rfl (Or.inr rfl) (pe_lock (pe_dc (own := [("i", 3)]) rfl sc_on_rounds.nd (pi_keys (pv 1)) (blkOk_by (own := [("i", 3)]) (N := N_on_rounds) (sc := defScope s_on_rounds) (by decide +kernel)) (fun _ _ _ _ _ => (pg_name (i := 3) sc_on_rounds.nd rfl (Or.inr rfl) (Or.inl rfl))) (fun _ _ _ _ _ => pts_one (pt_val (pe_callB (any_K K rfl rfl) rfl T.z_any (by decide +kernel) (pa_cons (pe_lc (own := [("j", 4)]) rfl sc_on_rounds.nd (pi_listK K rfl (pe_ix (ixL_K K rfl) (pv 0) (pv 3) (fun _ _ => rfl))) (blkOk_by (own := [("j", 4)]) (N := N_on_rounds) (by kernel_rfl)) (fun _ _ _ _ _ => (pg_name (i := 4) sc_on_rounds.nd rfl (Or.inl rfl) (Or.inr rfl))) (fun _ _ _ _ _ => pts_nil) (fun _ _ _ _ _ => (pe_and (pe_cmpR op_ne (pv 4) (pv 3) (nomark _)) (pe_one (pe_cmp (pc_din hu (pv 4) (pv 1)) rfl))))) pa_nil)))) (fun _ _ _ _ _ => (pv 3)) (fun _ _ _ _ _ => pe_bl)))))))
 (pss_one (ps_ret (pe_callB (call_sortedDn rfl) rfl T.z_sorted (by decide +kernel) (pa_cons (pv 1) pa_nil)))))))), ?_⟩
    obtain ⟨las, hp, hls⟩ := id hLd
    have hln : (las.map V.ref).length = ld.length := by rw [List.length_map, hls.1]
    have hM : ld.length ≤ 1000000 := Nat.le_trans h200 (by decide)
    have h62 := lt62 hM
    refine ⟨_, rfl, _, ld.length, rfl, .inl ⟨_, .of hp, hln.symm⟩, _, rfl, lo62, h62, fun L hL => ?_⟩
    refine dc_it (tt := tYes) (walk_range (lo := 0) (n := ld.length)) (fun i H2 => Same H H2 ∧ H2 L = some (.dK (setOf ik (List.range i)))) ⟨same_new hL, upd_same⟩ (fun _ _ _ _ => trivial) (fun i x H2 H2' hi h hY => ?_) (fun H2 h => ?_)
    · obtain ⟨r2, hL2⟩ := h
      obtain ⟨rfl, hx⟩ := hY
      have hx2 : x = vi i := by
        rw [hx]; show V.int (0 + (i : Nat)) = V.int (i : Nat); rw [Int.zero_add]
      subst hx2
      refine ⟨rfl, _, rfl, _, ik i, rfl, hL2, by rw [setOf_len, List.length_range]; exact slt (by omega), same_mut r2 hL, ?_⟩
      have hv : valV (setOf ik (List.range i)) (ik i) = none := by rw [valV_set ik_inj]; exact if_neg (by simp)
      rw [upd_same, putK_new _ hv, ← setOf_snoc, List.range_succ]
    · obtain ⟨r2, hL2⟩ := h
      refine while_ix (fun m σ H3 => ∃ (left : List Nat) (L' : Addr) (many : Nat) (v3 v4 : Option V), σ = [some (.ref p), some (.ref L'), some (vi many), v3, v4] ∧ Same H H3 ∧ H L' = none ∧ H3 L' = some (.dK (setOf ik left)) ∧ left.Nodup ∧ (∀ i ∈ left, i < ld.length) ∧ (∀ S : Nat → Prop, OnRounds ld S → ∀ i, S i → i ∈ left) ∧ m = 2 * left.length + (if many = left.length then 0 else 1)) _
        ⟨List.range ld.length, L, 0, _, _, rfl, r2, hL, hL2, List.nodup_range, fun i hi => List.mem_range.mp hi, fun S hS i hi => List.mem_range.mpr (hS i hi).1, rfl⟩ ?_
      rintro m σ H3 ⟨left, L', many, v3, v4, rfl, r3, hL0, hL3, hnd, hlt, hcov, hm⟩
      have hlen := nodup_le left (List.range ld.length) hnd fun x hx => List.mem_range.mpr (hlt x hx)
      rw [List.length_range] at hlen
      refine ⟨_, rfl, _, rfl, L', _, rfl, hL3, rfl, _, rfl, ?_⟩
      rw [setOf_len]
      by_cases he : many = left.length
      · rw [decide_eq_true (show V.int ((many : Nat) : Int) = V.int ((left.length : Nat) : Int) by rw [he])]
        refine ⟨_, rfl, L', setOf ik left, left.map fun n => ((n : Nat) : Int), rfl, .of hL3, setOf_keys left, by rw [List.length_map]; omega, fun ys q2 hys _ hq2 => ?_⟩
        have hys2 : ∃ out : List Nat, ys = out.map (fun n => ((n : Nat) : Int)) ∧ ∀ n, n ∈ out ↔ n ∈ left := by
          refine ⟨ys.map Int.toNat, ?_, fun n => ?_⟩
          · rw [List.map_map]
            refine (List.map_id ys).symm.trans (List.map_congr_left fun z hz => ?_)
            obtain ⟨n, _, rfl⟩ := List.mem_map.mp (hys.mem_iff.mp hz)
            rfl
          · rw [List.mem_map]
            constructor
            · rintro ⟨z, hz, rfl⟩
              obtain ⟨k, hk, rfl⟩ := List.mem_map.mp (hys.mem_iff.mp hz)
              exact hk
            · intro hn
              exact ⟨(n : Nat), hys.mem_iff.mpr (List.mem_map.mpr ⟨n, hn, rfl⟩), rfl⟩
        obtain ⟨out, rfl, ho⟩ := hys2
        refine q _ q2 out (fun b o z => (same_new hq2) b o (r3 b o z)) (r3.free hq2) ?_ (fun i hi => hlt i ((ho i).mp hi)) fun S hS i hi => (ho i).mpr (hcov S hS i hi)
        rw [upd_same, List.map_map]; rfl
      · rw [decide_eq_false (show ¬ (V.int ((many : Nat) : Int) = V.int ((left.length : Nat) : Int)) from fun e => he (by injection e; omega))]
        rw [if_neg he] at hm
        refine ⟨fun σ' H' => ∃ m', m' < m ∧ ∃ (left : List Nat) (L' : Addr) (many : Nat) (v3 v4 : Option V), σ' = [some (.ref p), some (.ref L'), some (vi many), v3, v4] ∧ Same H H' ∧ H L' = none ∧ H' L' = some (.dK (setOf ik left)) ∧ left.Nodup ∧ (∀ i ∈ left, i < ld.length) ∧ (∀ S : Nat → Prop, OnRounds ld S → ∀ i, S i → i ∈ left) ∧ m' = 2 * left.length + (if many = left.length then 0 else 1), fun _ _ h => h, ?_⟩
        refine ⟨_, rfl, L', _, rfl, hL3, ?_⟩
        rw [setOf_len]
        refine ⟨L', _, hL3, trivial, fun od => ?_⟩
        have rk : Same H (upd H3 L' (.frz od (.dK (setOf ik left)))) := same_mut r3 hL0
        have hLk : upd H3 L' (.frz od (.dK (setOf ik left))) L' = some (.frz od (.dK (setOf ik left))) := upd_same
        show tDc _ _ _ _ _ _ _ (upd H3 L' (.frz od (.dK (setOf ik left)))) _
        generalize upd H3 L' (.frz od (.dK (setOf ik left))) = Hk at rk hLk
        refine ⟨_, rfl, L', od, rfl, .inl ⟨_, hLk, fun B hB => ?_⟩⟩
        have hB0 : H B = none := rk.free hB
        refine dc_it (walk_keys (d := L') (o := od) (kvs := setOf ik left)) (fun i H4 => ∃ sub : List Nat, Same Hk H4 ∧ H4 B = some (.dK (setOf ik sub)) ∧ sub.Sublist (left.take i) ∧ ∀ n ∈ left.take i, Gd ld left n = true → n ∈ sub) ⟨[], same_new hB, upd_same, List.nil_sublist _, fun n h => by simp at h⟩ (fun i H4 _ h => by obtain ⟨_, h, _⟩ := h; exact h _ _ hLk) (fun i x H4 H4' hi h hY => ?_) (fun H4 h => ?_)
        · obtain ⟨sub, r4, hB4, hsub, hall⟩ := h
          obtain ⟨rfl, k0, v0, hk0, rfl⟩ := hY
          have hil : i < left.length := by rwa [setOf_len] at hi
          have hn := List.getElem?_eq_getElem hil
          generalize left[i] = n at hn
          have hk1 : (k0, v0) = (ik n, V.bl true) := by
            unfold setOf at hk0
            rw [List.getElem?_map, hn] at hk0
            exact (Option.some.inj hk0).symm
          cases hk1
          have hnl := hlt n (List.mem_of_getElem? hn)
          have hrow := List.getElem?_eq_getElem hnl
          generalize ld[n] = row at hrow
          have hrl := hr4 row (List.mem_of_getElem? hrow)
          obtain ⟨al, hal, hrw⟩ := hls.get hrow
          have r04 : Same H H4' := fun b o z => r4 b o (rk b o z)
          have htake : left.take (i + 1) = left.take i ++ [n] := by rw [List.take_succ, hn]; rfl
          have hnsub : n ∉ sub := fun z => by
            have h1 := hsub.subset z
            obtain ⟨k, hk⟩ := List.mem_iff_getElem?.mp h1
            have hki : k < i := by have := (List.getElem?_eq_some_iff.mp hk).1; rw [List.length_take] at this; omega
            rw [List.getElem?_take_of_lt hki] at hk
            have := nd_inj hnd hk hn
            omega
          have hsl : sub.length ≤ i := by have := hsub.length_le; rw [List.length_take] at this; omega
          have hgd : Gd ld left n = (row.map fun j => !decide (j = n) && decide (j ∈ left)).any id := by
            unfold Gd; rw [getD_ofL hrow, List.any_map]; rfl
          refine ⟨rfl, _, rfl, _, rfl, p, _, _, _, rfl, rfl, .of (r04 _ _ hp), atI_nat (refs_get hal), al, rfl, ⟨_, .of (r04 _ _ hrw)⟩, fun N hN => lc_map (walk_list (xs := nis row)) (Same H4') (fun k => .bl (!decide (row.getD k 0 = n) && decide (row.getD k 0 ∈ left))) (by rw [nis_len]; exact sl (by omega)) (same_new hN) (fun j H5 hj r hD2 => .of (r _ _ (r04 _ _ hrw))) (fun H5 xs ys r _ => same_mut r hN) (fun k x H5 H5' Q' hk r5 hD5 hY kk => ?_) (fun H5 r5 hN5 => ?_)⟩
          · obtain ⟨rfl, hx⟩ := hY
            obtain ⟨j, hj, rfl⟩ := nis_inv hx
            have kk2 := kk _ hD5 r5
            rw [getD_of hj] at kk2
            refine ⟨rfl, _, rfl, _, rfl, rfl, _, rfl, ?_⟩
            by_cases hjn : j = n
            · rw [decide_eq_true (show vi j = kV (ik n) by rw [hjn]; rfl)]
              rw [decide_eq_true hjn] at kk2
              exact kk2
            · rw [decide_eq_false (show ¬ (vi j = kV (ik n)) from fun e => hjn (by have e2 : V.int ((j : Nat) : Int) = V.int ((n : Nat) : Int) := e; injection e2; omega))]
              rw [decide_eq_false hjn] at kk2
              refine ⟨_, rfl, _, rfl, L', _, rfl, .inl ⟨setOf ik left, ik j, .inr ⟨od, r5 _ _ (r4 _ _ hLk)⟩, rfl, rfl⟩, ?_⟩
              have : (valV (setOf ik left) (ik j)).isSome = decide (j ∈ left) := by
                rw [valV_set ik_inj]
                by_cases z : j ∈ left
                · rw [if_pos z, decide_eq_true z]; rfl
                · rw [if_neg z, decide_eq_false z]; rfl
              rw [this]; exact kk2
          · have htab : tab (fun k => .bl (!decide (row.getD k 0 = n) && decide (row.getD k 0 ∈ left))) (nis row).length = (row.map fun j => !decide (j = n) && decide (j ∈ left)).map V.bl := by
              refine tab_eq (by simp [nis]) fun k x hx => ?_
              rw [List.getElem?_map, List.getElem?_map] at hx
              cases e : row[k]? with
              | none => rw [e] at hx; cases hx
              | some j => rw [e] at hx; cases hx; rw [getD_of e]
            rw [htab] at hN5
            refine ⟨_, _, rfl, .of hN5, _, rfl, ?_⟩
            rw [← hgd]
            have r45 : Same Hk H5 := fun b o z => r5 b o (r4 b o z)
            cases hg : Gd ld left n with
            | false =>
              refine ⟨sub, r45, r5 _ _ hB4, ?_, fun k hk hgk => ?_⟩
              · rw [htake]; exact hsub.trans (List.sublist_append_left _ _)
              · rw [htake] at hk
                rcases List.mem_append.mp hk with z | z
                · exact hall k z hgk
                · rw [List.mem_singleton.mp z, hg] at hgk; cases hgk
            | true =>
              refine ⟨_, rfl, _, ik n, rfl, r5 _ _ hB4, by rw [setOf_len]; exact slt (by omega), sub ++ [n], same_mut r45 hB, ?_, ?_, fun k hk hgk => ?_⟩
              · have hv : valV (setOf ik sub) (ik n) = none := by rw [valV_set ik_inj]; exact if_neg hnsub
                rw [upd_same, putK_new _ hv, ← setOf_snoc]
              · rw [htake]; exact hsub.append (List.Sublist.refl _)
              · rw [htake] at hk
                rcases List.mem_append.mp hk with z | z
                · exact List.mem_append.mpr (.inl (hall k z hgk))
                · exact List.mem_append.mpr (.inr z)
        · obtain ⟨sub, r4, hB4, hsub, hall⟩ := h
          rw [setOf_len, List.take_length] at hsub hall
          have nBL : B ≠ L' := (ne_of_none hLk hB).symm
          refine ⟨r4 _ _ hLk, 2 * sub.length + (if left.length = sub.length then 0 else 1), ?_, sub, B, left.length, _, _, rfl, same_mut (fun b o z => r4 b o (rk b o z)) hL0, hB0, by rw [upd_ne nBL]; exact hB4, hsub.nodup hnd, fun i hi => hlt i (hsub.subset hi), fun S hS i hi => ?_, rfl⟩
          · have h1 := hsub.length_le
            by_cases hz : left.length = sub.length
            · rw [if_pos hz]; omega
            · rw [if_neg hz]; omega
          · obtain ⟨hil, j, ⟨r, hr1, hr2⟩, hji, hSj⟩ := hS i hi
            refine hall i (hcov S hS i hi) ?_
            unfold Gd
            rw [getD_ofL hr1, List.any_eq_true]
            exact ⟨j, hr2, by simp [hji, hcov S hS j hSj]⟩
end
end Sw
/-! ends, counts. -/
namespace Sw
open PySem PySem.Spec PyProof.Rows L2 LamX NdefX
section
variable {P : Program} {w : World} {K : PySem.W.Frag} {mg : Str → Option Value} {base : Heap} {CM CA CW CG : Addr} {D : Cds}
theorem ne_of_dec {a b : Nat} (h : (!decide (vi a = vi b)) = true) : a ≠ b := fun e => by subst e; simp at h
theorem eq_of_dec {a b : Nat} (h : ¬ ((!decide (vi a = vi b)) = true)) : a = b := by
  have : vi a = vi b := by simpa using h
  have := V.int.inj this; omega
theorem ok_ends_swing (T : Tx K mg CM CA CW CG) (Y : Ty K mg base CW D) : Pr P w K mg base CX0 5 "ends_swing" P_ends_swing [] (spSw CM CW D .ends) := by
  refine T.d_ends_swing.pr sc_ends_swing (fun _ _ _ _ _ _ us hl => match us, hl with | [_], _ => rfl) (fun vs H Q E h => ?_) (fun f cdv A outer s H vs Q E hr h => ?_)
  · obtain ⟨a, M, rfl, _⟩ := h; rfl
  · obtain ⟨a, M, rfl, hT, hW, O, q1, q2⟩ := h
    have hn60 := O.le
    obtain ⟨dx, b, fw, p, hw1, hMb, ⟨ws, hfw, hwl, hws⟩, hst⟩ := id hW
    refine ⟨_, (PSs.nox (pss_cons (ps_for PassesOwn.never rfl (pi_list (pe_methP0 (pv 0) T.clCW (ok_Walks_all_stands T) (hr.mono (by decide)) pass0)) (pg_name (i := 1) sc_ends_swing.nd rfl (Or.inl rfl) (Or.inl rfl))
 (pss_one (ps_for PassesOwn.never rfl (pi_range1 rfl T.z_range (pa_cons (pv 1) pa_nil)) (pg_name (i := 2) sc_ends_swing.nd rfl (Or.inl rfl) (Or.inl rfl))
 (pss_cons (ps_set (i := 3) sc_ends_swing.nd rfl (Or.inl rfl) (pe_methP (pv 0) T.clCW (ok_Walks_round_of T Y) (hr.mono (by decide)) pass0 (pa_cons (pe_tup (pa_cons (pv 1) (pa_cons (pv 2) pa_nil))) pa_nil)))
 (pss_one (ps_if (pt_cmpR op_notN (pv 3) pe_non (nomark _))
 (pss_cons (ps_asg (pe_methP (pv 0) T.clCW (ok_Walks_parting T Y) (hr.mono (by decide)) pass0 (pa_cons (pv 1) (pa_cons (pv 2) pa_nil))) (pg_tup rfl (pgs_cons (pg_name (i := 4) sc_ends_swing.nd rfl (Or.inl rfl) (Or.inl rfl)) (pgs_cons (pg_name (i := 5) sc_ends_swing.nd rfl (Or.inl rfl) (Or.inl rfl)) pgs_nil))))
 (pss_cons (ps_asg (pe_ifExp (pt_val (pv 5)) (pe_tup (pa_cons (pv 1) (pa_cons (pv 2) pa_nil))) (pe_tup (pa_cons (pv 2) (pa_cons (pv 1) pa_nil)))) (pg_tup rfl (pgs_cons (pg_name (i := 6) sc_ends_swing.nd rfl (Or.inl rfl) (Or.inl rfl)) (pgs_cons (pg_name (i := 7) sc_ends_swing.nd rfl (Or.inl rfl) (Or.inl rfl)) pgs_nil))))
 (pss_one (ps_ret (pe_tup (pa_cons pe_str (pa_cons (pe_ix ix_list (pe_fld (pv 0) rfl) (pv 6) (fun _ _ => rfl)) (pa_cons (pe_ix ix_list (pe_fld (pv 0) rfl) (pv 7) (fun _ _ => rfl)) (pa_cons (pv 3) (pa_cons (pv 4) pa_nil))))))))))
 pss_nil))))))
 (pss_one (ps_ret pe_non)))), ?_⟩
    refine ⟨_, rfl, a, dx, _, rfl, hw1, fWk_no _ _ _ _ (by decide +kernel), a, M, rfl, hW, O.toOk, fun H1 l e1 nl hl => ?_⟩
    refine ⟨l, rfl, ⟨_, .of hl⟩, for_list (K := K) (a := l) (xs := nis (List.range M.n)) (fun i σ H2 => ∃ v1 v2 v3 v4 v5 v6 v7, σ = [some (.ref a), v1, v2, v3, v4, v5, v6, v7] ∧ Gr (Tb D) H H2 ∧ H2 l = some (.lst (nis (List.range M.n))) ∧ ∀ s t, s < i → t < s → ¬ ∃ y, Ov M.ls y ∧ y ≠ [] ∧ M.run s y = s ∧ M.run t y = t)
      ⟨_, _, _, _, _, _, _, rfl, .of e1, hl, fun s t h => absurd h (Nat.not_lt_zero _)⟩ (fun i σ H2 _ h => by obtain ⟨_, _, _, _, _, _, _, _, _, h, _⟩ := h; exact .of h) ?_ ?_⟩
    · rintro i x σ H2 hx ⟨v1, v2, v3, v4, v5, v6, v7, rfl, g2, hl2, hno⟩
      obtain ⟨st, hst0, rfl⟩ := nis_inv hx
      have hiN : i < M.n := by have := (List.getElem?_eq_some_iff.mp hst0).1; simpa using this
      obtain rfl : st = i := by rw [List.getElem?_range hiN] at hst0; exact (Option.some.inj hst0).symm
      refine ⟨_, rfl, (st : Int), rfl, by omega, by omega, ?_⟩
      rw [Int.toNat_natCast]
      refine for_range (lo := 0) (n := st) (fun j σ H3 => ∃ v2 v3 v4 v5 v6 v7, σ = [some (.ref a), some (vi st), v2, v3, v4, v5, v6, v7] ∧ Gr (Tb D) H H3 ∧ H3 l = some (.lst (nis (List.range M.n))) ∧ ∀ t, t < j → ¬ ∃ y, Ov M.ls y ∧ y ≠ [] ∧ M.run st y = st ∧ M.run t y = t)
        ⟨_, _, _, _, _, _, rfl, g2, hl2, fun t h => absurd h (Nat.not_lt_zero _)⟩ ?_ ?_
      · rintro j σ H3 hj ⟨v2, v3, v4, v5, v6, v7, rfl, g3, hl3, hno3⟩
        rw [Int.zero_add]
        have hjN : j < M.n := by omega
        refine ⟨_, rfl, a, dx, _, rfl, g3.sol _ _ hw1 trivial, fWk_no _ _ _ _ (by decide +kernel), _, rfl, _, rfl, by show 2 ≤ 2 ^ 24; decide, fun t ht => ?_⟩
        have e4 : Same H3 (upd H3 t (.tup (nis [st, j]))) := same_new ht
        have ht4 : upd H3 t (.tup (nis [st, j])) t = some (.tup (nis [st, j])) := upd_same
        have g4 := g3.trans (.of e4)
        refine ⟨a, t, M, [st, j], rfl, g4.tab hT, hW.sol g4.sol, O, ht4, by simp, fun x hx => ?_, fun H5 r g5 h5 => ?_⟩
        · rcases List.mem_cons.mp hx with h | h
          · rw [h]; exact hiN
          · rw [List.mem_singleton.mp h]; exact hjN
        have g25 := g4.trans g5
        have hl5 := g5.sol _ _ (e4 _ _ hl3) trivial
        refine ⟨_, rfl, rfl, _, rfl, ?_⟩
        cases r with
        | none =>
          refine ⟨_, _, _, _, _, _, rfl, g25, hl5, fun t ht => ?_⟩
          by_cases htj : t < j
          · exact hno3 t htj
          · obtain rfl : t = j := by omega
            rintro ⟨y, a1, a2, a3, a4⟩
            exact h5 y a1 a2 (two_mvs.mpr ⟨a3, a4⟩)
        | some y =>
          obtain ⟨y1, y2, y3, y4⟩ := h5
          obtain ⟨y5, y6⟩ := two_mvs.mp y4
          refine ⟨_, rfl, a, dx, _, rfl, g25.sol _ _ hw1 trivial, fWk_no _ _ _ _ (by decide +kernel), _, rfl, _, rfl, a, M, st, j, rfl, g25.tab hT, hW.sol g25.sol, O, hiN, hjN, by omega, fun H6 p6 u g6 hu1 hu2 hu3 hp6 => ?_⟩
          have g26 := g25.trans g6
          refine ⟨p6, _, rfl, .inl (.inl hp6), rfl, _, _, rfl, _, _, rfl, rfl, ?_⟩
          obtain ⟨ws1, hw1'⟩ : ∃ w0, ws[st]? = some w0 := ⟨_, List.getElem?_eq_getElem (by rw [hwl]; exact hiN)⟩
          obtain ⟨ws2, hw2'⟩ : ∃ w0, ws[j]? = some w0 := ⟨_, List.getElem?_eq_getElem (by rw [hwl]; exact hjN)⟩
          obtain ⟨b1, b2, b3⟩ := hws st ws1 hw1'
          obtain ⟨c1, c2, c3⟩ := hws j ws2 hw2'
          refine ⟨_, rfl, _, rfl, ?_⟩
          have hfin : M.fin (M.run st u) = true ∨ M.fin (M.run st u) = false := by cases M.fin (M.run st u) <;> simp
          rcases hfin with hf | hf
          · rw [hf] at hu3 ⊢
            refine ⟨_, rfl, _, rfl, by show 2 ≤ 2 ^ 24; decide, fun t7 ht7 => ?_⟩
            have g27 := g26.trans (.of (same_new ht7 : Same H6 (upd H6 t7 (.tup [vi st, vi j]))))
            have ht7' : upd H6 t7 (.tup [vi st, vi j]) t7 = some (.tup [vi st, vi j]) := upd_same
            generalize upd H6 t7 (.tup [vi st, vi j]) = H7 at g27 ht7'
            refine ⟨t7, _, rfl, .inl (.inl ht7'), rfl, _, _, rfl, _, _, rfl, rfl, ?_⟩
            refine ⟨_, rfl, a, CW, dx, _, _, rfl, g27.sol _ _ hw1 trivial, T.clCW, T.nCW_first_words, fWk_fw _ _ _ _, _, rfl, fw, _, _, _, rfl, rfl, .of (g27.sol _ _ hfw trivial), atI_nat (vs_get hw1'), ?_⟩
            refine ⟨_, rfl, a, CW, dx, _, _, rfl, g27.sol _ _ hw1 trivial, T.clCW, T.nCW_first_words, fWk_fw _ _ _ _, _, rfl, fw, _, _, _, rfl, rfl, .of (g27.sol _ _ hfw trivial), atI_nat (vs_get hw2'), _, rfl, _, rfl, by show 5 ≤ 2 ^ 24; decide, fun p hp => ?_⟩
            obtain ⟨k1, k2⟩ := O.ends_some (u := ws1) (v := ws2) (y := y) (w := u) b1 y1 c1 hu1 y2 (by rw [b2]; exact y5) (by rw [c2]; exact y6) (by rw [b2]; exact hf) (by rw [c2]; exact hu3)
            exact q2 _ p (.ends ws1 ws2 y u) (g27.trans (.of (same_new hp))) ⟨k1, rfl, ⟨.of b1 b3 (by omega), .of c1 c3 (by omega), .of y1 y3 (by omega), y2, .of hu1 hu2 (by omega)⟩, k2⟩ upd_same
          · rw [hf] at hu3 ⊢
            refine ⟨_, rfl, _, rfl, by show 2 ≤ 2 ^ 24; decide, fun t7 ht7 => ?_⟩
            have g27 := g26.trans (.of (same_new ht7 : Same H6 (upd H6 t7 (.tup [vi j, vi st]))))
            have ht7' : upd H6 t7 (.tup [vi j, vi st]) t7 = some (.tup [vi j, vi st]) := upd_same
            generalize upd H6 t7 (.tup [vi j, vi st]) = H7 at g27 ht7'
            refine ⟨t7, _, rfl, .inl (.inl ht7'), rfl, _, _, rfl, _, _, rfl, rfl, ?_⟩
            refine ⟨_, rfl, a, CW, dx, _, _, rfl, g27.sol _ _ hw1 trivial, T.clCW, T.nCW_first_words, fWk_fw _ _ _ _, _, rfl, fw, _, _, _, rfl, rfl, .of (g27.sol _ _ hfw trivial), atI_nat (vs_get hw2'), ?_⟩
            refine ⟨_, rfl, a, CW, dx, _, _, rfl, g27.sol _ _ hw1 trivial, T.clCW, T.nCW_first_words, fWk_fw _ _ _ _, _, rfl, fw, _, _, _, rfl, rfl, .of (g27.sol _ _ hfw trivial), atI_nat (vs_get hw1'), _, rfl, _, rfl, by show 5 ≤ 2 ^ 24; decide, fun p hp => ?_⟩
            obtain ⟨k1, k2⟩ := O.ends_some (u := ws2) (v := ws1) (y := y) (w := u) c1 y1 b1 hu1 y2 (by rw [c2]; exact y6) (by rw [b2]; exact y5) (by rw [c2]; exact hu3) (by rw [b2]; exact hf)
            exact q2 _ p (.ends ws2 ws1 y u) (g27.trans (.of (same_new hp))) ⟨k1, rfl, ⟨.of c1 c3 (by omega), .of b1 b3 (by omega), .of y1 y3 (by omega), y2, .of hu1 hu2 (by omega)⟩, k2⟩ upd_same
      · rintro σ H3 ⟨v2, v3, v4, v5, v6, v7, rfl, g3, hl3, hno3⟩
        refine ⟨_, _, _, _, _, _, _, rfl, g3, hl3, fun s t hs ht => ?_⟩
        by_cases hsi : s < st
        · exact hno s t hsi ht
        · obtain rfl : s = st := by omega
          exact hno3 t ht
    · rintro σ H2 ⟨v1, v2, v3, v4, v5, v6, v7, rfl, g2, hl2, hno⟩
      rw [nis_len, List.length_range] at hno
      exact q1 _ g2 (O.ends_none fun s t hs ht h => hno s t hs ht h)
theorem ok_counts_swing (T : Tx K mg CM CA CW CG) (Y : Ty K mg base CW D) : Pr P w K mg base CX0 5 "counts_swing" P_counts_swing [] (spSw CM CW D .counts) := by
  refine T.d_counts_swing.pr sc_counts_swing (fun _ _ _ _ _ _ us hl => match us, hl with | [_], _ => rfl) (fun vs H Q E h => ?_) (fun f cdv A outer s H vs Q E hr h => ?_)
  · obtain ⟨a, M, rfl, _⟩ := h; rfl
  · obtain ⟨a, M, rfl, hT, hW, O, q1, q2⟩ := h
    have hn60 := O.le
    obtain ⟨dx, b, fw, p, hw1, hMb, ⟨ws, hfw, hwl, hws⟩, hst⟩ := id hW
    obtain ⟨dy, pb, hb1, _⟩ := id hMb
    refine ⟨_, (PSs.nox (pss_cons (ps_for PassesOwn.never rfl (pi_list (pe_methP0 (pv 0) T.clCW (ok_Walks_all_stands T) (hr.mono (by decide)) pass0)) (pg_name (i := 1) sc_counts_swing.nd rfl (Or.inl rfl) (Or.inl rfl))
 (pss_one (ps_for PassesOwn.never rfl (pi_str (pe_fld (pv 0) rfl)) (pg_name (i := 2) sc_counts_swing.nd rfl (Or.inl rfl) (Or.inl rfl))
 (pss_one (ps_for PassesOwn.never rfl (pi_str (pe_fld (pv 0) rfl)) (pg_name (i := 3) sc_counts_swing.nd rfl (Or.inl rfl) (Or.inl rfl))
 (pss_cons (ps_par (i := 4) (j := 5) (by rfl) sc_counts_swing.nd rfl rfl (by decide) rfl rfl (pa_cons (pe_methK (pe_fld (pv 0) rfl) T.clCM (ok_behind T).2 (hr.mono (by decide)) pass0 (pa_cons (pe_op op_add_str (pv 2) (pv 3)) pa_nil) (pk_cons (pv 1) pk_nil)) (pa_cons (pe_methK (pe_fld (pv 0) rfl) T.clCM (ok_behind T).2 (hr.mono (by decide)) pass0 (pa_cons (pe_op op_add_str (pv 3) (pv 2)) pa_nil) (pk_cons (pv 1) pk_nil)) pa_nil)) (by rfl))
 (pss_one (ps_if (pt_cmpR op_ne (pv 4) (pv 5) (nomark _))
 (pss_cons (ps_asg (pe_methP (pv 0) T.clCW (ok_Walks_parting T Y) (hr.mono (by decide)) pass0 (pa_cons (pv 4) (pa_cons (pv 5) pa_nil))) (pg_tup rfl (pgs_cons (pg_name (i := 6) sc_counts_swing.nd rfl (Or.inl rfl) (Or.inl rfl)) (pgs_cons (pg_name (i := 7) sc_counts_swing.nd rfl (Or.inl rfl) (Or.inl rfl)) pgs_nil))))
 (pss_one (ps_ret (pe_op op_catA (pe_op op_catA (pe_tup (pa_cons pe_str (pa_cons (pe_ix ix_list (pe_fld (pv 0) rfl) (pv 1) (fun _ _ => rfl)) pa_nil))) (pe_ifExp (pt_val (pv 7)) (pe_tup (pa_cons (pv 2) (pa_cons (pv 3) pa_nil))) (pe_tup (pa_cons (pv 3) (pa_cons (pv 2) pa_nil))))) (pe_tup (pa_cons (pv 6) pa_nil))))))
 pss_nil))))))))
 (pss_one (ps_ret pe_non)))), ?_⟩
    refine ⟨_, rfl, a, dx, _, rfl, hw1, fWk_no _ _ _ _ (by decide +kernel), a, M, rfl, hW, O.toOk, fun H1 l e1 nl hl => ?_⟩
    refine ⟨l, rfl, ⟨_, .of hl⟩, for_list (K := K) (a := l) (xs := nis (List.range M.n)) (fun i σ H2 => ∃ v1 v2 v3 v4 v5 v6 v7, σ = [some (.ref a), v1, v2, v3, v4, v5, v6, v7] ∧ Gr (Tb D) H H2 ∧ H2 l = some (.lst (nis (List.range M.n))) ∧ ∀ s x y, s < i → x ∈ M.ls → y ∈ M.ls → M.run s [x, y] = M.run s [y, x])
      ⟨_, _, _, _, _, _, _, rfl, .of e1, hl, fun s x y h => absurd h (Nat.not_lt_zero _)⟩ (fun i σ H2 _ h => by obtain ⟨_, _, _, _, _, _, _, _, _, h, _⟩ := h; exact .of h) ?_ ?_⟩
    · rintro i x σ H2 hx ⟨v1, v2, v3, v4, v5, v6, v7, rfl, g2, hl2, hno⟩
      obtain ⟨st, hst0, rfl⟩ := nis_inv hx
      have hiN : i < M.n := by have := (List.getElem?_eq_some_iff.mp hst0).1; simpa using this
      obtain rfl : st = i := by rw [List.getElem?_range hiN] at hst0; exact (Option.some.inj hst0).symm
      refine ⟨_, rfl, a, CW, dx, _, _, rfl, g2.sol _ _ hw1 trivial, T.clCW, T.nCW_signs, fWk_sg _ _ _ _, _, rfl, for_it (walk_str (z := S M.ls)) (fun j σ H3 => ∃ v2 v3 v4 v5 v6 v7, σ = [some (.ref a), some (vi st), v2, v3, v4, v5, v6, v7] ∧ Gr (Tb D) H H3 ∧ H3 l = some (.lst (nis (List.range M.n))) ∧ ∀ (k x y : Nat), k < j → M.ls[k]? = some x → y ∈ M.ls → M.run st [x, y] = M.run st [y, x])
        ⟨_, _, _, _, _, _, rfl, g2, hl2, fun k x y h => absurd h (Nat.not_lt_zero _)⟩ (fun _ _ _ _ _ => trivial) ?_ ?_⟩
      · rintro j x σ H3 H3' hj ⟨v2, v3, v4, v5, v6, v7, rfl, g3, hl3, hno3⟩ ⟨rfl, c, hc, rfl⟩
        have hcu := S_get.mp hc
        have hcl := List.mem_of_getElem? hcu
        refine ⟨_, rfl, a, CW, dx, _, _, rfl, g3.sol _ _ hw1 trivial, T.clCW, T.nCW_signs, fWk_sg _ _ _ _, _, rfl, for_it (walk_str (z := S M.ls)) (fun k σ H4 => ∃ v3 v4 v5 v6 v7, σ = [some (.ref a), some (vi st), some (VS [c]), v3, v4, v5, v6, v7] ∧ Gr (Tb D) H H4 ∧ H4 l = some (.lst (nis (List.range M.n))) ∧ ∀ (m y : Nat), m < k → M.ls[m]? = some y → M.run st [c, y] = M.run st [y, c])
          ⟨_, _, _, _, _, rfl, g3, hl3, fun m y h => absurd h (Nat.not_lt_zero _)⟩ (fun _ _ _ _ _ => trivial) ?_ ?_⟩
        · rintro k x σ H4 H4' hk ⟨v3, v4, v5, v6, v7, rfl, g4, hl4, hno4⟩ ⟨rfl, d, hd, rfl⟩
          have hdu := S_get.mp hd
          have hdl := List.mem_of_getElem? hdu
          refine ⟨_, rfl, a, CW, dx, _, _, rfl, g4.sol _ _ hw1 trivial, T.clCW, T.nCW_base, fWk_base _ _ _ _, b, dy, _, rfl, g4.sol _ _ hb1 trivial, fM_no _ _ (by decide +kernel) (by decide +kernel), _, rfl, _, rfl, _, _, rfl, rfl, by show 1 + 1 ≤ 2 ^ 24; decide, _, rfl, rfl, rfl, b, M, [c, d], st, rfl, hMb.sol g4.sol, O.toOk, .cons hcl (.one hdl), by simp, hiN, fun H5 e5 => ?_⟩
          have g5 := g4.trans (.of e5)
          refine ⟨_, rfl, a, CW, dx, _, _, rfl, g5.sol _ _ hw1 trivial, T.clCW, T.nCW_base, fWk_base _ _ _ _, b, dy, _, rfl, g5.sol _ _ hb1 trivial, fM_no _ _ (by decide +kernel) (by decide +kernel), _, rfl, _, rfl, _, _, rfl, rfl, by show 1 + 1 ≤ 2 ^ 24; decide, _, rfl, rfl, rfl, b, M, [d, c], st, rfl, hMb.sol g5.sol, O.toOk, .cons hdl (.one hcl), by simp, hiN, fun H6 e6 => ⟨_, _, rfl, ?_⟩⟩
          have g6 := g5.trans (.of e6)
          have hl6 := e6 _ _ (e5 _ _ hl4)
          refine ⟨_, rfl, _, rfl, rfl, _, rfl, ?_⟩
          refine ite2 (fun hne => ?_) (fun heq => ?_)
          · have hne := ne_of_dec hne
            refine ⟨_, rfl, a, dx, _, rfl, g6.sol _ _ hw1 trivial, fWk_no _ _ _ _ (by decide +kernel), _, rfl, _, rfl, a, M, M.run st [c, d], M.run st [d, c], rfl, g6.tab hT, hW.sol g6.sol, O, O.run_lt hiN _, O.run_lt hiN _, hne, fun H7 p7 u g7 hu1 hu2 hu3 hp7 => ?_⟩
            have g27 := g6.trans g7
            refine ⟨p7, _, rfl, .inl (.inl hp7), rfl, _, _, rfl, _, _, rfl, rfl, ?_⟩
            obtain ⟨w0, hw0⟩ : ∃ w0, ws[st]? = some w0 := ⟨_, List.getElem?_eq_getElem (by rw [hwl]; exact hiN)⟩
            obtain ⟨b1, b2, b3⟩ := hws st w0 hw0
            refine ⟨_, rfl, a, CW, dx, _, _, rfl, g27.sol _ _ hw1 trivial, T.clCW, T.nCW_first_words, fWk_fw _ _ _ _, _, rfl, fw, _, _, _, rfl, rfl, .of (g27.sol _ _ hfw trivial), atI_nat (vs_get hw0), by show 2 ≤ 2 ^ 24; decide, fun t8 ht8 => ?_⟩
            have g28 := g27.trans (.of (same_new ht8 : Same H7 (upd H7 t8 (.tup [.str "counts", VS w0]))))
            have ht8' : upd H7 t8 (.tup [.str "counts", VS w0]) t8 = some (.tup [.str "counts", VS w0]) := upd_same
            generalize upd H7 t8 (.tup [.str "counts", VS w0]) = H8 at g28 ht8'
            -- the pair of letters, as the first ends
            have fin : ∀ x y : Nat, x ∈ M.ls → y ∈ M.ls → M.fin (M.run (M.run st [x, y]) u) = true → M.fin (M.run (M.run st [y, x]) u) = false → ∀ (H9 : Hp) (t9 : Addr), Gr (Tb D) H H9 → H9 t8 = some (.tup [.str "counts", VS w0]) → H9 t9 = some (.tup [VS [x], VS [y]]) →
                rCatA K (.ref t8) (.ref t9) H9 fun v H10 => tTup (tCons (tVar 6) tNil) [some (.ref a), some (vi st), some (VS [c]), some (VS [d]), some (vi (M.run st [c, d])), some (vi (M.run st [d, c])), some (VS u), some (.bl (M.fin (M.run (M.run st [c, d]) u)))] H10 fun y H11 => rCatA K v y H11 Q := by
              intro x y hx hy f1 f2 H9 t9 g9 h8 h9
              refine ⟨t8, t9, _, _, rfl, rfl, .inl (.inl h8), .inl (.inl h9), by show 2 + 2 ≤ 2 ^ 24; decide, (fun e => by cases e), (fun _ e => by cases e), fun _ _ p10 hp10 => ?_⟩
              have g10 := g9.trans (.of (same_new hp10 : Same H9 (upd H9 p10 (.tup ([.str "counts", VS w0] ++ [VS [x], VS [y]])))))
              have hp10' : upd H9 p10 (.tup ([.str "counts", VS w0] ++ [VS [x], VS [y]])) p10 = some (.tup [.str "counts", VS w0, VS [x], VS [y]]) := upd_same
              generalize upd H9 p10 (.tup ([.str "counts", VS w0] ++ [VS [x], VS [y]])) = H10 at g10 hp10'
              refine ⟨_, rfl, by show 1 ≤ 2 ^ 24; decide, fun p11 hp11 => ?_⟩
              have g11 := g10.trans (.of (same_new hp11 : Same H10 (upd H10 p11 (.tup [VS u]))))
              have hp11' : upd H10 p11 (.tup [VS u]) p11 = some (.tup [VS u]) := upd_same
              have hp10'' : upd H10 p11 (.tup [VS u]) p10 = some (.tup [.str "counts", VS w0, VS [x], VS [y]]) := by rw [upd_ne (ne_of_none hp10' hp11)]; exact hp10'
              generalize upd H10 p11 (.tup [VS u]) = H11 at g11 hp11' hp10''
              refine ⟨p10, p11, _, _, rfl, rfl, .inl (.inl hp10''), .inl (.inl hp11'), by show 4 + 1 ≤ 2 ^ 24; decide, (fun e => by cases e), (fun _ e => by cases e), fun _ _ p12 hp12 => ?_⟩
              obtain ⟨k1, k2⟩ := O.counts_some (u := w0) (v := u) b1 hx hy hu1 (by rw [b2]; exact f1) (by rw [b2]; exact f2)
              exact q2 _ p12 (.counts w0 [x] [y] u) (g11.trans (.of (same_new hp12))) ⟨k1, rfl, ⟨.of b1 b3 (by omega), ⟨.one hx, by simp⟩, by simp, ⟨.one hy, by simp⟩, by simp, .of hu1 hu2 (by omega)⟩, k2⟩ upd_same
            refine ⟨_, rfl, _, rfl, ?_⟩
            cases hf : M.fin (M.run (M.run st [c, d]) u) with
            | true =>
              rw [hf] at hu3
              refine ⟨_, rfl, _, rfl, by show 2 ≤ 2 ^ 24; decide, fun t9 ht9 => ?_⟩
              have := fin c d hcl hdl hf hu3 (upd H8 t9 (.tup [VS [c], VS [d]])) t9 (g28.trans (.of (same_new ht9))) (by rw [upd_ne (ne_of_none ht8' ht9)]; exact ht8') upd_same
              rw [hf] at this
              exact this
            | false =>
              rw [hf] at hu3
              refine ⟨_, rfl, _, rfl, by show 2 ≤ 2 ^ 24; decide, fun t9 ht9 => ?_⟩
              have := fin d c hdl hcl hu3 hf (upd H8 t9 (.tup [VS [d], VS [c]])) t9 (g28.trans (.of (same_new ht9))) (by rw [upd_ne (ne_of_none ht8' ht9)]; exact ht8') upd_same
              rw [hf] at this
              exact this
          · have heq := eq_of_dec heq
            refine ⟨_, _, _, _, _, rfl, g6, hl6, fun m y hm hy => ?_⟩
            by_cases hmk : m < k
            · exact hno4 m y hmk hy
            · obtain rfl : m = k := by omega
              rw [hdu] at hy; cases hy; exact heq
        · rintro σ H4 ⟨v3, v4, v5, v6, v7, rfl, g4, hl4, hno4⟩
          refine ⟨_, _, _, _, _, _, rfl, g4, hl4, fun k x y hk hx hy => ?_⟩
          by_cases hkj : k < j
          · exact hno3 k x y hkj hx hy
          · obtain rfl : k = j := by omega
            rw [hcu] at hx; cases hx
            obtain ⟨m, hm⟩ := List.mem_iff_getElem?.mp hy
            refine hno4 m y ?_ hm
            show m < M.ls.toArray.size
            simpa using (List.getElem?_eq_some_iff.mp hm).1
      · rintro σ H3 ⟨v2, v3, v4, v5, v6, v7, rfl, g3, hl3, hno3⟩
        refine ⟨_, _, _, _, _, _, _, rfl, g3, hl3, fun s x y hs hx1 hy1 => ?_⟩
        by_cases hsi : s < st
        · exact hno s x y hsi hx1 hy1
        · obtain rfl : s = st := by omega
          obtain ⟨m, hm⟩ := List.mem_iff_getElem?.mp hx1
          refine hno3 m x y ?_ hm hy1
          show m < M.ls.toArray.size
          simpa using (List.getElem?_eq_some_iff.mp hm).1
    · rintro σ H2 ⟨v1, v2, v3, v4, v5, v6, v7, rfl, g2, hl2, hno⟩
      rw [nis_len, List.length_range] at hno
      exact q1 _ g2 (O.counts_none hno)
end
end Sw
/-! falling. -/
namespace Sw
open PySem PySem.Spec PyProof.Rows L2 LamX NdefX
def forB : Stmt → List Stmt
  | .For _ _ b _ _ => b
  | _ => []
section
variable {P : Program} {w : World} {K : PySem.W.Frag} {mg : Str → Option Value} {base : Heap} {CM CA CW CG : Addr} {D : Cds}
abbrev e_lam_fall : Expr := argE (argE (retE ((forB ((forB ((defBody s_falling_swing).getD 0 (.Pass ⟨0, 0, 0, 0⟩))).getD 0 (.Pass ⟨0, 0, 0, 0⟩))).getD 1 (.Pass ⟨0, 0, 0, 0⟩))) 0) 1
theorem ns_lam_fall : NScope ["some", "stand"] ["some"] ["stand"] (lamS e_lam_fall) := ⟨rfl, rfl, rfl, by decide +kernel, rfl, by decide +kernel, by decide +kernel, by decide +kernel, by decide +kernel⟩
def swFal : List (Option V) → Sp := fun ws vs H Q _ => ∃ (s : Nat) (t : Addr) (m : List Nat), ws = [some (vi s)] ∧ vs = [.ref t] ∧ H t = some (.tup (nis m)) ∧ ∀ H', Same H H' → Q (.bl (decide (m = [s]))) H'
theorem lok_fall {f : Addr} {F : NF} {e : Expr} (h1 : F.scope = lamS e_lam_fall) (h2 : F.params = lamP e_lam_fall) (h3 : e = lamB e_lam_fall) : LOk P w K mg base 1 f F e ["some"] ["stand"] swFal := by
  obtain ⟨nm, qu, pa, bo, sc, cl, c⟩ := F
  subst h1; subst h2; subst h3
  refine lok_of ns_lam_fall (fun pm ctv us hl => match us, hl with | [_], _ => rfl) (fun ws vs H Q E h => ?_) (fun A outer s H vs ws Q E hr _ h => ?_)
  · obtain ⟨p, t, l, _, rfl, _⟩ := h; rfl
  · obtain ⟨st, t, m, rfl, rfl, ht, q⟩ := h
    refine ⟨_, ((pe_cmpR (op_eqD hr.units) (pv 0) (pe_tup (pa_cons (pv 1) pa_nil)) (nomark _))), ?_⟩
    refine ⟨_, rfl, _, rfl, by show 1 ≤ 2 ^ 24; decide, fun t2 ht2 => eq_tn (l := m) (m := [st]) (.inl (.inl ((same_new ht2) _ _ ht))) (.inl (.inl upd_same)) (q _ (same_new ht2))⟩
theorem ok_falling_swing (T : Tx K mg CM CA CW CG) (Y : Ty K mg base CW D) : Pr P w K mg base CX0 5 "falling_swing" P_falling_swing [] (spSw CM CW D .falling) := by
  refine Y.fal.pr sc_falling_swing (fun _ _ _ _ _ _ us hl => match us, hl with | [_], _ => rfl) (fun vs H Q E h => ?_) (fun TB f A outer s H vs Q E hr h => ?_)
  · obtain ⟨a, M, rfl, _⟩ := h; rfl
  · obtain ⟨a, M, rfl, hT, hW, O, q1, q2⟩ := h
    have hn60 := O.le
    have m1 : (D.fal.2, nmLam "falling_swing") ∈ Tb D := .tail _ (.tail _ (.tail _ (.tail _ (.tail _ (.tail _ (.tail _ (.head _)))))))
    obtain ⟨dx, b, fw, p, hw1, hMb, ⟨ws, hfw, hwl, hws⟩, hst⟩ := id hW
    obtain ⟨dy, pb, hb1, _⟩ := id hMb
    refine ⟨_, (PSs.nox (pss_cons (ps_for PassesOwn.never rfl (pi_list (pe_methP0 (pv 0) T.clCW (ok_Walks_all_stands T) (hr.mono (by decide)) pass0)) (pg_name (i := 6) sc_falling_swing.nd rfl (Or.inr rfl) (Or.inl rfl))
 (pss_one (ps_for PassesOwn.never rfl (pi_str (pe_fld (pv 0) rfl)) (pg_name (i := 1) sc_falling_swing.nd rfl (Or.inl rfl) (Or.inl rfl))
 (pss_cons (ps_set (i := 2) sc_falling_swing.nd rfl (Or.inl rfl) (pe_methK (pe_fld (pv 0) rfl) T.clCM (ok_behind T).2 (hr.mono (by decide)) pass0 (pa_cons (pv 1) pa_nil) (pk_cons (pv 6) pk_nil)))
 (pss_cons (ps_set (i := 3) sc_falling_swing.nd rfl (Or.inl rfl) (pe_ifExp (pt_cmpR op_eq (pv 2) (pv 6) (nomark _)) pe_non (pe_methDP ["stand"] [6] (defScope s_falling_swing) (pv 0) T.clCW (ok_Walks_word_from T) (hr.mono (by decide)) rfl (by decide +kernel) (fun _ _ => rfl) rfl (pa_cons (pe_tup (pa_cons (pv 2) pa_nil)) (pa_cons (pe_lamN (T := Tb D) ["stand"] TB rfl m1 rfl (Y.hu m1) (by kernel_rfl)) pa_nil)))))
 (pss_one (ps_if (pt_cmpR op_notN (pv 3) pe_non (nomark _))
 (pss_cons (ps_asg (pe_methP (pv 0) T.clCW (ok_Walks_parting T Y) (hr.mono (by decide)) pass0 (pa_cons (pv 6) (pa_cons (pv 2) pa_nil))) (pg_tup rfl (pgs_cons (pg_name (i := 4) sc_falling_swing.nd rfl (Or.inl rfl) (Or.inl rfl)) (pgs_cons (pg_name (i := 5) sc_falling_swing.nd rfl (Or.inl rfl) (Or.inl rfl)) pgs_nil))))
 (pss_one (ps_ret (pe_tup (pa_cons pe_str (pa_cons (pv 5) (pa_cons (pe_ix ix_list (pe_fld (pv 0) rfl) (pv 6) (fun _ _ => rfl)) (pa_cons (pv 1) (pa_cons (pv 3) (pa_cons (pv 4) pa_nil))))))))))
 pss_nil)))))))
 (pss_one (ps_ret pe_non)))), ?_⟩
    refine ⟨_, rfl, a, dx, _, rfl, hw1, fWk_no _ _ _ _ (by decide +kernel), a, M, rfl, hW, O.toOk, fun H1 l e1 nl hl => ?_⟩
    refine ⟨l, rfl, ⟨_, .of hl⟩, for_list (K := K) (a := l) (xs := nis (List.range M.n)) (fun i σ H2 => ∃ v1 v2 v3 v4 v5 v6, σ = [some (.ref a), v1, v2, v3, v4, v5, v6] ∧ Gr (Tb D) H H2 ∧ H2 l = some (.lst (nis (List.range M.n))) ∧ ∀ s x, s < i → x ∈ M.ls → M.go s x ≠ s → ∀ y, Ov M.ls y → y ≠ [] → M.run (M.go s x) y ≠ s)
      ⟨_, _, _, _, _, _, rfl, .of e1, hl, fun s x h => absurd h (Nat.not_lt_zero _)⟩ (fun i σ H2 _ h => by obtain ⟨_, _, _, _, _, _, _, _, h, _⟩ := h; exact .of h) ?_ ?_⟩
    · rintro i x σ H2 hx ⟨v1, v2, v3, v4, v5, v6, rfl, g2, hl2, hno⟩
      obtain ⟨st, hst0, rfl⟩ := nis_inv hx
      have hiN : i < M.n := by have := (List.getElem?_eq_some_iff.mp hst0).1; simpa using this
      obtain rfl : st = i := by rw [List.getElem?_range hiN] at hst0; exact (Option.some.inj hst0).symm
      refine ⟨_, rfl, a, CW, dx, _, _, rfl, g2.sol _ _ hw1 trivial, T.clCW, T.nCW_signs, fWk_sg _ _ _ _, _, rfl, for_it (walk_str (z := S M.ls)) (fun j σ H3 => ∃ v1 v2 v3 v4 v5, σ = [some (.ref a), v1, v2, v3, v4, v5, some (vi st)] ∧ Gr (Tb D) H H3 ∧ H3 l = some (.lst (nis (List.range M.n))) ∧ ∀ (k x : Nat), k < j → M.ls[k]? = some x → M.go st x ≠ st → ∀ y, Ov M.ls y → y ≠ [] → M.run (M.go st x) y ≠ st)
        ⟨_, _, _, _, _, rfl, g2, hl2, fun k x h => absurd h (Nat.not_lt_zero _)⟩ (fun _ _ _ _ _ => trivial) ?_ ?_⟩
      · rintro j x σ H3 H3' hj ⟨v1, v2, v3, v4, v5, rfl, g3, hl3, hno3⟩ ⟨rfl, c, hc, rfl⟩
        have hcu := S_get.mp hc
        have hcl := List.mem_of_getElem? hcu
        have hgN := O.go_lt st c
        refine ⟨_, rfl, a, CW, dx, _, _, rfl, g3.sol _ _ hw1 trivial, T.clCW, T.nCW_base, fWk_base _ _ _ _, b, dy, _, rfl, g3.sol _ _ hb1 trivial, fM_no _ _ (by decide +kernel) (by decide +kernel), _, rfl, _, rfl, rfl, rfl, b, M, [c], st, rfl, hMb.sol g3.sol, O.toOk, .one hcl, by simp, hiN, fun H4 e4 => ?_⟩
        have g4 := g3.trans (.of e4)
        have hl4 := e4 _ _ hl3
        show tSeq _ _ _ ([_, _, some (vi (M.go st c)), _, _, _, _] : L2.St) H4
        refine ⟨_, rfl, _, rfl, rfl, _, rfl, ?_⟩
        refine ite2 (fun he => ?_) (fun hne => ?_)
        · have he' : M.go st c = st := by have := of_decide_eq_true he; have := V.int.inj this; omega
          refine ⟨_, rfl, rfl, _, rfl, ?_⟩
          refine ⟨_, _, _, _, _, rfl, g4, hl4, fun k x hk hx hne => ?_⟩
          by_cases hkj : k < j
          · exact hno3 k x hkj hx hne
          · obtain rfl : k = j := by omega
            rw [hcu] at hx; cases hx; exact absurd he' hne
        · have hne' : M.go st c ≠ st := fun e => hne (by rw [e]; exact decide_eq_true rfl)
          refine ⟨_, rfl, a, dx, _, rfl, g4.sol _ _ hw1 trivial, fWk_no _ _ _ _ (by decide +kernel), _, rfl, by show 1 ≤ 2 ^ 24; decide, fun t ht => ?_⟩
          have e5 : Same H4 (upd H4 t (.tup (nis [M.go st c]))) := same_new ht
          have ht5 : upd H4 t (.tup (nis [M.go st c])) t = some (.tup (nis [M.go st c])) := upd_same
          have g5 := g4.trans (.of e5)
          show tLamN (Tb D) _ _ _ _ _ (upd H4 t (.tup (nis [M.go st c]))) _
          generalize upd H4 t (.tup (nis [M.go st c])) = H5 at e5 ht5 g5
          have hT5 := g5.tab hT
          refine ⟨hT5, fun f1 c1 H6 g6 nf1 ok1 hf1 hc1 => ⟨[vi st], rfl, fun Hl L => ?_⟩⟩
          have hT6 := g6.tab hT5
          have t1 := L.told ok1 rfl
          have htl : Hl t = some (.tup (nis [M.go st c])) := L.same _ _ (g6.sol _ _ ht5 trivial)
          have hWl : WalksAt CM CW Hl a M := (hW.sol (g5.trans g6).sol).sol (.of L.same)
          have C1 := (cb_lam (P := P) (w := w) (K := K) (mg := mg) (base := base) (lok_fall rfl rfl rfl) (L.same _ _ hf1) (L.same _ _ hc1) ok1 t1).mono (by decide : 1 ≤ 2)
          refine ⟨a, t, f1, M, [M.go st c], (fun m => decide (m = [st])), rfl, hWl, O, htl, by simp, fun x hx => by rw [List.mem_singleton.mp hx]; exact hgN, C1.imp ?_, fun H7 r e7 hr7 => ?_⟩
          · rintro vs H' Q' E' e ⟨t2, m, rfl, ht2, _, _, k⟩
            have tc := told_cells2 (P := P) (w := w) (h := base) (t1.keep e)
            exact ⟨st, t2, m, rfl, rfl, cut_sol tc _ _ ht2 trivial, fun H3 e3 => k _ (mix_same e3)⟩
          · have g7 := (g5.trans g6).trans (L.back (Gr.of (T := Tb D) e7) hT6)
            have hl7 := (L.back (Gr.of (T := Tb D) e7) hT6).sol _ _ (g6.sol _ _ (e5 _ _ hl4) trivial) trivial
            refine ⟨_, rfl, rfl, _, rfl, ?_⟩
            cases r with
            | none =>
              refine ⟨_, _, _, _, _, rfl, g7, hl7, fun k x hk hx hne y hy hy0 => ?_⟩
              by_cases hkj : k < j
              · exact hno3 k x hkj hx hne y hy hy0
              · obtain rfl : k = j := by omega
                rw [hcu] at hx; cases hx
                intro hz
                have := hr7 y hy hy0
                simp [mvs, hz] at this
            | some y =>
              obtain ⟨y1, y2, y3, y4⟩ := hr7
              have y5 : M.run (M.go st c) y = st := by simpa [mvs] using y4
              refine ⟨_, rfl, a, dx, _, rfl, g7.sol _ _ hw1 trivial, fWk_no _ _ _ _ (by decide +kernel), _, rfl, _, rfl, a, M, st, M.go st c, rfl, g7.tab hT, hW.sol g7.sol, O, hiN, hgN, fun e => hne' e.symm, fun H9 p9 u g9 hu1 hu2 hu3 hp9 => ?_⟩
              have g29 := g7.trans g9
              refine ⟨p9, _, rfl, .inl (.inl hp9), rfl, _, _, rfl, _, _, rfl, rfl, ?_⟩
              obtain ⟨w0, hw0⟩ : ∃ w0, ws[st]? = some w0 := ⟨_, List.getElem?_eq_getElem (by rw [hwl]; exact hiN)⟩
              obtain ⟨b1, b2, b3⟩ := hws st w0 hw0
              refine ⟨_, rfl, _, rfl, a, CW, dx, _, _, rfl, g29.sol _ _ hw1 trivial, T.clCW, T.nCW_first_words, fWk_fw _ _ _ _, _, rfl, fw, _, _, _, rfl, rfl, .of (g29.sol _ _ hfw trivial), atI_nat (vs_get hw0), _, rfl, _, rfl, _, rfl, by show 6 ≤ 2 ^ 24; decide, fun p hp => ?_⟩
              obtain ⟨k1, k2, _⟩ := O.fall_some (u := w0) (v := u) (b := M.fin (M.run st u)) b1 hcl y1 (by rw [b2]; exact hne') (by rw [b2]; exact y5) (by rw [b2]) (by rw [b2]; exact hu3)
              exact q2 _ p (.falling (M.fin (M.run st u)) w0 [c] y u) (g29.trans (.of (same_new hp))) ⟨k1, rfl, ⟨.of b1 b3 (by omega), ⟨.one hcl, by simp⟩, .of y1 y3 (by omega), y2, .of hu1 hu2 (by omega)⟩, k2⟩ upd_same
      · rintro σ H3 ⟨v1, v2, v3, v4, v5, rfl, g3, hl3, hno3⟩
        refine ⟨_, _, _, _, _, _, rfl, g3, hl3, fun s x hs hx1 => ?_⟩
        by_cases hsi : s < st
        · exact hno s x hsi hx1
        · obtain rfl : s = st := by omega
          obtain ⟨m, hm⟩ := List.mem_iff_getElem?.mp hx1
          refine hno3 m x ?_ hm
          show m < M.ls.toArray.size
          simpa using (List.getElem?_eq_some_iff.mp hm).1
    · rintro σ H2 ⟨v1, v2, v3, v4, v5, v6, rfl, g2, hl2, hno⟩
      rw [nis_len, List.length_range] at hno
      exact q1 _ g2 (O.fall_none hno)
end
end Sw
/-! stand_apart. -/
namespace Sw
open PySem PySem.Spec PyProof.Rows L2 LamX NdefX
section
variable {P : Program} {w : World} {K : PySem.W.Frag} {mg : Str → Option Value} {base : Heap} {CM CA CW CG : Addr} {D : Cds}
def spStandApart (CM CW : Addr) : Sp := fun vs H Q _ => ∃ (a : Addr) (M : Mc) (u v : Wd), vs = [.ref a, VS u, VS v] ∧ WalksAt CM CW H a M ∧ M.Ok ∧ Ov M.ls u ∧ Ov M.ls v ∧ u.length ≤ 20000 ∧ v.length ≤ 20000 ∧ tr M u ≠ tr M v ∧
  ∀ H' p t s, Same H H' → s < M.n → M.run s u ≠ M.run s v → H' p = some (.tup [vi s, .ref t]) → H' t = some (.tup [vi (M.run s u), vi (M.run s v)]) → Q (.ref p) H'
theorem ok_stand_apart (T : Tx K mg CM CA CW CG) : Pr P w K mg base CX0 5 "stand_apart" P_stand_apart [] (spStandApart CM CW) := by
  refine T.d_stand_apart.pr sc_stand_apart (fun _ _ _ _ _ _ us hl => match us, hl with | [_, _, _], _ => rfl) (fun vs H Q E h => ?_) (fun f cdv A outer s H vs Q E hr h => ?_)
  · obtain ⟨a, M, u, v, rfl, _⟩ := h; rfl
  · obtain ⟨a, M, u, v, rfl, hW, O, ou, ov1, ul, vl, hne, q⟩ := h
    have hn60 := O.le
    obtain ⟨dx, b, fw, p, hw1, hMb, _, _⟩ := id hW
    obtain ⟨dy, pb, hb1, _⟩ := id hMb
    refine ⟨_, (PSs.nox (pss_cons (ps_for PassesOwn.never rfl (pi_list (pe_methP0 (pv 0) T.clCW (ok_Walks_all_stands T) (hr.mono (by decide)) pass0)) (pg_name (i := 3) sc_stand_apart.nd rfl (Or.inl rfl) (Or.inl rfl))
 (pss_cons (ps_set (i := 4) sc_stand_apart.nd rfl (Or.inl rfl) (pe_tup (pa_cons (pe_methK (pe_fld (pv 0) rfl) T.clCM (ok_behind T).2 (hr.mono (by decide)) pass0 (pa_cons (pv 1) pa_nil) (pk_cons (pv 3) pk_nil)) (pa_cons (pe_methK (pe_fld (pv 0) rfl) T.clCM (ok_behind T).2 (hr.mono (by decide)) pass0 (pa_cons (pv 2) pa_nil) (pk_cons (pv 3) pk_nil)) pa_nil))))
 (pss_one (ps_if (pt_cmpR op_ne (pe_ix ix_tup (pv 4) pe_int (fun _ _ => rfl)) (pe_ix ix_tup (pv 4) pe_int (fun _ _ => rfl)) (nomark _))
 (pss_one (ps_ret (pe_tup (pa_cons (pv 3) (pa_cons (pv 4) pa_nil)))))
 pss_nil))))
 (pss_one (ps_ret pe_non)))), ?_⟩
    refine ⟨_, rfl, a, dx, _, rfl, hw1, fWk_no _ _ _ _ (by decide +kernel), a, M, rfl, hW, O, fun H1 l e1 nl hl => ?_⟩
    refine ⟨l, rfl, ⟨_, .of hl⟩, for_list (K := K) (a := l) (xs := nis (List.range M.n)) (fun i σ H2 => ∃ v3 v4, σ = [some (.ref a), some (VS u), some (VS v), v3, v4] ∧ Same H H2 ∧ H2 l = some (.lst (nis (List.range M.n))) ∧ ∀ s, s < i → M.run s u = M.run s v)
      ⟨_, _, rfl, e1, hl, fun s h => absurd h (Nat.not_lt_zero _)⟩ (fun i σ H2 _ h => by obtain ⟨_, _, _, _, h, _⟩ := h; exact .of h) ?_ ?_⟩
    · rintro i x σ H2 hx ⟨v3, v4, rfl, e2, hl2, hall⟩
      obtain ⟨st, hst0, rfl⟩ := nis_inv hx
      have hiN : i < M.n := by have := (List.getElem?_eq_some_iff.mp hst0).1; simpa using this
      obtain rfl : st = i := by rw [List.getElem?_range hiN] at hst0; exact (Option.some.inj hst0).symm
      refine ⟨_, rfl, a, CW, dx, _, _, rfl, e2 _ _ hw1, T.clCW, T.nCW_base, fWk_base _ _ _ _, b, dy, _, rfl, e2 _ _ hb1, fM_no _ _ (by decide +kernel) (by decide +kernel), _, rfl, _, rfl, rfl, rfl, b, M, u, st, rfl, hMb.sol (.of e2), O, ou, ul, hiN, fun H3 e3 => ?_⟩
      have e23 : Same H H3 := fun b o z => e3 b o (e2 b o z)
      refine ⟨_, rfl, a, CW, dx, _, _, rfl, e23 _ _ hw1, T.clCW, T.nCW_base, fWk_base _ _ _ _, b, dy, _, rfl, e23 _ _ hb1, fM_no _ _ (by decide +kernel) (by decide +kernel), _, rfl, _, rfl, rfl, rfl, b, M, v, st, rfl, hMb.sol (.of e23), O, ov1, vl, hiN, fun H4 e4 => ?_⟩
      have e24 : Same H H4 := fun b o z => e4 b o (e23 b o z)
      have hl4 := e4 _ _ (e3 _ _ hl2)
      refine ⟨by show 2 ≤ 2 ^ 24; decide, fun t ht => ?_⟩
      have e5 : Same H4 (upd H4 t (.tup [vi (M.run st u), vi (M.run st v)])) := same_new ht
      have ht5 : upd H4 t (.tup [vi (M.run st u), vi (M.run st v)]) t = some (.tup [vi (M.run st u), vi (M.run st v)]) := upd_same
      show gName _ _ _ (upd H4 t (.tup [vi (M.run st u), vi (M.run st v)])) _
      generalize upd H4 t (.tup [vi (M.run st u), vi (M.run st v)]) = H5 at e5 ht5
      have e25 : Same H H5 := fun b o z => e5 b o (e24 b o z)
      refine ⟨_, rfl, _, _, 0, _, rfl, rfl, .inl (.inl ht5), atI_nat (j := 0) rfl, _, rfl, _, _, 1, _, rfl, rfl, .inl (.inl ht5), atI_nat (j := 1) rfl, rfl, _, rfl, ?_⟩
      by_cases hrun : M.run st u = M.run st v
      · rw [decide_eq_true (show vi (M.run st u) = vi (M.run st v) by rw [hrun])]
        refine ⟨_, _, rfl, e25, e5 _ _ hl4, fun s hs => ?_⟩
        by_cases hsi : s < st
        · exact hall s hsi
        · obtain rfl : s = st := by omega
          exact hrun
      · rw [decide_eq_false (show ¬ (vi (M.run st u) = vi (M.run st v)) from fun e => hrun (by injection e; omega))]
        refine ⟨_, rfl, _, rfl, by show 2 ≤ 2 ^ 24; decide, fun p2 hp2 => ?_⟩
        exact q _ p2 t st (fun b o z => (same_new hp2) b o (e25 b o z)) hiN hrun upd_same (by rw [upd_ne (ne_of_none ht5 hp2)]; exact ht5)
    · rintro σ H2 ⟨v3, v4, rfl, e2, hl2, hall⟩
      rw [nis_len, List.length_range] at hall
      exact absurd (tr_eq.mpr hall) hne
end
end Sw
/-! subwords_swing. -/
namespace Sw
open PySem PySem.Spec PyProof.Rows L2 LamX NdefX
/-- as spSw, for a search that may be refused -/
def spSwG (CM CW CG : Addr) (D : Cds) (k : Kd) : Sp := fun vs H Q E => ∃ (a : Addr) (M : Mc), vs = [.ref a] ∧ TabsN (Tb D) H ∧ WalksAt CM CW H a M ∧ M.Min ∧
  (∀ H', Gr (Tb D) H H' → ¬ Great M.ls M.lang → ¬ Cond M.ls M.lang k → Q .non H') ∧ (∀ H' p g, Gr (Tb D) H H' → ¬ Great M.ls M.lang → Fnd M.ls M.lang k g → H' p = some (.tup (sgV g)) → Q (.ref p) H') ∧
  (∀ H', Gr (Tb D) H H' → Great M.ls M.lang → E (.ref CG) none H')
theorem tr_iff {M M' : Mc} (O : M.Min) (O' : M'.Min) (hls : M'.ls = M.ls) (tw : Twin M.ls false M.lang M'.lang) {p q : Wd} (hp : Ov M.ls p) (hq : Ov M.ls q) : tr M' p = tr M' q ↔ tr M p = tr M q := by
  rw [← O.sy_tr hp hq, ← O'.sy_tr (hls ▸ hp) (hls ▸ hq), hls]
  exact (tw.sy hp hq).symm
section
variable {P : Program} {w : World} {K : PySem.W.Frag} {mg : Str → Option Value} {base : Heap} {CM CA CW CG : Addr} {D : Cds}
theorem ok_subwords_swing (T : Tx K mg CM CA CW CG) (Y : Ty K mg base CW D) (G : Tg K mg CG) : Pr P w K mg base (CX P w) 9 "subwords_swing" P_subwords_swing [] (spSwG CM CW CG D .subwords) := by
  refine T.d_subwords_swing.pr sc_subwords_swing (fun _ _ _ _ _ _ us hl => match us, hl with | [_], _ => rfl) (fun vs H Q E h => ?_) (fun f cdv A outer s H vs Q E hr h => ?_)
  · obtain ⟨a, M, rfl, _⟩ := h; rfl
  · obtain ⟨a, M, rfl, hT, hW, O, q1, q2, q3⟩ := h
    have hn60 := O.le
    obtain ⟨dx, b, fw, p, hw1, hMb, ⟨ws, hfw, hwl, hws⟩, hst⟩ := id hW
    refine ⟨_, (pss_cons (ps_set (i := 1) sc_subwords_swing.nd rfl (Or.inl rfl) (pe_makeP T.mkCA T.kpCA (ok_Algebra_init T Y G) (hr.mono (by decide)) rfl T.mgCA (passes_call (takes_of rfl rfl rfl rfl) (fun _ _ _ _ h => h)) (pa_cons (pe_fld (pv 0) rfl) pa_nil)))
 (pss_cons (ps_set (i := 2) sc_subwords_swing.nd rfl (Or.inl rfl) (pe_callP (ok_falling_swing T Y) (hr.mono (by decide)) rfl pass0 (pa_cons (pv 0) pa_nil)))
 (pss_cons (ps_if (pt_cmpR op_notN (pv 2) pe_non (nomark _))
 (pss_one (ps_ret (pe_op op_catA (pe_tup (pa_cons pe_str (pa_cons pe_str pa_nil))) (pe_slice sl_tup (pv 2) (po_some pe_int) po_none))))
 pss_nil)
 (pss_cons (ps_set (i := 3) sc_subwords_swing.nd rfl (Or.inl rfl) (pe_callP (ok_led_ahead T) (hr.mono (by decide)) rfl pass0 (pa_cons (pv 1) pa_nil)))
 (pss_cons (ps_for (passes_of rfl) rfl (pi_list (pe_callP (ok_on_rounds T) (hr.mono (by decide)) rfl pass0 (pa_cons (pv 3) pa_nil))) (pg_name (i := 4) sc_subwords_swing.nd rfl (Or.inl rfl) (Or.inl rfl))
 (pss_cons (ps_set (i := 5) sc_subwords_swing.nd rfl (Or.inl rfl) (pe_ix ix_list (pe_methP0 (pv 1) T.clCA (ok_Algebra_words T) (hr.mono (by decide)) pass0) (pv 4) (fun _ _ => rfl)))
 (pss_one (ps_for (passes_of rfl) rfl (pi_zip2 rfl T.z_zip (pa_cons (pe_fld (pv 0) rfl) (pa_cons (pe_ix ix_list (pv 3) (pv 4) (fun _ _ => rfl)) pa_nil))) (pg_tup rfl (pgs_cons (pg_name (i := 6) sc_subwords_swing.nd rfl (Or.inl rfl) (Or.inl rfl)) (pgs_cons (pg_name (i := 7) sc_subwords_swing.nd rfl (Or.inl rfl) (Or.inl rfl)) pgs_nil)))
 (pss_cons (ps_set (i := 8) sc_subwords_swing.nd rfl (Or.inl rfl) (pe_ifExp (pt_cmpR op_eq (pv 7) (pv 4) (nomark _)) pe_non (pe_callP (ok_word_ahead T) (hr.mono (by decide)) rfl pass0 (pa_cons (pe_fld (pv 0) rfl) (pa_cons (pv 3) (pa_cons (pv 7) (pa_cons (pv 4) pa_nil)))))))
 (pss_one (ps_if (pt_cmpR op_notN (pv 8) pe_non (nomark _))
 (pss_cons (ps_asg (pe_callP (ok_stand_apart T) (hr.mono (by decide)) rfl pass0 (pa_cons (pv 0) (pa_cons (pv 5) (pa_cons (pe_op op_add_str (pv 6) (pv 5)) pa_nil)))) (pg_tup rfl (pgs_cons (pg_name (i := 9) sc_subwords_swing.nd rfl (Or.inl rfl) (Or.inl rfl)) (pgs_cons (pg_tup rfl (pgs_cons (pg_name (i := 10) sc_subwords_swing.nd rfl (Or.inl rfl) (Or.inl rfl)) (pgs_cons (pg_name (i := 11) sc_subwords_swing.nd rfl (Or.inl rfl) (Or.inl rfl)) pgs_nil))) pgs_nil))))
 (pss_cons (ps_asg (pe_methP (pv 0) T.clCW (ok_Walks_parting T Y) (hr.mono (by decide)) pass0 (pa_cons (pv 10) (pa_cons (pv 11) pa_nil))) (pg_tup rfl (pgs_cons (pg_name (i := 12) sc_subwords_swing.nd rfl (Or.inl rfl) (Or.inl rfl)) (pgs_cons (pg_name (i := 13) sc_subwords_swing.nd rfl (Or.inl rfl) (Or.inl rfl)) pgs_nil))))
 (pss_one (ps_ret (pe_tup (pa_cons pe_str (pa_cons pe_str (pa_cons (pv 13) (pa_cons (pe_ix ix_list (pe_fld (pv 0) rfl) (pv 9) (fun _ _ => rfl)) (pa_cons (pv 8) (pa_cons (pv 6) (pa_cons (pe_op op_add_str (pv 5) (pv 12)) pa_nil))))))))))))
 pss_nil)))))))
 (pss_one (ps_ret pe_non))))))), ?_⟩
    refine ⟨_, rfl, a, CW, dx, _, _, rfl, hw1, T.clCW, T.nCW_base, fWk_base _ _ _ _, ?_⟩
    refine fun A0 dA hA0 hdA hne0 => ?_
    have eM : Same H (upd (upd H dA (.own A0)) A0 (.ins CA dA [])) := fun c o z => by
      rw [upd_ne (ne_of_none z hA0), upd_ne (ne_of_none z hdA)]; exact z
    have hAM : upd (upd H dA (.own A0)) A0 (.ins CA dA []) A0 = some (.ins CA dA []) := upd_same
    generalize upd (upd H dA (.own A0)) A0 (.ins CA dA []) = HM at eM hAM
    refine ⟨A0, b, dA, M, rfl, hAM, hT.ext eM, hMb.sol (.of eM), O.toOk, fun H1 M' ds wls tb m1 m2 m3 m4 hAl hAD hG => ⟨rfl, ?_⟩, fun hgr H1 hG => q3 _ (hG H (.of eM) hA0) hgr⟩
    have g1 := hG H (.of eM) hA0
    have tw : Twin M.ls false M.lang M'.lang := fun u hu => by rw [m4 u hu]; cases M.lang u <;> rfl
    have hng : ¬ Great M.ls M.lang := fun hgr => hAD.not_great m1 (m2 ▸ tw.great hgr)
    -- found = falling_swing(walks)
    refine ⟨_, rfl, a, M, rfl, g1.tab hT, hW.sol g1.sol, O, fun H2 g2 hnf => ?_, fun H2 p2 g g2 hfnd hp2 => ?_⟩
    · refine ⟨_, rfl, rfl, _, rfl, ?_⟩
      have g12 := g1.trans g2
      have hAl2 := hAl.sol g2.sol
      have O' := m1
      refine ⟨_, rfl, A0, M', ds, wls, tb, rfl, hAl2, hAD, m1.toOk, fun H3 pl ld e3 hLd hLA => ?_⟩
      have g13 := g12.trans (.of e3)
      have LO := hLd.ok hAD.p m1.toOk
      have LO2 : LdOk M.ls ld := m2 ▸ LO
      have hldw : ∀ {i : Nat} {p x : Wd}, ds[i]? = some (tr M' p) → Ov M.ls x → ds[ldw M.ls ld i x]? = some (tr M' (x ++ p)) := fun {i p x} h1 h2 => m2 ▸ (hLd.ldw hAD.p m1.toOk h1 x (m2.symm ▸ h2))
      have h200 : ld.length ≤ 200 := by rw [hLd.1]; exact hAD.few
      refine ⟨_, rfl, pl, ld, rfl, hLA, h200, fun r hr => by rw [(LO.row r hr).1, m2]; exact O.lle, fun H4 q out e4 nq hq hout hcov => ?_⟩
      have g14 := g13.trans (.of e4)
      refine ⟨q, rfl, ⟨_, .of hq⟩, for_list (K := K) (a := q) (xs := nis out) (fun k σ H5 => ∃ v4 v5 v6 v7 v8 v9 v10 v11 v12 v13, σ = [some (.ref a), some (.ref A0), some .non, some (.ref pl), v4, v5, v6, v7, v8, v9, v10, v11, v12, v13] ∧ Gr (Tb D) H4 H5 ∧ ∀ (k' i kk c j : Nat) (r : List Nat), k' < k → out[k']? = some i → M.ls[kk]? = some c → ld[i]? = some r → r[kk]? = some j → j = i ∨ ∀ x, Ov M.ls x → x ≠ [] → ldw M.ls ld j x ≠ i)
        ⟨_, _, _, _, _, _, _, _, _, _, rfl, Gr.refl, fun k' i kk c j r h => absurd h (Nat.not_lt_zero _)⟩ (fun k σ H5 _ h => by obtain ⟨_, _, _, _, _, _, _, _, _, _, _, h, _⟩ := h; exact .of (h.sol _ _ hq trivial)) ?_ ?_⟩
      · rintro k x σ H5 hx ⟨v4, v5, v6, v7, v8, v9, v10, v11, v12, v13, rfl, g5, hno⟩
        obtain ⟨i, hi, rfl⟩ := nis_inv hx
        have hil := hout i (List.mem_of_getElem? hi)
        obtain ⟨wi, hwi, owi, wil, hdi⟩ := hAD.p.at (show i < ds.length by rw [← hLd.1]; exact hil)
        rw [m2] at owi
        have g15 := g14.trans g5
        have hAl5 := hAl.sol ((g2.trans (.of e3)).trans ((Gr.of e4).trans g5)).sol
        obtain ⟨dx5, b5, pd5, pw5, pn5, pt5, F5⟩ := id hAl5
        refine ⟨_, rfl, A0, dx5, _, rfl, F5.i, fA_no (by decide +kernel), A0, M', ds, wls, tb, rfl, hAl5, fun H6 pw e6 npw hpw => ⟨_, rfl, pw, _, _, _, rfl, rfl, .of hpw, atI_nat (vs_get hwi), ?_⟩⟩
        have g6 := g5.trans (.of e6)
        have g16 := g15.trans (.of e6)
        have hrow := List.getElem?_eq_getElem hil
        generalize ld[i] = row at hrow
        obtain ⟨hrl, hrx⟩ := LO.row row (List.mem_of_getElem? hrow)
        rw [m2] at hrl
        obtain ⟨las, hpl6, hls6⟩ := hLA.sol ((Gr.of e4).trans g6).sol
        obtain ⟨ar, har, hrw6⟩ := hls6.get hrow
        refine ⟨_, rfl, a, CW, dx, _, _, rfl, g16.sol _ _ hw1 trivial, T.clCW, T.nCW_signs, fWk_sg _ _ _ _, _, rfl, _, rfl, pl, _, _, _, rfl, rfl, .of hpl6, atI_nat (refs_get har), .txt (S M.ls), .lst ar, _, _, rfl, rfl, .of hrw6, ?_⟩
        refine for_it (walk_zip2 (c := .txt (S M.ls)) (d := .lst ar) (xs := sgn (S M.ls)) (ys := nis row)) (fun kk σ H7 => ∃ v6 v7 v8 v9 v10 v11 v12 v13, σ = [some (.ref a), some (.ref A0), some .non, some (.ref pl), some (vi i), some (VS wi), v6, v7, v8, v9, v10, v11, v12, v13] ∧ Gr (Tb D) H6 H7 ∧ ∀ (k2 j : Nat), k2 < kk → row[k2]? = some j → j = i ∨ ∀ x, Ov M.ls x → x ≠ [] → ldw M.ls ld j x ≠ i)
          ⟨_, _, _, _, _, _, _, _, rfl, Gr.refl, fun k2 j h => absurd h (Nat.not_lt_zero _)⟩ (fun kk σ H7 _ h => ?_) (fun kk x σ H7 H7' hk h hY => ?_) (fun σ H7 h => ?_)
        · obtain ⟨_, _, _, _, _, _, _, _, _, h, _⟩ := h
          exact ⟨rfl, .of (h.sol _ _ hrw6 trivial)⟩
        · obtain ⟨v6, v7, v8, v9, v10, v11, v12, v13, rfl, g7, hno7⟩ := h
          obtain ⟨T1, x1, y1, rfl, hT1, rfl, hx, hy⟩ := hY
          dsimp only at hx hy
          rw [sgn_S] at hx
          obtain ⟨c, hc, rfl⟩ : ∃ c, M.ls[kk]? = some c ∧ x1 = VS [c] := by
            rw [List.getElem?_map] at hx
            cases e : M.ls[kk]? with
            | none => rw [e] at hx; cases hx
            | some c => rw [e] at hx; exact ⟨c, rfl, (Option.some.inj hx).symm⟩
          obtain ⟨j, hj, rfl⟩ := nis_inv hy
          have hcl := List.mem_of_getElem? hc
          have hjl := hrx j (List.mem_of_getElem? hj)
          obtain ⟨r2, j2, s1, s2, s3, s4⟩ := hLd.step hAD.p m1.toOk hdi (m2.symm ▸ hc : M'.ls[kk]? = some c)
          rw [hrow] at s1; cases s1
          rw [hj] at s3; cases s3
          have e8 : Same H7 (upd H7 T1 (.tup [VS [c], vi j])) := same_new hT1
          have hT8 : upd H7 T1 (.tup [VS [c], vi j]) T1 = some (.tup [VS [c], vi j]) := upd_same
          generalize upd H7 T1 (.tup [VS [c], vi j]) = H8 at e8 hT8
          have g8 := g7.trans (.of e8)
          have g18 := g16.trans g8
          refine ⟨T1, _, rfl, .inl (.inl hT8), rfl, _, _, rfl, _, _, rfl, rfl, ?_⟩
          refine ⟨_, rfl, _, rfl, rfl, _, rfl, ?_⟩
          refine ite2 (fun he => ?_) (fun hne => ?_)
          · have he' : j = i := by have := of_decide_eq_true he; have := V.int.inj this; omega
            refine ⟨_, rfl, rfl, _, rfl, ?_⟩
            refine ⟨_, _, _, _, _, _, _, _, rfl, g8, fun k2 j3 h2 h3 => ?_⟩
            by_cases hkj : k2 < kk
            · exact hno7 k2 j3 hkj h3
            · have : k2 = kk := by omega
              subst this
              rw [hj] at h3; cases h3; exact .inl he'
          · have hji : j ≠ i := fun e => hne (by rw [e]; exact decide_eq_true rfl)
            have hLA8 := hLA.sol ((Gr.of (T := Tb D) e4).trans (g6.trans g8)).sol
            refine ⟨_, rfl, a, CW, dx, _, _, rfl, g18.sol _ _ hw1 trivial, T.clCW, T.nCW_signs, fWk_sg _ _ _ _, _, rfl, _, rfl, _, rfl, M.ls, pl, j, i, ld, rfl, LO2, hLA8, hjl, h200, fun c hc => O.abc c hc, fun H9 r e9 hr9 => ⟨_, rfl, rfl, _, rfl, ?_⟩⟩
            have g9 := g8.trans (.of e9)
            have g19 := g18.trans (.of e9)
            cases r with
            | none =>
              refine ⟨_, _, _, _, _, _, _, _, rfl, g9, fun k2 j3 h2 h3 => ?_⟩
              by_cases hkj : k2 < kk
              · exact hno7 k2 j3 hkj h3
              · have : k2 = kk := by omega
                subst this
                rw [hj] at h3; cases h3; exact .inr hr9
            | some x =>
              obtain ⟨x1, x2, x3, x4⟩ := hr9
              have ocw : Ov M.ls (c :: wi) := .cons hcl owi
              have hds200 := hAD.few
              have hil2 : i < ds.length := by rw [← hLd.1]; exact hil
              have hx5 : tr M' (x ++ (c :: wi)) = tr M' wi := by
                have := hldw s4 x1
                rw [x4, hdi] at this
                exact (Option.some.inj this).symm
              have hx6 := (tr_iff O O' m2 tw (x1.app ocw) owi).mp hx5
              have hne6 : tr M wi ≠ tr M (c :: wi) := fun e => by
                have := (tr_iff O O' m2 tw owi ocw).mpr e
                rw [← this] at s4
                exact hji (hAD.p.inj s4 hdi)
              refine ⟨_, rfl, _, rfl, _, rfl, _, rfl, _, _, rfl, rfl, by rw [S_len, S_len]; show 1 + _ ≤ 2 ^ 24; omega, a, M, wi, c :: wi, by rw [S_app]; rfl, hW.sol g19.sol, O.toOk, owi, ocw, by omega, by show wi.length + 1 ≤ _; omega, hne6, fun H10 p10 t10 st e10 hst hrun hp10 ht10 => ?_⟩
              have g20 := g19.trans (.of e10)
              refine ⟨p10, _, rfl, .inl (.inl hp10), rfl, _, _, rfl, _, _, rfl, ⟨t10, _, rfl, .inl (.inl ht10), rfl, _, _, rfl, _, _, rfl, rfl, rfl, ?_⟩⟩
              refine ⟨_, rfl, a, dx, _, rfl, g20.sol _ _ hw1 trivial, fWk_no _ _ _ _ (by decide +kernel), _, rfl, _, rfl, a, M, _, _, rfl, g20.tab hT, hW.sol g20.sol, O, O.run_lt hst _, O.run_lt hst _, hrun, fun H11 p11 u g11 hu1 hu2 hu3 hp11 => ?_⟩
              have g21 := g20.trans g11
              refine ⟨p11, _, rfl, .inl (.inl hp11), rfl, _, _, rfl, _, _, rfl, rfl, ?_⟩
              obtain ⟨w0, hw0⟩ : ∃ w0, ws[st]? = some w0 := ⟨_, List.getElem?_eq_getElem (by rw [hwl]; exact hst)⟩
              obtain ⟨b1, b2, b3⟩ := hws st w0 hw0
              refine ⟨_, rfl, _, rfl, a, CW, dx, _, _, rfl, g21.sol _ _ hw1 trivial, T.clCW, T.nCW_first_words, fWk_fw _ _ _ _, _, rfl, fw, _, _, _, rfl, rfl, .of (g21.sol _ _ hfw trivial), atI_nat (vs_get hw0), _, rfl, _, rfl, _, rfl, _, rfl, _, _, rfl, rfl, by rw [S_len, S_len]; show _ ≤ 2 ^ 24; omega, by show 7 ≤ 2 ^ 24; decide, fun p hp => ?_⟩
              obtain ⟨k1, k2⟩ := O.left_some (u := w0) (p := wi) (x := x) (v := u) (y := c) (b := M.fin (M.run (M.run st wi) u)) b1 owi x1 hcl (tr_eq.mp hx6) (by rw [b2]) (by rw [b2]; exact hu3)
              refine q2 _ p (.subwords false (M.fin (M.run (M.run st wi) u)) w0 x [c] (wi ++ u)) (g21.trans (.of (same_new hp))) hng ⟨.inr k1, rfl, ⟨.of b1 b3 (by omega), .of x1 x3 (by omega), ⟨.one hcl, by simp⟩, by simp, ⟨owi.app hu1, by rw [List.length_append]; omega⟩⟩, k2⟩ ?_
              rw [upd_same, S_app]; rfl
        · obtain ⟨v6, v7, v8, v9, v10, v11, v12, v13, rfl, g7, hno7⟩ := h
          have hsz : min (sgn (S M.ls)).length (nis row).length = M.ls.length := by rw [sgn_S, List.length_map, nis_len, hrl]; omega
          rw [hsz] at hno7
          refine ⟨_, _, _, _, _, _, _, _, _, _, rfl, g6.trans g7, fun k' i' kk c j r h1 h2 h3 h4 h5 => ?_⟩
          by_cases hkk : k' < k
          · exact hno k' i' kk c j r hkk h2 h3 h4 h5
          · have : k' = k := by omega
            subst this
            rw [hi] at h2; cases h2
            rw [hrow] at h4; cases h4
            exact hno7 kk j (List.getElem?_eq_some_iff.mp h3).1 h5
      · rintro σ H5 ⟨v4, v5, v6, v7, v8, v9, v10, v11, v12, v13, rfl, g5, hno⟩
        rw [nis_len] at hno
        refine q1 _ (g14.trans g5) hng fun hc => ?_
        rcases hc with hc | hc
        · exact hnf hc
        · obtain ⟨p', x, y, op, ox, oy, hn1, hn2⟩ := tw.left hc
          have op' : Ov M'.ls p' := m2.symm ▸ op
          have ox' : Ov M'.ls x := m2.symm ▸ ox
          have oy' : y ∈ M'.ls := m2.symm ▸ oy
          have n1 : tr M' (y :: p') ≠ tr M' p' := fun e => hn1 (m2 ▸ (O'.sy_tr (.cons oy' op') op').mpr e)
          have n2 : tr M' (x ++ (y :: p')) = tr M' p' := (O'.sy_tr (ox'.app (.cons oy' op')) op').mp (m2.symm ▸ hn2)
          obtain ⟨i, hi⟩ := hAD.elem op'
          obtain ⟨j, hj⟩ := hAD.elem (.cons oy' op')
          have hji : j ≠ i := fun e => n1 (by rw [e, hi] at hj; exact (Option.some.inj hj).symm)
          obtain ⟨Sx, hS1, hS2⟩ := hLd.round hAD.p m1.toOk ox' oy' hi hj hji n2
          have him := hcov Sx hS2 i hS1
          obtain ⟨k', hk'⟩ := List.mem_iff_getElem?.mp him
          obtain ⟨kk, hkk⟩ := List.mem_iff_getElem?.mp oy'
          obtain ⟨r, j2, s1, s2, s3, s4⟩ := hLd.step hAD.p m1.toOk hi hkk
          have e2 : j2 = j := hAD.p.inj s4 hj
          subst e2
          rcases hno k' i kk y j2 r (List.getElem?_eq_some_iff.mp hk').1 hk' (m2 ▸ hkk) s1 s3 with h | h
          · exact hji h
          · have hx0 : x ≠ [] := fun e => by
              rw [e] at n2
              exact n1 n2
            refine h x ox hx0 ?_
            have := hldw hj ox
            rw [n2] at this
            exact hAD.p.inj this hi
    · refine ⟨_, rfl, rfl, _, rfl, ?_⟩
      obtain ⟨c1, c2, c3, c4⟩ := hfnd
      cases g with
      | falling f u x y v =>
        refine ⟨by show 2 ≤ 2 ^ 24; decide, fun t ht => ?_⟩
        have e3 : Same H2 (upd H2 t (.tup [.str "subwords", .str "right"])) := same_new ht
        have ht3 : upd H2 t (.tup [.str "subwords", .str "right"]) t = some (.tup [.str "subwords", .str "right"]) := upd_same
        have hp3 := e3 _ _ hp2
        generalize upd H2 t (.tup [.str "subwords", .str "right"]) = H3 at e3 ht3 hp3
        refine ⟨_, rfl, 1, rfl, p2, _, rfl, .inl (.inl hp3), (fun z => absurd z.1 (by show ¬ (HT.sIx 6 0 (some 1) = 0); decide)), fun l hl => ?_⟩
        have hcut : cutV (sgV (.falling f u x y v)) (some 1) none = [.bl f, VS u, VS x, VS y, VS v] := rfl
        rw [hcut]
        have ht4 : upd H3 l (.tup [.bl f, VS u, VS x, VS y, VS v]) t = some (.tup [.str "subwords", .str "right"]) := by rw [upd_ne (ne_of_none ht3 hl)]; exact ht3
        refine ⟨t, l, _, _, rfl, rfl, .inl (.inl ht4), .inl (.inl upd_same), by show 2 + 5 ≤ 2 ^ 24; decide, (fun e => by cases e), (fun _ e => by cases e), fun _ _ p hp => ?_⟩
        exact q2 _ p (.subwords true f u x y v) (((((g1.trans g2).trans (.of e3)).trans (.of (same_new hl)))).trans (.of (same_new hp))) hng ⟨.inl c1, rfl, c3, c4⟩ upd_same
      | _ => cases c2
end
end Sw
/-! letter * many; rows that turn; turning. -/
namespace Sw
open PySem PySem.Spec PyProof.Rows L2 LamX NdefX
theorem txt_mul (u : Wd) (n : Nat) : Txt.mul (S u) (n : Nat) = S (pw u n) := by
  have hf : ∀ (n : Nat) (acc : Array Nat), List.foldl (fun x1 x2 => x1 ++ x2) acc (List.replicate n u.toArray) = acc ++ (pw u n).toArray := fun n => by
    induction n with
    | zero => intro acc; simp [pw]
    | succ n ih => intro acc; rw [List.replicate_succ, List.foldl_cons, ih]; simp [pw]
  unfold Txt.mul
  by_cases h1 : (n : Int) < 1
  · have : n = 0 := by omega
    subst this; rw [if_pos h1]; exact S_nil.symm ▸ rfl
  · rw [if_neg h1]
    by_cases h2 : ((n : Int) == 1 || (S u).length == 0) = true
    · rw [if_pos h2]
      rcases Bool.or_eq_true _ _ ▸ h2 with a | a
      · have : n = 1 := by have := beq_iff_eq.mp a; omega
        subst this; simp [pw]
      · have : u = [] := by
          have := beq_iff_eq.mp a
          rw [S_len] at this; exact List.eq_nil_of_length_eq_zero this
        subst this
        have : ∀ n, pw [] n = ([] : Wd) := fun n => by induction n with | zero => rfl | succ n ih => rw [pw, ih]; rfl
        rw [this]
    · rw [if_neg h2, Int.toNat_natCast]
      show (⟨List.foldl _ #[] (List.replicate n u.toArray)⟩ : Str) = ⟨(pw u n).toArray⟩
      rw [hf]; simp
theorem op_mulS {X : Cx} : OpR X (binaryOp .Mult) (fun x y H Q => ∃ (u : Wd) (n : Nat), x = VS u ∧ y = vi n ∧ u.length * n ≤ 1000000 ∧ n ≤ 1000000 ∧ u.length ≤ 1000000 ∧ Q (VS (pw u n)) H) := by
  intro pins s σ H x y v u Q I rx ry h
  obtain ⟨z, n, rfl, rfl, hl, hn, hz, q⟩ := h
  obtain ⟨t, rfl⟩ := (show ∃ t, v = Value.str (S z) t from rx)
  obtain ⟨t2, rfl⟩ := (show ∃ t, u = Value.int (n : Nat) t from ry)
  refine SB.mul ⟨?_, fun h1 h2 => ?_, fun h1 h2 => ?_⟩ fun t' k => ⟨VS (pw z n), H, I.tok k, ⟨t', by rw [txt_mul]⟩, q⟩
  · simp; omega
  · rw [S_len]
    intro hgt
    have h3 : (1 : Int) ≤ (n : Int) := by omega
    have h4 : (2 ^ 63 - 1 : Int) / (n : Int) ≥ (2 ^ 63 - 1) / 1000000 := by
      apply Int.le_ediv_of_mul_le (by omega)
      have : ((2 ^ 63 - 1 : Int) / 1000000) * (n : Int) ≤ ((2 ^ 63 - 1) / 1000000) * 1000000 := Int.mul_le_mul_of_nonneg_left (by omega) (by decide)
      omega
    have h5 : ((2 ^ 63 - 1 : Int)) / 1000000 ≥ 1000001 := by decide
    omega
  · unfold Builtin.Str.tooLong
    rw [S_len, Int.toNat_natCast]
    exact decide_eq_false (by show ¬ (_ > 2 ^ 24); omega)
theorem inV_nis (x : Nat) (l : List Nat) : inV (vi x) (nis l) = decide (x ∈ l) := by
  unfold inV nis
  rw [List.any_map]
  induction l with
  | nil => simp
  | cons a l ih =>
    simp only [List.any_cons, ih, Function.comp]
    by_cases h : x = a
    · subst h; simp [eqV]
    · have : ((a : Int) == (x : Int)) = false := by simp; omega
      simp [eqV, this, h]
theorem flat_nis (l : List Nat) : (nis l).all flatV = true := by
  unfold nis; rw [List.all_map]; simp [flatV, Function.comp]
/-! ### rows: where a word leads, again and again -/
section
variable {M : Mc}
def orb (M : Mc) (s : Nat) (y : Wd) (k : Nat) : List Nat := (List.range k).map fun i => M.run s (pw y i)
theorem orb_len {s k : Nat} {y : Wd} : (orb M s y k).length = k := by simp [orb]
theorem orb_get {s k i : Nat} {y : Wd} (h : i < k) : (orb M s y k)[i]? = some (M.run s (pw y i)) := by unfold orb; rw [List.getElem?_map, List.getElem?_range h]; rfl
theorem orb_snoc {s k : Nat} {y : Wd} : orb M s y (k + 1) = orb M s y k ++ [M.run s (pw y k)] := by unfold orb; rw [List.range_succ, List.map_append]; rfl
theorem orb_mem {s k x : Nat} {y : Wd} : x ∈ orb M s y k ↔ ∃ i, i < k ∧ M.run s (pw y i) = x := by
  unfold orb; rw [List.mem_map]
  constructor
  · rintro ⟨i, hi, e⟩; exact ⟨i, List.mem_range.mp hi, e⟩
  · rintro ⟨i, hi, e⟩; exact ⟨i, List.mem_range.mpr hi, e⟩
theorem orb_lt (O : M.Ok) {s k : Nat} {y : Wd} (hs : s < M.n) : ∀ x ∈ orb M s y k, x < M.n := fun x hx => by
  obtain ⟨i, _, rfl⟩ := orb_mem.mp hx; exact O.run_lt hs _
theorem orb_le (O : M.Ok) {s k : Nat} {y : Wd} (hs : s < M.n) (hn : (orb M s y k).Nodup) : k ≤ M.n := by
  have := nodup_le _ (List.range M.n) hn fun x hx => List.mem_range.mpr (orb_lt O hs x hx)
  rwa [orb_len, List.length_range] at this
theorem orb_nd {s k : Nat} {y : Wd} (hn : (orb M s y k).Nodup) (h : M.run s (pw y k) ∉ orb M s y k) : (orb M s y (k + 1)).Nodup := by
  rw [orb_snoc, List.nodup_append]
  refine ⟨hn, by simp, fun a ha b hb e => ?_⟩
  rw [List.mem_singleton] at hb; rw [hb] at e; rw [e] at ha; exact h ha
theorem run_pw_add {s i j : Nat} {y : Wd} : M.run s (pw y (i + j)) = M.run (M.run s (pw y i)) (pw y j) := by rw [pw_add, Mc.run_app]
/-- from a on it turns with the period k - a -/
theorem orb_per {s a k : Nat} {y : Wd} (hak : a < k) (h : M.run s (pw y k) = M.run s (pw y a)) : ∀ m q, a ≤ m → M.run s (pw y (m + q * (k - a))) = M.run s (pw y m) := by
  intro m q hm
  induction q with
  | zero => simp
  | succ q ih =>
    have e1 : m + (q + 1) * (k - a) = k + ((m - a) + q * (k - a)) := by rw [Nat.succ_mul]; omega
    have e2 : m + q * (k - a) = a + ((m - a) + q * (k - a)) := by omega
    rw [e1, run_pw_add, h, ← run_pw_add, ← e2, ih]
theorem orb_idx {s a k : Nat} {y : Wd} (hn : (orb M s y k).Nodup) (hak : a < k) (h : M.run s (pw y k) = M.run s (pw y a)) {i j : Nat} (hi : i < k) (hj : j < k) (e : M.run s (pw y i) = M.run s (pw y j)) : i = j :=
  nd_inj hn (orb_get hi) (by rw [orb_get hj, e])
/-- reduced below k -/
theorem orb_red {s a k : Nat} {y : Wd} (hak : a < k) (h : M.run s (pw y k) = M.run s (pw y a)) (m : Nat) (hm : a ≤ m) : ∃ j, a ≤ j ∧ j < k ∧ M.run s (pw y m) = M.run s (pw y j) := by
  have hp : 0 < k - a := by omega
  have hmod := Nat.mod_lt (m - a) hp
  refine ⟨a + (m - a) % (k - a), by omega, by omega, ?_⟩
  have hdm := Nat.mod_add_div (m - a) (k - a)
  have e : m = (a + (m - a) % (k - a)) + ((m - a) / (k - a)) * (k - a) := by rw [Nat.mul_comm]; omega
  have := orb_per hak h (a + (m - a) % (k - a)) ((m - a) / (k - a)) (by omega)
  rw [← e] at this; exact this
theorem orb_no_back {s a k : Nat} {y : Wd} (hn : (orb M s y k).Nodup) (hak : a < k) (ha : 0 < a) (h : M.run s (pw y k) = M.run s (pw y a)) (i : Nat) : M.run s (pw y (i + 1)) ≠ s := fun e => by
  have h0 : s = M.run s (pw y 0) := rfl
  -- s comes again and again
  have rep : ∀ q, M.run s (pw y (q * (i + 1))) = s := fun q => by
    induction q with
    | zero => simp [pw]; rfl
    | succ q ih => rw [Nat.succ_mul, run_pw_add, ih, e]
  have hbig : a ≤ a * (i + 1) := Nat.le_mul_of_pos_right a (by omega)
  obtain ⟨j, j1, j2, j3⟩ := orb_red hak h (a * (i + 1)) hbig
  rw [rep a] at j3
  have := orb_idx hn hak h (i := 0) (j := j) (by omega) j2 (by rw [← j3]; rfl)
  omega
end
section
variable {P : Program} {w : World} {K : PySem.W.Frag} {mg : Str → Option Value} {base : Heap} {CM CA CW CG : Addr} {D : Cds}
theorem run_one_pw {M : Mc} {s c k : Nat} : M.run s (pw [c] (k + 1)) = M.go (M.run s (pw [c] k)) c := by rw [pw_succ', Mc.run_app]; rfl
theorem ok_turning_swing (T : Tx K mg CM CA CW CG) (Y : Ty K mg base CW D) : Pr P w K mg base CX0 5 "turning_swing" P_turning_swing [] (spSw CM CW D .turning) := by
  refine T.d_turning_swing.pr sc_turning_swing (fun _ _ _ _ _ _ us hl => match us, hl with | [_], _ => rfl) (fun vs H Q E h => ?_) (fun f cdv A outer s H vs Q E hr h => ?_)
  · obtain ⟨a, M, rfl, _⟩ := h; rfl
  · obtain ⟨a, M, rfl, hT, hW, O, q1, q2⟩ := h
    have hn60 := O.le
    obtain ⟨dx, b, fw, p, hw1, hMb, ⟨ws, hfw, hwl, hws⟩, hst⟩ := id hW
    obtain ⟨dy, pb, hb1, _⟩ := id hMb
    refine ⟨_, (PSs.nox (pss_cons (ps_for PassesOwn.never rfl (pi_str (pe_fld (pv 0) rfl)) (pg_name (i := 1) sc_turning_swing.nd rfl (Or.inl rfl) (Or.inl rfl))
 (pss_one (ps_for PassesOwn.never rfl (pi_list (pe_methP0 (pv 0) T.clCW (ok_Walks_all_stands T) (hr.mono (by decide)) pass0)) (pg_name (i := 2) sc_turning_swing.nd rfl (Or.inl rfl) (Or.inl rfl))
 (pss_cons (ps_par (i := 3) (j := 4) (by rfl) sc_turning_swing.nd rfl rfl (by decide) rfl rfl (pa_cons (pe_lst (pa_cons (pv 2) pa_nil)) (pa_cons (pe_ix ix_tup (pe_methP (pv 0) T.clCW (ok_Walks_moved T) (hr.mono (by decide)) pass0 (pa_cons (pe_tup (pa_cons (pv 2) pa_nil)) (pa_cons (pv 1) pa_nil))) pe_int (fun _ _ => rfl)) pa_nil)) (by rfl))
 (pss_cons (ps_while PassesOwn.never (pt_cmpR op_notIn_seq (pv 4) (pv 3) (by rfl))
 (pss_cons (ps_expr (pe_bm PySem.F.plainAttrs_list PySem.F.slot_list_append PySem.F.type_list_append mt_append (pv 3) (pa_cons (pv 4) pa_nil)))
 (pss_one (ps_set (i := 4) sc_turning_swing.nd rfl (Or.inl rfl) (pe_ix ix_tup (pe_methP (pv 0) T.clCW (ok_Walks_moved T) (hr.mono (by decide)) pass0 (pa_cons (pe_tup (pa_cons (pv 4) pa_nil)) (pa_cons (pv 1) pa_nil))) pe_int (fun _ _ => rfl))))))
 (pss_cons (ps_set (i := 5) sc_turning_swing.nd rfl (Or.inl rfl) (pe_bm PySem.F.plainAttrs_list PySem.F.slot_list_index PySem.F.type_list_index mt_index (pv 3) (pa_cons (pv 4) pa_nil)))
 (pss_one (ps_if (pt_cmpR op_gt (pv 5) pe_int (nomark _))
 (pss_cons (ps_set (i := 6) sc_turning_swing.nd rfl (Or.inl rfl) (pe_op op_sub (pe_callB call_len rfl T.z_len boot_len (pa_cons (pv 3) pa_nil)) (pv 5)))
 (pss_cons (ps_set (i := 7) sc_turning_swing.nd rfl (Or.inl rfl) (pe_op op_mul (pv 6) (pe_op op_fdivN (pe_op op_sub (pe_op op_add (pv 5) (pv 6)) pe_int) (pv 6))))
 (pss_cons (ps_asg (pe_methP (pv 0) T.clCW (ok_Walks_parting T Y) (hr.mono (by decide)) pass0 (pa_cons (pv 2) (pa_cons (pe_methK (pe_fld (pv 0) rfl) T.clCM (ok_behind T).2 (hr.mono (by decide)) pass0 (pa_cons (pe_op op_mulS (pv 1) (pv 7)) pa_nil) (pk_cons (pv 2) pk_nil)) pa_nil))) (pg_tup rfl (pgs_cons (pg_name (i := 8) sc_turning_swing.nd rfl (Or.inl rfl) (Or.inl rfl)) (pgs_cons (pg_name (i := 9) sc_turning_swing.nd rfl (Or.inl rfl) (Or.inl rfl)) pgs_nil))))
 (pss_one (ps_ret (pe_tup (pa_cons pe_str (pa_cons (pv 9) (pa_cons (pe_ix ix_list (pe_fld (pv 0) rfl) (pv 2) (fun _ _ => rfl)) (pa_cons (pe_op op_mulS (pv 1) (pv 7)) (pa_cons (pv 8) pa_nil)))))))))))
 pss_nil))))))))
 (pss_one (ps_ret pe_non)))), ?_⟩
    refine ⟨_, rfl, a, CW, dx, _, _, rfl, hw1, T.clCW, T.nCW_signs, fWk_sg _ _ _ _, _, rfl, for_it (walk_str (z := S M.ls)) (fun j σ H3 => ∃ v1 v2 v3 v4 v5 v6 v7 v8 v9, σ = [some (.ref a), v1, v2, v3, v4, v5, v6, v7, v8, v9] ∧ Gr (Tb D) H H3 ∧ ∀ (k x s : Nat), k < j → M.ls[k]? = some x → s < M.n → ∃ i, M.run s (pw [x] (i + 1)) = s)
        ⟨_, _, _, _, _, _, _, _, _, rfl, Gr.refl, fun k x s h => absurd h (Nat.not_lt_zero _)⟩ (fun _ _ _ _ _ => trivial) ?_ ?_⟩
    · rintro j x σ H3 H3' hj ⟨v1, v2, v3, v4, v5, v6, v7, v8, v9, rfl, g3, hno3⟩ ⟨rfl, c, hc, rfl⟩
      have hcu := S_get.mp hc
      have hcl := List.mem_of_getElem? hcu
      refine ⟨_, rfl, a, dx, _, rfl, g3.sol _ _ hw1 trivial, fWk_no _ _ _ _ (by decide +kernel), a, M, rfl, hW.sol g3.sol, O.toOk, fun H4 l e4 nl hl => ?_⟩
      have g4 := g3.trans (.of e4)
      refine ⟨l, rfl, ⟨_, .of hl⟩, for_list (K := K) (a := l) (xs := nis (List.range M.n)) (fun i σ H5 => ∃ v2 v3 v4 v5 v6 v7 v8 v9, σ = [some (.ref a), some (VS [c]), v2, v3, v4, v5, v6, v7, v8, v9] ∧ Gr (Tb D) H H5 ∧ H5 l = some (.lst (nis (List.range M.n))) ∧ ∀ s, s < i → ∃ i, M.run s (pw [c] (i + 1)) = s)
        ⟨_, _, _, _, _, _, _, _, rfl, g4, hl, fun s h => absurd h (Nat.not_lt_zero _)⟩ (fun i σ H2 _ h => by obtain ⟨_, _, _, _, _, _, _, _, _, _, h, _⟩ := h; exact .of h) ?_ ?_⟩
      · rintro i x σ H5 hx ⟨v2, v3, v4, v5, v6, v7, v8, v9, rfl, g5, hl5, hno5⟩
        obtain ⟨st, hst0, rfl⟩ := nis_inv hx
        have hiN : i < M.n := by have := (List.getElem?_eq_some_iff.mp hst0).1; simpa using this
        obtain rfl : st = i := by rw [List.getElem?_range hiN] at hst0; exact (Option.some.inj hst0).symm
        -- row, there = ([stand], walks.moved((stand,), letter)[0])
        refine ⟨_, rfl, by show 1 ≤ 2 ^ 24; decide, fun R hR => ?_⟩
        have e6 : Same H5 (upd H5 R (.lst [vi st])) := same_new hR
        have hR6 : upd H5 R (.lst [vi st]) R = some (.lst (nis [st])) := upd_same
        have hR0 : H5 R = none := hR
        have g6 := g5.trans (.of e6)
        generalize upd H5 R (.lst [vi st]) = H6 at e6 hR6 g6
        refine ⟨_, rfl, a, dx, _, rfl, g6.sol _ _ hw1 trivial, fWk_no _ _ _ _ (by decide +kernel), _, rfl, by show 1 ≤ 2 ^ 24; decide, fun t ht => ⟨_, rfl, ?_⟩⟩
        have e7 : Same H6 (upd H6 t (.tup (nis [st]))) := same_new ht
        have ht7 : upd H6 t (.tup (nis [st])) t = some (.tup (nis [st])) := upd_same
        refine ⟨a, t, M, c, [st], rfl, hW.sol (g6.trans (.of e7)).sol, O.toOk, hcl, ht7, by simp, fun x hx => by rw [List.mem_singleton.mp hx]; exact hiN, fun H8 p8 e8 np8 hp8 => ⟨p8, _, 0, _, rfl, rfl, .inl (.inl hp8), atI_nat (j := 0) rfl, _, _, rfl, ?_⟩⟩
        have e68 : Same H6 H8 := fun b o z => e8 b o (e7 b o z)
        have hR8 := e68 _ _ hR6
        have hl8 := e68 _ _ (e6 _ _ hl5)
        have g58 : Gr (Tb D) H5 H8 := (Gr.of e6).trans (.of e68)
        refine while_ix (fun m σ H9 => ∃ (k : Nat) (v5 v6 v7 v8 v9 : Option V), σ = [some (.ref a), some (VS [c]), some (vi st), some (.ref R), some (vi (M.run st (pw [c] k))), v5, v6, v7, v8, v9] ∧ 1 ≤ k ∧ (orb M st [c] k).Nodup ∧ Gr (Tb D) H5 H9 ∧ H9 R = some (.lst (nis (orb M st [c] k))) ∧ m = M.n - k) _
          ⟨1, _, _, _, _, _, rfl, Nat.le_refl _, by simp [orb], g58, by rw [hR8]; rfl, rfl⟩ ?_
        rintro m σ H9 ⟨k, v5, v6, v7, v8, v9, rfl, hk1, hnd, g9, hR9, hm⟩
        have hkN := orb_le O.toOk hiN hnd
        have g09 := g5.trans g9
        have hgN : M.run st (pw [c] k) < M.n := O.run_lt hiN _
        refine ⟨_, rfl, _, rfl, R, _, rfl, .inl (.of hR9), rfl, flat_nis _, _, rfl, ?_⟩
        show (if (!inV (vi (M.run st (pw [c] k))) (nis (orb M st [c] k))) = true then _ else _)
        rw [inV_nis]
        by_cases hin : M.run st (pw [c] k) ∈ orb M st [c] k
        · rw [decide_eq_true hin]
          obtain ⟨i0, hi0, hrun⟩ := orb_mem.mp hin
          have hrun' := hrun.symm
          -- start = row.index(there)
          refine ⟨_, rfl, .inl ⟨rfl, _, .of hR9⟩, _, rfl, R, _, _, i0, vi (M.run st (pw [c] k)), rfl, rfl, .of hR9, rfl, flat_nis _, nis_get (by rw [orb_get hi0, hrun]), by simp [eqV], fun m' z hm' hz => ?_, ?_⟩
          · obtain ⟨n', hn', rfl⟩ := nis_inv hz
            rw [orb_get (by omega)] at hn'
            cases hn'
            have : M.run st (pw [c] m') ≠ M.run st (pw [c] k) := fun e => by
              have := orb_idx hnd hi0 hrun' (i := m') (j := i0) (by omega) hi0 (by rw [e, hrun]); omega
            simp [eqV]; omega
          · refine ⟨_, rfl, _, _, rfl, rfl, _, rfl, ?_⟩
            by_cases hs0 : 0 < i0
            · rw [decide_eq_true (show (0 : Int) < (i0 : Nat) by omega)]
              have hRl : (nis (orb M st [c] k)).length = k := by rw [nis_len, orb_len]
              refine ⟨_, rfl, _, k, rfl, .inl ⟨_, .of hR9, hRl.symm⟩, _, rfl, _, _, rfl, rfl, ?_⟩
              have hsz : ((k : Nat) : Int) - (i0 : Nat) = ((k - i0 : Nat) : Int) := by omega
              show gName 6 (.int (((k : Nat) : Int) - (i0 : Nat))) _ _ _
              rw [hsz]
              generalize hq : (i0 + (k - i0) - 1) / (k - i0) = qq
              have hqd : (((i0 : Nat) : Int) + ((k - i0 : Nat) : Int) - 1).fdiv ((k - i0 : Nat) : Int) = ((qq : Nat) : Int) := by
                have e1 : (((i0 : Nat) : Int) + ((k - i0 : Nat) : Int) - 1) = ((i0 + (k - i0) - 1 : Nat) : Int) := by omega
                rw [e1, Int.fdiv_eq_ediv_of_nonneg _ (by omega), ← hq]; rfl
              have hqpos : 1 ≤ qq := by rw [← hq]; exact (Nat.le_div_iff_mul_le (by omega)).mpr (by omega)
              have hqle : qq * (k - i0) ≤ i0 + (k - i0) - 1 := by rw [← hq]; exact Nat.div_mul_le_self _ _
              have hqge : i0 ≤ qq * (k - i0) := by
                have h1 := Nat.lt_div_mul_add (a := i0 + (k - i0) - 1) (b := k - i0) (by omega)
                rw [hq] at h1; omega
              have hmq : ((k - i0 : Nat) : Int) * ((qq : Nat) : Int) = ((qq * (k - i0) : Nat) : Int) := by rw [Nat.mul_comm]; exact (Int.natCast_mul _ _).symm
              refine ⟨_, rfl, _, rfl, _, rfl, _, _, rfl, rfl, _, _, rfl, rfl, _, rfl, _, _, rfl, rfl, ⟨by omega, by rw [Int.natAbs_natCast]; omega⟩, ?_⟩
              show rI CMul (fun i j => .int (i * j)) (vi (k - i0)) (.int ((((i0 : Nat) : Int) + ((k - i0 : Nat) : Int) - 1).fdiv ((k - i0 : Nat) : Int))) _ _
              rw [hqd]
              refine ⟨_, _, rfl, rfl, .inl ⟨by omega, by omega⟩, ?_⟩
              show gName 7 (.int (((k - i0 : Nat) : Int) * ((qq : Nat) : Int))) _ _ _
              rw [hmq]
              generalize hmm : qq * (k - i0) = many at *
              have hmany : many ≤ 60 := by omega
              refine ⟨_, rfl, a, dx, _, rfl, g09.sol _ _ hw1 trivial, fWk_no _ _ _ _ (by decide +kernel), _, rfl, _, rfl, a, CW, dx, _, _, rfl, g09.sol _ _ hw1 trivial, T.clCW, T.nCW_base, fWk_base _ _ _ _, b, dy, _, rfl, g09.sol _ _ hb1 trivial, fM_no _ _ (by decide +kernel) (by decide +kernel), _, rfl, _, rfl, [c], many, rfl, rfl, by simp; omega, by omega, by simp, _, rfl, rfl, rfl, b, M, pw [c] many, st, rfl, hMb.sol g09.sol, O.toOk, (Ov.one hcl).pw _, by rw [pw_len]; simp; omega, hiN, fun H10 e10 => ?_⟩
              have g10 := g09.trans (.of e10)
              have hne : st ≠ M.run st (pw [c] many) := fun e => by
                obtain ⟨m2, hm2⟩ : ∃ m2, many = m2 + 1 := ⟨many - 1, by omega⟩
                rw [hm2] at e
                exact orb_no_back hnd hi0 hs0 hrun' m2 e.symm
              refine ⟨a, M, st, M.run st (pw [c] many), rfl, g10.tab hT, hW.sol g10.sol, O, hiN, O.run_lt hiN _, hne, fun H11 p11 u g11 hu1 hu2 hu3 hp11 => ?_⟩
              have g111 := g10.trans g11
              refine ⟨p11, _, rfl, .inl (.inl hp11), rfl, _, _, rfl, _, _, rfl, rfl, ?_⟩
              obtain ⟨w0, hw0⟩ : ∃ w0, ws[st]? = some w0 := ⟨_, List.getElem?_eq_getElem (by rw [hwl]; exact hiN)⟩
              obtain ⟨b1, b2, b3⟩ := hws st w0 hw0
              refine ⟨_, rfl, _, rfl, a, CW, dx, _, _, rfl, g111.sol _ _ hw1 trivial, T.clCW, T.nCW_first_words, fWk_fw _ _ _ _, _, rfl, fw, _, _, _, rfl, rfl, .of (g111.sol _ _ hfw trivial), atI_nat (vs_get hw0), _, rfl, _, rfl, [c], many, rfl, rfl, by simp; omega, by omega, by simp, _, rfl, by show 5 ≤ 2 ^ 24; decide, fun p hp => ?_⟩
              have hper : M.run (M.run st (pw [c] many)) (pw [c] many) = M.run st (pw [c] many) := by
                rw [← run_pw_add]
                have := orb_per hi0 hrun' many qq hqge
                rw [hmm] at this; exact this
              obtain ⟨k1, k2⟩ := O.turning_some (u := w0) (v := u) (x := c) (k := many) (b := M.fin (M.run st u)) b1 hcl (by rw [b2]; exact orb_no_back hnd hi0 hs0 hrun') (by rw [b2]; exact hper) (by rw [b2]) (by rw [b2]; exact hu3)
              exact q2 _ p (.turning (M.fin (M.run st u)) w0 (pw [c] many) u) (g111.trans (.of (same_new hp))) ⟨k1, rfl, ⟨.of b1 b3 (by omega), ⟨(Ov.one hcl).pw _, by rw [pw_len]; simp; omega⟩, fun e => (by
                have := congrArg List.length e
                rw [pw_len] at this; simp at this; omega), .of hu1 hu2 (by omega)⟩, k2⟩ upd_same
            · rw [decide_eq_false (show ¬ ((0 : Int) < (i0 : Nat)) by omega)]
              have hi00 : i0 = 0 := by omega
              subst hi00
              refine ⟨_, _, _, _, _, _, _, _, rfl, g09, g9.sol _ _ hl5 trivial, fun s hs => ?_⟩
              by_cases hsi : s < st
              · exact hno5 s hsi
              · obtain rfl : s = st := by omega
                obtain ⟨k', rfl⟩ : ∃ k', k = k' + 1 := ⟨k - 1, by omega⟩
                exact ⟨k', hrun.symm⟩
        · rw [decide_eq_false hin]
          refine ⟨fun σ' H' => ∃ m', m' < m ∧ _, fun _ _ h => h, ?_⟩
          have hnd2 := orb_nd hnd hin
          have hk1N := orb_le O.toOk hiN hnd2
          refine ⟨_, rfl, .inl ⟨rfl, _, .of hR9⟩, _, rfl, _, _, _, rfl, rfl, hR9, by rw [nis_len, orb_len]; exact slt (by omega), ?_⟩
          have hR10 : upd H9 R (.lst (nis (orb M st [c] k) ++ [vi (M.run st (pw [c] k))])) R = some (.lst (nis (orb M st [c] (k + 1)))) := by rw [upd_same, orb_snoc]; simp [nis]
          have g10 : Gr (Tb D) H5 (upd H9 R (.lst (nis (orb M st [c] k) ++ [vi (M.run st (pw [c] k))]))) := gr_mut g9 hR0 hR9 lst_ne
          generalize upd H9 R (.lst (nis (orb M st [c] k) ++ [vi (M.run st (pw [c] k))])) = H10 at hR10 g10
          have g010 := g5.trans g10
          refine ⟨_, rfl, a, dx, _, rfl, g010.sol _ _ hw1 trivial, fWk_no _ _ _ _ (by decide +kernel), _, rfl, by show 1 ≤ 2 ^ 24; decide, fun t2 ht2 => ⟨_, rfl, ?_⟩⟩
          have e11 : Same H10 (upd H10 t2 (.tup (nis [M.run st (pw [c] k)]))) := same_new ht2
          have ht11 : upd H10 t2 (.tup (nis [M.run st (pw [c] k)])) t2 = some (.tup (nis [M.run st (pw [c] k)])) := upd_same
          refine ⟨a, t2, M, c, [M.run st (pw [c] k)], rfl, hW.sol (g010.trans (.of e11)).sol, O.toOk, hcl, ht11, by simp, fun x hx => by rw [List.mem_singleton.mp hx]; exact hgN, fun H12 p12 e12 np12 hp12 => ⟨p12, _, 0, _, rfl, rfl, .inl (.inl hp12), atI_nat (j := 0) rfl, ?_⟩⟩
          have e1012 : Same H10 H12 := fun b o z => e12 b o (e11 b o z)
          exact ⟨M.n - (k + 1), by omega, k + 1, _, _, _, _, _, by rw [run_one_pw]; rfl, by omega, hnd2, g10.trans (.of e1012), e1012 _ _ hR10, rfl⟩
      · rintro σ H5 ⟨v2, v3, v4, v5, v6, v7, v8, v9, rfl, g5, hl5, hno5⟩
        rw [nis_len, List.length_range] at hno5
        refine ⟨_, _, _, _, _, _, _, _, _, rfl, g5, fun k x s hk hx hs => ?_⟩
        by_cases hkj : k < j
        · exact hno3 k x s hkj hx hs
        · obtain rfl : k = j := by omega
          rw [hcu] at hx; cases hx; exact hno5 s hs
    · rintro σ H3 ⟨v1, v2, v3, v4, v5, v6, v7, v8, v9, rfl, g3, hno3⟩
      refine q1 _ g3 (O.turning_none fun s x hs hx => ?_)
      obtain ⟨m, hm⟩ := List.mem_iff_getElem?.mp hx
      refine hno3 m x s ?_ hm hs
      show m < M.ls.toArray.size
      simpa using (List.getElem?_eq_some_iff.mp hm).1
end
end Sw
/-! round_by. -/
namespace Sw
open PySem PySem.Spec PyProof.Rows L2 LamX NdefX
/-- a row of stands, two or more, round which the word leads -/
structure Rund (M : Mc) (u : Wd) (row : List Nat) : Prop where
  two : 2 ≤ row.length
  nd : row.Nodup
  lt : ∀ s ∈ row, s < M.n
  nx : ∀ (k s : Nat), row[k]? = some s → row[(k + 1) % row.length]? = some (M.run s u)
theorem rund_of {M : Mc} (O : M.Ok) {s a k : Nat} {u : Wd} (hs : s < M.n) (hn : (orb M s u k).Nodup) (ha : a < k) (h : M.run s (pw u a) = M.run s (pw u k)) (h2 : 1 < k - a) : Rund M u ((orb M s u k).drop a) := by
  have hl : ((orb M s u k).drop a).length = k - a := by rw [List.length_drop, orb_len]
  refine ⟨by omega, hn.sublist (List.drop_sublist _ _), fun x hx => orb_lt O hs x (List.mem_of_mem_drop hx), fun j t hj => ?_⟩
  have hjl := (List.getElem?_eq_some_iff.mp hj).1
  rw [hl] at hjl ⊢
  rw [List.getElem?_drop, orb_get (by omega)] at hj
  have ht := Option.some.inj hj
  rw [List.getElem?_drop]
  by_cases hjk : j + 1 < k - a
  · rw [Nat.mod_eq_of_lt hjk, orb_get (by omega), ← ht, show a + (j + 1) = (a + j) + 1 by omega, pw_succ', Mc.run_app]
  · have : j + 1 = k - a := by omega
    rw [this, Nat.mod_self, Nat.add_zero, orb_get ha, h, ← ht]
    rw [show k = (a + j) + 1 by omega, pw_succ', Mc.run_app]
theorem cut_from {xs : List V} {i : Nat} (h : i ≤ xs.length) : cutV xs (some (i : Nat)) none = xs.drop i := by
  have h1 : HT.sIx xs.length 0 (some ((i : Nat) : Int)) = i := by
    unfold HT.sIx; simp
    rw [if_neg (by omega)]; omega
  have h2 : HT.sIx xs.length xs.length none = xs.length := by unfold HT.sIx; simp
  unfold cutV
  rw [h1, h2, List.take_of_length_le (by rw [List.length_drop]; omega)]
section
variable {P : Program} {w : World} {K : PySem.W.Frag} {mg : Str → Option Value} {base : Heap} {CM CA CW CG : Addr} {D : Cds}
def spRoundBy (CM CW : Addr) : Sp := fun vs H Q _ => ∃ (a : Addr) (M : Mc) (u : Wd), vs = [.ref a, VS u] ∧ WalksAt CM CW H a M ∧ M.Ok ∧ Ov M.ls u ∧ u.length ≤ 20000 ∧
  (∀ H', Same H H' → (∀ s, s < M.n → ∃ i, M.run s (pw u i) = M.run s (pw u (i + 1))) → Q .non H') ∧ (∀ H' p row, Same H H' → H' p = some (.lst (nis row)) → Rund M u row → Q (.ref p) H')
theorem ok_round_by (T : Tx K mg CM CA CW CG) : Pr P w K mg base CX0 5 "round_by" P_round_by [] (spRoundBy CM CW) := by
  refine T.d_round_by.pr sc_round_by (fun _ _ _ _ _ _ us hl => match us, hl with | [_, _], _ => rfl) (fun vs H Q E h => ?_) (fun f cdv A outer s H vs Q E hr h => ?_)
  · obtain ⟨a, M, u, rfl, _⟩ := h; rfl
  · obtain ⟨a, M, u, rfl, hW, O, ou, ul, q1, q2⟩ := h
    have hn60 := O.le
    obtain ⟨dx, b, fw, p, hw1, hMb, _, _⟩ := id hW
    obtain ⟨dy, pb, hb1, _⟩ := id hMb
    refine ⟨_, (PSs.nox (pss_cons (ps_for PassesOwn.never rfl (pi_list (pe_methP0 (pv 0) T.clCW (ok_Walks_all_stands T) (hr.mono (by decide)) pass0)) (pg_name (i := 2) sc_round_by.nd rfl (Or.inl rfl) (Or.inl rfl))
 (pss_cons (ps_set (i := 3) sc_round_by.nd rfl (Or.inl rfl) (pe_lst (pa_cons (pv 2) pa_nil)))
 (pss_cons (ps_set (i := 4) sc_round_by.nd rfl (Or.inl rfl) (pe_methK (pe_fld (pv 0) rfl) T.clCM (ok_behind T).2 (hr.mono (by decide)) pass0 (pa_cons (pv 1) pa_nil) (pk_cons (pv 2) pk_nil)))
 (pss_cons (ps_while PassesOwn.never (pt_cmpR op_notIn_seq (pv 4) (pv 3) (by rfl))
 (pss_cons (ps_expr (pe_bm PySem.F.plainAttrs_list PySem.F.slot_list_append PySem.F.type_list_append mt_append (pv 3) (pa_cons (pv 4) pa_nil)))
 (pss_one (ps_set (i := 4) sc_round_by.nd rfl (Or.inl rfl) (pe_methK (pe_fld (pv 0) rfl) T.clCM (ok_behind T).2 (hr.mono (by decide)) pass0 (pa_cons (pv 1) pa_nil) (pk_cons (pv 4) pk_nil))))))
 (pss_one (ps_if (pt_cmpR op_gt (pe_op op_sub (pe_callB call_len rfl T.z_len boot_len (pa_cons (pv 3) pa_nil)) (pe_bm PySem.F.plainAttrs_list PySem.F.slot_list_index PySem.F.type_list_index mt_index (pv 3) (pa_cons (pv 4) pa_nil))) pe_int (nomark _))
 (pss_one (ps_ret (pe_slice sl_list (pv 3) (po_some (pe_bm PySem.F.plainAttrs_list PySem.F.slot_list_index PySem.F.type_list_index mt_index (pv 3) (pa_cons (pv 4) pa_nil))) po_none)))
 pss_nil))))))
 (pss_one (ps_ret pe_non)))), ?_⟩
    refine ⟨_, rfl, a, dx, _, rfl, hw1, fWk_no _ _ _ _ (by decide +kernel), a, M, rfl, hW, O, fun H1 l e1 nl hl => ?_⟩
    refine ⟨l, rfl, ⟨_, .of hl⟩, for_list (K := K) (a := l) (xs := nis (List.range M.n)) (fun i σ H2 => ∃ v2 v3 v4, σ = [some (.ref a), some (VS u), v2, v3, v4] ∧ Same H H2 ∧ H2 l = some (.lst (nis (List.range M.n))) ∧ ∀ s, s < i → ∃ i, M.run s (pw u i) = M.run s (pw u (i + 1)))
      ⟨_, _, _, rfl, e1, hl, fun s h => absurd h (Nat.not_lt_zero _)⟩ (fun i σ H2 _ h => by obtain ⟨_, _, _, _, _, h, _⟩ := h; exact .of h) ?_ ?_⟩
    · rintro i x σ H5 hx ⟨v2, v3, v4, rfl, e5, hl5, hno5⟩
      obtain ⟨st, hst0, rfl⟩ := nis_inv hx
      have hiN : i < M.n := by have := (List.getElem?_eq_some_iff.mp hst0).1; simpa using this
      obtain rfl : st = i := by rw [List.getElem?_range hiN] at hst0; exact (Option.some.inj hst0).symm
      refine ⟨_, rfl, by show 1 ≤ 2 ^ 24; decide, fun R hR => ?_⟩
      have e6 : Same H5 (upd H5 R (.lst [vi st])) := same_new hR
      have hR6 : upd H5 R (.lst [vi st]) R = some (.lst (nis [st])) := upd_same
      have hR0 : H5 R = none := hR
      show gName _ _ _ (upd H5 R (.lst [vi st])) _
      generalize upd H5 R (.lst [vi st]) = H6 at e6 hR6
      have e06 : Same H H6 := fun b o z => e6 b o (e5 b o z)
      refine ⟨_, rfl, a, CW, dx, _, _, rfl, e06 _ _ hw1, T.clCW, T.nCW_base, fWk_base _ _ _ _, b, dy, _, rfl, e06 _ _ hb1, fM_no _ _ (by decide +kernel) (by decide +kernel), _, rfl, _, rfl, rfl, rfl, b, M, u, st, rfl, hMb.sol (.of e06), O, ou, ul, hiN, fun H7 e7 => ?_⟩
      have e57 : Same H5 H7 := fun b o z => e7 b o (e6 b o z)
      refine while_ix (fun m σ H9 => ∃ k : Nat, σ = [some (.ref a), some (VS u), some (vi st), some (.ref R), some (vi (M.run st (pw u k)))] ∧ 1 ≤ k ∧ (orb M st u k).Nodup ∧ Same H5 H9 ∧ H9 R = some (.lst (nis (orb M st u k))) ∧ m = M.n - k) _
        ⟨1, by rw [show pw u 1 = u by simp [pw]]; rfl, Nat.le_refl _, by simp [orb], e57, e7 _ _ hR6, rfl⟩ ?_
      rintro m σ H9 ⟨k, rfl, hk1, hnd, e9, hR9, hm⟩
      have hkN := orb_le O hiN hnd
      have e09 : Same H H9 := fun b o z => e9 b o (e5 b o z)
      have hgN : M.run st (pw u k) < M.n := O.run_lt hiN _
      refine ⟨_, rfl, _, rfl, R, _, rfl, .inl (.of hR9), rfl, flat_nis _, _, rfl, ?_⟩
      show (if (!inV (vi (M.run st (pw u k))) (nis (orb M st u k))) = true then _ else _)
      rw [inV_nis]
      by_cases hin : M.run st (pw u k) ∈ orb M st u k
      · rw [decide_eq_true hin]
        obtain ⟨i0, hi0, hrun⟩ := orb_mem.mp hin
        have hrun' := hrun.symm
        have hRl : (nis (orb M st u k)).length = k := by rw [nis_len, orb_len]
        have hfirst : ∀ (m' : Nat) z, m' < i0 → (nis (orb M st u k))[m']? = some z → eqV z (vi (M.run st (pw u k))) = false := fun m' z hm' hz => by
          obtain ⟨n', hn', rfl⟩ := nis_inv hz
          rw [orb_get (by omega)] at hn'
          cases hn'
          have : M.run st (pw u m') ≠ M.run st (pw u k) := fun e => by
            have := orb_idx hnd hi0 hrun' (i := m') (j := i0) (by omega) hi0 (by rw [e, hrun]); omega
          simp [eqV]; omega
        refine ⟨_, rfl, _, k, rfl, .inl ⟨_, .of hR9, hRl.symm⟩, _, rfl, .inl ⟨rfl, _, .of hR9⟩, _, rfl, R, _, _, i0, vi (M.run st (pw u k)), rfl, rfl, .of hR9, rfl, flat_nis _, nis_get (by rw [orb_get hi0, hrun]), by simp [eqV], hfirst, ?_⟩
        refine ⟨_, _, rfl, rfl, _, _, rfl, rfl, _, rfl, ?_⟩
        by_cases h1 : 1 < k - i0
        · rw [decide_eq_true (show (1 : Int) < ((k : Nat) : Int) - (i0 : Nat) by omega)]
          refine ⟨_, rfl, _, rfl, .inl ⟨rfl, _, .of hR9⟩, _, rfl, R, _, _, i0, vi (M.run st (pw u k)), rfl, rfl, .of hR9, rfl, flat_nis _, nis_get (by rw [orb_get hi0, hrun]), by simp [eqV], hfirst, _, rfl, R, _, rfl, .of hR9, fun p2 hp2 => ?_⟩
          refine q2 _ p2 ((orb M st u k).drop i0) (fun c o z => (same_new hp2) c o (e09 c o z)) ?_ (rund_of O hiN hnd hi0 hrun h1)
          rw [upd_same, cut_from (by rw [hRl]; omega)]
          unfold nis; rw [List.map_drop]
        · rw [decide_eq_false (show ¬ ((1 : Int) < ((k : Nat) : Int) - (i0 : Nat)) by omega)]
          refine ⟨_, _, _, rfl, e09, e9 _ _ hl5, fun s hs => ?_⟩
          by_cases hsi : s < st
          · exact hno5 s hsi
          · obtain rfl : s = st := by omega
            refine ⟨i0, ?_⟩
            rw [show i0 + 1 = k by omega]; exact hrun
      · rw [decide_eq_false hin]
        refine ⟨fun σ' H' => ∃ m', m' < m ∧ ∃ k : Nat, σ' = [some (.ref a), some (VS u), some (vi st), some (.ref R), some (vi (M.run st (pw u k)))] ∧ 1 ≤ k ∧ (orb M st u k).Nodup ∧ Same H5 H' ∧ H' R = some (.lst (nis (orb M st u k))) ∧ m' = M.n - k, fun _ _ h => h, ?_⟩
        have hnd2 := orb_nd hnd hin
        have hk1N := orb_le O hiN hnd2
        refine ⟨_, rfl, .inl ⟨rfl, _, .of hR9⟩, _, rfl, _, _, _, rfl, rfl, hR9, by rw [nis_len, orb_len]; exact slt (by omega), ?_⟩
        have hR10 : upd H9 R (.lst (nis (orb M st u k) ++ [vi (M.run st (pw u k))])) R = some (.lst (nis (orb M st u (k + 1)))) := by rw [upd_same, orb_snoc]; simp [nis]
        have e10 : Same H5 (upd H9 R (.lst (nis (orb M st u k) ++ [vi (M.run st (pw u k))]))) := same_mut e9 hR0
        generalize upd H9 R (.lst (nis (orb M st u k) ++ [vi (M.run st (pw u k))])) = H10 at hR10 e10
        have e010 : Same H H10 := fun b o z => e10 b o (e5 b o z)
        refine ⟨_, rfl, a, CW, dx, _, _, rfl, e010 _ _ hw1, T.clCW, T.nCW_base, fWk_base _ _ _ _, b, dy, _, rfl, e010 _ _ hb1, fM_no _ _ (by decide +kernel) (by decide +kernel), _, rfl, _, rfl, rfl, rfl, b, M, u, _, rfl, hMb.sol (.of e010), O, ou, ul, hgN, fun H11 e11 => ?_⟩
        exact ⟨M.n - (k + 1), by omega, k + 1, by rw [pw_succ', Mc.run_app]; rfl, by omega, hnd2, fun b o z => e11 b o (e10 b o z), e11 _ _ hR10, rfl⟩
    · rintro σ H2 ⟨v2, v3, v4, rfl, e2, hl2, hno⟩
      rw [nis_len, List.length_range] at hno
      exact q1 _ e2 hno
end
end Sw
/-! starfree_swing. -/
namespace Sw
open PySem PySem.Spec PyProof.Rows L2 LamX NdefX
theorem Rund.iter {M : Mc} {u : Wd} {row : List Nat} (R : Rund M u row) {k s : Nat} (h : row[k]? = some s) : ∀ i, row[(k + i) % row.length]? = some (M.run s (pw u i)) := fun i => by
  have h2 := R.two
  have hk := (List.getElem?_eq_some_iff.mp h).1
  induction i with
  | zero => rw [Nat.add_zero, Nat.mod_eq_of_lt hk, h]; rfl
  | succ i ih =>
    have := R.nx _ _ ih
    rw [pw_succ', Mc.run_app, ← this]
    congr 1
    rw [← Nat.add_assoc, Nat.mod_add_mod]
theorem turn_ex {m : Nat} (f : Nat → Bool) (hm : 2 ≤ m) (h : f 0 ≠ f 1) : ∃ k, k < m ∧ f k = true ∧ f ((k + 1) % m) = false := by
  refine Classical.byContradiction fun hn => ?_
  have step : ∀ k, k < m → f k = true → f ((k + 1) % m) = true := fun k hk hf => by
    cases e : f ((k + 1) % m) with
    | true => rfl
    | false => exact absurd ⟨k, hk, hf, e⟩ hn
  have go : ∀ k0, k0 < m → f k0 = true → ∀ i, f ((k0 + i) % m) = true := fun k0 h0 hf i => by
    induction i with
    | zero => rw [Nat.add_zero, Nat.mod_eq_of_lt h0]; exact hf
    | succ i ih =>
      have := step _ (Nat.mod_lt _ (by omega)) ih
      rw [Nat.mod_add_mod] at this
      exact this
  cases e0 : f 0 with
  | true =>
    have := go 0 (by omega) e0 1
    rw [Nat.zero_add, Nat.mod_eq_of_lt (by omega)] at this
    rw [e0, this] at h; exact h rfl
  | false =>
    cases e1 : f 1 with
    | false => rw [e0, e1] at h; exact h rfl
    | true =>
      have := go 1 (by omega) e1 (m - 1)
      rw [show 1 + (m - 1) = m by omega, Nat.mod_self] at this
      rw [e0] at this; cases this
theorem pw_tr {M : Mc} (O : M.Ok) {u v : Wd} (h : tr M u = tr M v) : ∀ (i s : Nat), s < M.n → M.run s (pw u i) = M.run s (pw v i)
  | 0, _, _ => rfl
  | i + 1, s, hs => by
    rw [pw, pw, Mc.run_app, Mc.run_app, tr_eq.mp h s hs]
    exact pw_tr O h i _ (O.run_lt hs v)
section
variable {P : Program} {w : World} {K : PySem.W.Frag} {mg : Str → Option Value} {base : Heap} {CM CA CW CG : Addr} {D : Cds}
theorem ok_starfree_swing (T : Tx K mg CM CA CW CG) (Y : Ty K mg base CW D) (G : Tg K mg CG) : Pr P w K mg base (CX P w) 9 "starfree_swing" P_starfree_swing [] (spSwG CM CW CG D .starfree) := by
  refine T.d_starfree_swing.pr sc_starfree_swing (fun _ _ _ _ _ _ us hl => match us, hl with | [_], _ => rfl) (fun vs H Q E h => ?_) (fun f cdv A outer s H vs Q E hr h => ?_)
  · obtain ⟨a, M, rfl, _⟩ := h; rfl
  · obtain ⟨a, M, rfl, hT, hW, O, q1, q2, q3⟩ := h
    have hn60 := O.le
    obtain ⟨dx, b, fw, p, hw1, hMb, ⟨ws, hfw, hwl, hws⟩, hst⟩ := id hW
    obtain ⟨dy, pb, hb1, _⟩ := id hMb
    refine ⟨_, (pss_cons (ps_set (i := 1) sc_starfree_swing.nd rfl (Or.inl rfl) (pe_makeP T.mkCA T.kpCA (ok_Algebra_init T Y G) (hr.mono (by decide)) rfl T.mgCA (passes_call (takes_of rfl rfl rfl rfl) (fun _ _ _ _ h => h)) (pa_cons (pe_fld (pv 0) rfl) pa_nil)))
 (pss_cons (ps_for (passes_of rfl) rfl (pi_list (pe_slice sl_list (pe_methP0 (pv 1) T.clCA (ok_Algebra_words T) (hr.mono (by decide)) pass0) (po_some pe_int) po_none)) (pg_name (i := 2) sc_starfree_swing.nd rfl (Or.inl rfl) (Or.inl rfl))
 (pss_cons (ps_set (i := 3) sc_starfree_swing.nd rfl (Or.inr rfl) (pe_callP (ok_round_by T) (hr.mono (by decide)) rfl pass0 (pa_cons (pv 0) (pa_cons (pv 2) pa_nil))))
 (pss_one (ps_if (pt_cmpR op_notN (pv 3) pe_non (nomark _))
 (pss_cons (ps_asg (pe_methP (pv 0) T.clCW (ok_Walks_parting T Y) (hr.mono (by decide)) pass0 (pa_cons (pe_ix ix_list (pv 3) pe_int (fun _ _ => rfl)) (pa_cons (pe_ix ix_list (pv 3) pe_int (fun _ _ => rfl)) pa_nil))) (pg_tup rfl (pgs_cons (pg_name (i := 4) sc_starfree_swing.nd rfl (Or.inr rfl) (Or.inl rfl)) (pgs_cons (pg_name (i := 5) sc_starfree_swing.nd rfl (Or.inl rfl) (Or.inl rfl)) pgs_nil))))
 (pss_cons (ps_set (i := 6) sc_starfree_swing.nd rfl (Or.inr rfl) (pe_lc (own := [("stand", 8)]) rfl sc_starfree_swing.nd (pi_list (pv 3)) (blkOk_by (own := [("stand", 8)]) (N := N_starfree_swing) (sc := defScope s_starfree_swing) (by decide +kernel)) (fun _ _ _ _ _ => (pg_name (i := 8) sc_starfree_swing.nd rfl (Or.inl rfl) (Or.inr rfl))) (fun _ _ _ _ _ => pts_nil) (fun _ _ _ _ _ => (pe_methP (pv 0) T.clCW (ok_Walks_ends T) (hr.mono (by decide)) pass0 (pa_cons (pe_methK (pe_fldK K rfl (pv 0) rfl) T.clCM (ok_behind T).2 (hr.mono (by decide)) pass0 (pa_cons (pv 4) pa_nil) (pk_cons (pv 8) pk_nil)) pa_nil)))))
 (pss_cons (ps_set (i := 7) sc_starfree_swing.nd rfl (Or.inl rfl) (pe_ix ix_list (pe_lc (own := [("k", 9)]) rfl sc_starfree_swing.nd (pi_range1 rfl T.z_range (pa_cons (pe_callB call_len rfl T.z_len boot_len (pa_cons (pv 3) pa_nil)) pa_nil)) (blkOk_by (own := [("k", 9)]) (N := N_starfree_swing) (sc := defScope s_starfree_swing) (by decide +kernel)) (fun _ _ _ _ _ => (pg_name (i := 9) sc_starfree_swing.nd rfl (Or.inl rfl) (Or.inr rfl))) (fun _ _ _ _ _ => pts_one (PW.pt (pw_and (pt_val (pe_ix (ixL_K K rfl) (pv 6) (pv 9) (fun _ _ => rfl))) (pw_and1 (pt_not (pt_val (pe_ix (ixL_K K rfl) (pv 6) (pe_op op_modN (pe_op op_add (pv 9) pe_int) (pe_callB (len_K K rfl) rfl T.z_len boot_len (pa_cons (pv 3) pa_nil))) (fun _ _ => rfl)))))))) (fun _ _ _ _ _ => (pv 9))) pe_int (fun _ _ => rfl)))
 (pss_one (ps_ret (pe_tup (pa_cons pe_str (pa_cons (pe_ix ix_list (pe_fld (pv 0) rfl) (pe_ix ix_list (pv 3) (pv 7) (fun _ _ => rfl)) (fun _ _ => rfl)) (pa_cons (pv 2) (pa_cons (pv 4) (pa_cons (pe_callB call_len rfl T.z_len boot_len (pa_cons (pv 3) pa_nil)) pa_nil)))))))))))
 pss_nil))))
 (pss_one (ps_ret pe_non)))), ?_⟩
    refine ⟨_, rfl, a, CW, dx, _, _, rfl, hw1, T.clCW, T.nCW_base, fWk_base _ _ _ _, ?_⟩
    refine fun A0 dA hA0 hdA hne0 => ?_
    have eM : Same H (upd (upd H dA (.own A0)) A0 (.ins CA dA [])) := fun c o z => by
      rw [upd_ne (ne_of_none z hA0), upd_ne (ne_of_none z hdA)]; exact z
    have hAM : upd (upd H dA (.own A0)) A0 (.ins CA dA []) A0 = some (.ins CA dA []) := upd_same
    generalize upd (upd H dA (.own A0)) A0 (.ins CA dA []) = HM at eM hAM
    refine ⟨A0, b, dA, M, rfl, hAM, hT.ext eM, hMb.sol (.of eM), O.toOk, fun H1 M' ds wls tb m1 m2 m3 m4 hAl hAD hG => ⟨rfl, ?_⟩, fun hgr H1 hG => q3 _ (hG H (.of eM) hA0) hgr⟩
    have g1 := hG H (.of eM) hA0
    have tw : Twin M.ls false M.lang M'.lang := fun u hu => by rw [m4 u hu]; cases M.lang u <;> rfl
    have hng : ¬ Great M.ls M.lang := fun hgr => hAD.not_great m1 (m2 ▸ tw.great hgr)
    have O' := m1
    have hpos := hAD.p.pos
    have h200 := hAD.few
    have hwl' : wls.length = ds.length := hAD.p.len.symm
    obtain ⟨dx5, b5, pd5, pW5, pn5, pt5, F5⟩ := id hAl
    refine ⟨_, rfl, A0, dx5, _, rfl, F5.i, fA_no (by decide +kernel), A0, M', ds, wls, tb, rfl, hAl, fun H2 pW e2 npw hpw => ⟨1, rfl, pW, _, rfl, .of hpw, fun l hl => ?_⟩⟩
    have hcut : cutV (wls.map VS) (some 1) none = (wls.drop 1).map VS := by
      have := cut_from (xs := wls.map VS) (i := 1) (by rw [List.length_map]; omega)
      rw [List.map_drop]; exact this
    rw [hcut]
    have e3 : Same H2 (upd H2 l (.lst ((wls.drop 1).map VS))) := same_new hl
    have hl3 : upd H2 l (.lst ((wls.drop 1).map VS)) l = some (.lst ((wls.drop 1).map VS)) := upd_same
    generalize upd H2 l (.lst ((wls.drop 1).map VS)) = H3 at e3 hl3
    have g3 := (g1.trans (.of e2)).trans (.of e3)
    refine ⟨l, rfl, ⟨_, .of hl3⟩, for_list (K := K) (a := l) (xs := (wls.drop 1).map VS) (fun k σ H5 => ∃ v2 v3 v4 v5 v6 v7 v8 v9, σ = [some (.ref a), some (.ref A0), v2, v3, v4, v5, v6, v7, v8, v9] ∧ Gr (Tb D) H3 H5 ∧ ∀ (k' : Nat) (v : Wd), k' < k → (wls.drop 1)[k']? = some v → ∀ s, s < M.n → ∃ i, M.run s (pw v i) = M.run s (pw v (i + 1)))
      ⟨_, _, _, _, _, _, _, _, rfl, Gr.refl, fun k' v h => absurd h (Nat.not_lt_zero _)⟩ (fun k σ H5 _ h => by obtain ⟨_, _, _, _, _, _, _, _, _, h, _⟩ := h; exact .of (h.sol _ _ hl3 trivial)) ?_ ?_⟩
    · rintro k x σ H5 hx ⟨v2, v3, v4, v5, v6, v7, v8, v9, rfl, g5, hno⟩
      obtain ⟨v, hv, rfl⟩ := vs_inv hx
      have hv' : wls[1 + k]? = some v := by rw [List.getElem?_drop] at hv; exact hv
      obtain ⟨ov1, vl, hdv⟩ := hAD.p.wd _ v hv'
      rw [m2] at ov1
      have hkl := (List.getElem?_eq_some_iff.mp hv').1
      have g15 := g3.trans g5
      refine ⟨_, rfl, _, rfl, a, M, v, rfl, hW.sol g15.sol, O.toOk, ov1, by omega, fun H6 e6 hnone => ⟨_, rfl, rfl, _, rfl, ?_⟩, fun H6 pr row e6 hrow R => ⟨_, rfl, rfl, _, rfl, ?_⟩⟩
      · refine ⟨_, _, _, _, _, _, _, _, rfl, g5.trans (.of e6), fun k' v' h1 h2 => ?_⟩
        by_cases hkk : k' < k
        · exact hno k' v' hkk h2
        · have : k' = k := by omega
          subst this
          rw [hv] at h2; cases h2; exact hnone
      · have h2 := R.two
        have g16 := g15.trans (.of e6)
        obtain ⟨s0, hs0⟩ : ∃ s0, row[0]? = some s0 := ⟨_, List.getElem?_eq_getElem (by omega)⟩
        obtain ⟨s1, hs1⟩ : ∃ s1, row[1]? = some s1 := ⟨_, List.getElem?_eq_getElem (by omega)⟩
        have hne01 : s0 ≠ s1 := fun e => by
          rw [← e] at hs1
          have := nd_inj R.nd hs0 hs1
          omega
        have hrN := nodup_le row (List.range M.n) R.nd fun x hx => List.mem_range.mpr (R.lt x hx)
        rw [List.length_range] at hrN
        have hl0 := R.lt s0 (List.mem_of_getElem? hs0)
        have hl1 := R.lt s1 (List.mem_of_getElem? hs1)
        refine ⟨_, rfl, a, dx, _, rfl, g16.sol _ _ hw1 trivial, fWk_no _ _ _ _ (by decide +kernel), _, rfl, pr, _, 0, _, rfl, rfl, .of hrow, atI_nat (j := 0) (nis_get hs0), _, rfl, pr, _, 1, _, rfl, rfl, .of hrow, atI_nat (j := 1) (nis_get hs1), a, M, s0, s1, rfl, g16.tab hT, hW.sol g16.sol, O, hl0, hl1, hne01, fun H7 p7 u g7 hu1 hu2 hu3 hp7 => ?_⟩
        have g17 := g16.trans g7
        have hrow7 := g7.sol _ _ hrow trivial
        refine ⟨p7, _, rfl, .inl (.inl hp7), rfl, _, _, rfl, _, _, rfl, rfl, ?_⟩
        have hrl : (nis row).length = row.length := nis_len _
        refine ⟨_, rfl, pr, rfl, ⟨_, .of hrow7⟩, fun L hL => lc_map (walk_list (xs := nis row)) (Same H7) (fun k => .bl (M.fin (M.run (row.getD k 0) u))) (by rw [hrl]; exact sl (by omega)) (same_new hL) (fun k H8 hk r hD2 => .of (r _ _ hrow7)) (fun H8 xs ys r _ => same_mut r hL) (fun k x H8 H8' Q' hk r8 hD8 hY kk => ?_) (fun H8 r8 hL8 => ?_)⟩
        · obtain ⟨rfl, hx⟩ := hY
          obtain ⟨st, hst2, rfl⟩ := nis_inv hx
          have hstN := R.lt st (List.mem_of_getElem? hst2)
          have kk2 := kk
          rw [getD_of hst2] at kk2
          have g18 := g17.trans (.of r8)
          refine ⟨rfl, _, rfl, a, dx, _, rfl, g18.sol _ _ hw1 trivial, fWk_no _ _ _ _ (by decide +kernel), _, rfl, a, CW, dx, _, _, rfl, g18.sol _ _ hw1 trivial, T.clCW, T.nCW_base, fWk_base _ _ _ _, b, dy, _, rfl, g18.sol _ _ hb1 trivial, fM_no _ _ (by decide +kernel) (by decide +kernel), _, rfl, _, rfl, rfl, rfl, b, M, u, st, rfl, hMb.sol g18.sol, O.toOk, hu1, by omega, hstN, fun H9 e9 => ?_⟩
          exact ⟨a, M, M.run st u, rfl, (hW.sol g18.sol).sol (.of e9), O.toOk, O.run_lt hstN _, kk2 _ (e9 _ _ hD8) fun c o z => e9 c o (r8 c o z)⟩
        · rw [hrl] at hL8
          have hrow8 := r8 _ _ hrow7
          have g18 := g17.trans (.of r8)
          generalize hmk : (fun k => M.fin (M.run (row.getD k 0) u)) = mk
          have hmk2 : ∀ k, M.fin (M.run (row.getD k 0) u) = mk k := fun k => by rw [← hmk]
          have htg : ∀ k, k < row.length → (tab (fun k => V.bl (M.fin (M.run (row.getD k 0) u))) row.length)[k]? = some (.bl (mk k)) := fun k hk => by
            unfold tab; rw [List.getElem?_map, List.getElem?_range hk]; exact congrArg (fun z => some (V.bl z)) (hmk2 k)
          generalize tab (fun k => V.bl (M.fin (M.run (row.getD k 0) u))) row.length = marks at hL8 htg
          refine ⟨_, rfl, _, row.length, rfl, .inl ⟨_, .of hrow8, hrl.symm⟩, _, rfl, lo62, lt62 (Nat.le_trans hrN (by omega)), fun L2' hL2 => ?_⟩
          refine lc_it (walk_range (lo := 0) (n := row.length)) (fun i H9 => ∃ sub : List Nat, Same H8 H9 ∧ H9 L2' = some (.lst (nis sub)) ∧ sub.length ≤ i ∧ (∀ k ∈ sub, k < row.length ∧ mk k = true ∧ mk ((k + 1) % row.length) = false) ∧ ∀ k, k < i → mk k = true → mk ((k + 1) % row.length) = false → k ∈ sub) ⟨[], same_new hL2, upd_same, Nat.le_refl _, fun k h => (by cases h), fun k h => absurd h (Nat.not_lt_zero _)⟩ (fun _ _ _ _ => trivial) (fun i x H9 H9' hi h hY => ?_) (fun H9 h => ?_)
          · obtain ⟨sub, r9, hS9, hsl, hsub, hall⟩ := h
            obtain ⟨rfl, hx⟩ := hY
            have hx2 : x = vi i := by
              rw [hx]; show V.int (0 + (i : Nat)) = V.int (i : Nat); rw [Int.zero_add]
            subst hx2
            have hL9 := r9 _ _ hL8
            have hrow9 := r9 _ _ hrow8
            refine ⟨rfl, _, rfl, _, rfl, L, _, _, _, rfl, rfl, .of hL9, atI_nat (htg i hi), _, rfl, ?_⟩
            cases hmi : mk i with
            | false =>
              refine ⟨sub, r9, hS9, by omega, hsub, fun k hk h1 h2 => ?_⟩
              by_cases hki : k < i
              · exact hall k hki h1 h2
              · have : k = i := by omega
                rw [this, hmi] at h1; cases h1
            | true =>
              have hmod : ((i + 1) % row.length) < row.length := Nat.mod_lt _ (by omega)
              have hfm : (((i : Nat) : Int) + 1).fmod ((row.length : Nat) : Int) = (((i + 1) % row.length : Nat) : Int) := by
                rw [Int.fmod_eq_emod_of_nonneg _ (by omega)]
                rw [show (((i : Nat) : Int) + 1) = ((i + 1 : Nat) : Int) by omega]
                exact (Int.natCast_emod _ _).symm
              refine ⟨_, rfl, _, rfl, _, _, rfl, rfl, _, rfl, _, row.length, rfl, .inl ⟨_, .of hrow9, hrl.symm⟩, _, _, rfl, rfl, by omega, L, _, (((i + 1) % row.length : Nat) : Int), _, rfl, congrArg V.int hfm, .of hL9, atI_nat (htg _ hmod), _, rfl, ?_⟩
              cases hmi2 : mk ((i + 1) % row.length) with
              | true =>
                refine ⟨sub, r9, hS9, by omega, hsub, fun k hk h1 h2 => ?_⟩
                by_cases hki : k < i
                · exact hall k hki h1 h2
                · have : k = i := by omega
                  rw [this, hmi2] at h2; cases h2
              | false =>
                refine ⟨_, rfl, _, hS9, by rw [nis_len]; exact slt (by omega), sub ++ [i], same_mut r9 hL2, by rw [upd_same]; simp [nis], by rw [List.length_append, List.length_singleton]; omega, fun k hk => ?_, fun k hk h1 h2 => ?_⟩
                · rcases List.mem_append.mp hk with z | z
                  · exact hsub k z
                  · rw [List.mem_singleton.mp z]; exact ⟨hi, hmi, hmi2⟩
                · by_cases hki : k < i
                  · exact List.mem_append.mpr (.inl (hall k hki h1 h2))
                  · exact List.mem_append.mpr (.inr (by rw [show k = i by omega]; simp))
          · obtain ⟨sub, r9, hS9, hsl, hsub, hall⟩ := h
            have hm01 : mk 0 ≠ mk 1 := by
              rw [← hmk2 0, ← hmk2 1, getD_of hs0, getD_of hs1, hu3]
              cases M.fin (M.run s0 u) <;> simp
            obtain ⟨k0, hk0, hk1, hk2⟩ := turn_ex mk h2 hm01
            have hk0s := hall k0 hk0 hk1 hk2
            cases sub with
            | nil => cases hk0s
            | cons ka rest =>
              obtain ⟨a1, a2, a3⟩ := hsub ka List.mem_cons_self
              have hrow9 := r9 _ _ hrow8
              have g19 := g18.trans (.of r9)
              obtain ⟨sa, hsa⟩ : ∃ sa, row[ka]? = some sa := ⟨_, List.getElem?_eq_getElem a1⟩
              have hsaN := R.lt sa (List.mem_of_getElem? hsa)
              obtain ⟨w0, hw0⟩ : ∃ w0, ws[sa]? = some w0 := ⟨_, List.getElem?_eq_getElem (by rw [hwl]; exact hsaN)⟩
              obtain ⟨b1, b2, b3⟩ := hws sa w0 hw0
              refine ⟨L2', _, 0, _, rfl, rfl, .of hS9, atI_nat (j := 0) rfl, ?_⟩
              refine ⟨_, rfl, a, CW, dx, _, _, rfl, g19.sol _ _ hw1 trivial, T.clCW, T.nCW_first_words, fWk_fw _ _ _ _, _, rfl, _, rfl, pr, _, _, _, rfl, rfl, .of hrow9, atI_nat (nis_get hsa), fw, _, _, _, rfl, rfl, .of (g19.sol _ _ hfw trivial), atI_nat (vs_get hw0), _, rfl, _, rfl, _, rfl, _, row.length, rfl, .inl ⟨_, .of hrow9, hrl.symm⟩, by show 5 ≤ 2 ^ 24; decide, fun p hp => ?_⟩
              have hnx := R.nx ka sa hsa
              have f1 : M.fin (M.run sa u) = true := by rw [← a2, ← hmk2 ka, getD_of hsa]
              have f2 : M.fin (M.run (M.run sa v) u) = false := by rw [← a3, ← hmk2, getD_of hnx]
              have hback : M.run sa (pw v row.length) = sa := by
                have := R.iter hsa row.length
                rw [Nat.add_mod_right, Nat.mod_eq_of_lt a1, hsa] at this
                exact (Option.some.inj this).symm
              have hv0 : v ≠ [] := fun e => by
                rw [e] at f2; rw [show M.run sa [] = sa from rfl, f1] at f2; cases f2
              obtain ⟨k1, k2⟩ := O.starfree_some (u := w0) (y := v) (v := u) (p := row.length) b1 ov1 hu1 (by rw [b2]; exact hback) (by omega) (by rw [b2]; exact f1) (by rw [b2]; exact f2)
              exact q2 _ p (.starfree w0 v u row.length) (g19.trans (.of (same_new hp))) hng ⟨k1, rfl, ⟨.of b1 b3 (by omega), .of ov1 vl (by omega), hv0, .of hu1 hu2 (by omega), h2, by omega⟩, k2⟩ upd_same
    · rintro σ H5 ⟨v2, v3, v4, v5, v6, v7, v8, v9, rfl, g5, hno⟩
      rw [List.length_map] at hno
      refine q1 _ (g3.trans g5) hng (O.starfree_none fun u ou u0 s hs => ?_)
      obtain ⟨j, hj⟩ := hAD.elem (m2.symm ▸ ou : Ov M'.ls u)
      obtain ⟨v, hv, ov', _, hdv⟩ := hAD.p.at (List.getElem?_eq_some_iff.mp hj).1
      rw [m2] at ov'
      rw [hj] at hdv
      have htr := (tr_iff O O' m2 tw ou ov').mp (Option.some.inj hdv)
      cases j with
      | zero =>
        rw [hAD.p.zero] at hv; cases hv
        exact ⟨0, by rw [pw_tr O.toOk htr 1 s hs]; rfl⟩
      | succ j =>
        have hv2 : (wls.drop 1)[j]? = some v := by rw [List.getElem?_drop, Nat.add_comm]; exact hv
        obtain ⟨i, hi⟩ := hno j v (List.getElem?_eq_some_iff.mp hv2).1 hv2 s hs
        exact ⟨i, by rw [pw_tr O.toOk htr i s hs, pw_tr O.toOk htr (i + 1) s hs]; exact hi⟩
end
end Sw
/-! swing. -/
namespace Sw
open PySem PySem.Spec PyProof.Rows L2 LamX NdefX
structure Tsh (K : PySem.W.Frag) (mg : Str → Option Value) (SA : Addr) : Prop where
  g : mg "SHAPES" = some (.ref SA)
  t : ∀ H, SqT K H SA ((kds.map kdN).map V.str)
  o : ∃ o, K.lookup SA = some o ∧ o.cls = .type "tuple" ∧ o.dict = none
/-- searches that may be refused -/
def Mayg (k : Kd) : Prop := k = .subwords ∨ k = .starfree
theorem fnUp {P : Program} {w : World} {K : PySem.W.Frag} {mg : Str → Option Value} {base : Heap} {C2 : CXT} {k : Nat} {f : Addr} {fd : FuncData} {ps : List Str} {sp : Sp} (F : FnOk P w K mg base CX0 k f fd ps sp) : FnOk P w K mg base C2 k f fd ps sp :=
  ⟨F.len, fun A outer s H args us vs Q E hr he hb hv hs => codeAny_mono (F.run A outer s H args us vs Q E hr he hb hv hs) fun r s' h => by
    cases r with
    | error e => exact h.elim
    | ok fl => cases fl <;> exact h⟩
section
variable {P : Program} {w : World} {K : PySem.W.Frag} {mg : Str → Option Value} {base : Heap} {CM CA CW CG SA : Addr} {D : Cds}
def spSwing (CM CG : Addr) (D : Cds) : Sp := fun vs H Q E => ∃ (m : Addr) (M0 : Mc) (k : Kd), vs = [.str (kdN k), .ref m] ∧ TabsN (Tb D) H ∧ MachAt CM H m M0 ∧ M0.Ok ∧
  (∀ H', Gr (Tb D) H H' → (Mayg k → ¬ Great M0.ls M0.lang) → ¬ Cond M0.ls M0.lang k → Q .non H') ∧
  (∀ H' p g, Gr (Tb D) H H' → (Mayg k → ¬ Great M0.ls M0.lang) → Fnd M0.ls M0.lang k g → H' p = some (.tup (sgV g)) → Q (.ref p) H') ∧
  (∀ H', Gr (Tb D) H H' → Mayg k → Great M0.ls M0.lang → E (.ref CG) none H')
/-- what each search promises, in one form -/
def spAny (CM CW CG : Addr) (D : Cds) (k : Kd) : Sp := fun vs H Q E => ∃ (a : Addr) (M : Mc), vs = [.ref a] ∧ TabsN (Tb D) H ∧ WalksAt CM CW H a M ∧ M.Min ∧
  (∀ H', Gr (Tb D) H H' → (Mayg k → ¬ Great M.ls M.lang) → ¬ Cond M.ls M.lang k → Q .non H') ∧ (∀ H' p g, Gr (Tb D) H H' → (Mayg k → ¬ Great M.ls M.lang) → Fnd M.ls M.lang k g → H' p = some (.tup (sgV g)) → Q (.ref p) H') ∧
  (∀ H', Gr (Tb D) H H' → Mayg k → Great M.ls M.lang → E (.ref CG) none H')
theorem spAny_sw {k : Kd} (hk : ¬ Mayg k) : ∀ vs H Q E, spAny CM CW CG D k vs H Q E → spSw CM CW D k vs H Q E := fun vs H Q E ⟨a, M, e, hT, hW, O, q1, q2, q3⟩ =>
  ⟨a, M, e, hT, hW, O, fun H' g hc => q1 H' g (fun z => absurd z hk) hc, fun H' p x g hf hp => q2 H' p x g (fun z => absurd z hk) hf hp⟩
theorem spAny_sg {k : Kd} (hk : Mayg k) : ∀ vs H Q E, spAny CM CW CG D k vs H Q E → spSwG CM CW CG D k vs H Q E := fun vs H Q E ⟨a, M, e, hT, hW, O, q1, q2, q3⟩ =>
  ⟨a, M, e, hT, hW, O, fun H' g hn hc => q1 H' g (fun _ => hn) hc, fun H' p x g hn hf hp => q2 H' p x g (fun _ => hn) hf hp, fun H' g hg => q3 H' g hk hg⟩
theorem fv_of {k n : Nat} {ps : List Str} {kd : Kd} {sp : Sp} {f : Addr} {fd : FuncData} {ds : List Value} (kp : PySem.W.keepIn K (.ref f) = true) (b : Binds K fd ps ds) (v : Vals [] ds) (F : FnOk P w K mg base (CX P w) k f fd ps sp) (h : ∀ vs H Q E, spAny CM CW CG D kd vs H Q E → sp vs H Q E) (hk : k ≤ n) : Fv P w K mg base (CX P w) n f (spAny CM CW CG D kd) := by
  cases v
  exact ⟨fd, ps, kp, b, (F.mono hk).imp h⟩
theorem twin_of {M0 M : Mc} (h : ∀ u, Ov M0.ls u → M.lang u = M0.lang u) : Twin M0.ls false M0.lang M.lang := fun u hu => by rw [h u hu]; cases M0.lang u <;> rfl
theorem fnd_back {M0 M : Mc} (hls : M.ls = M0.ls) (tw : Twin M0.ls false M0.lang M.lang) {k : Kd} {g : Sg} (h : Fnd M.ls M.lang k g) : Fnd M0.ls M0.lang k g := by
  obtain ⟨c1, c2, c3, c4⟩ := h
  rw [hls] at c1 c3
  exact ⟨tw.symm.cond k c1, c2, c3, shows_same tw.symm c3 c4⟩
theorem ok_swing (T : Tx K mg CM CA CW CG) (Y : Ty K mg base CW D) (G : Tg K mg CG) (Z : Tsh K mg SA) : Pr P w K mg base (CX P w) 10 "swing" P_swing [] (spSwing CM CG D) := by
  obtain ⟨f1, fd1, ds1, g1, kp1, bb1, vv1, F1⟩ := (ok_few_swing (P := P) (w := w) T Y).ex
  obtain ⟨f2, fd2, ds2, g2, kp2, bb2, vv2, F2⟩ := (ok_starts_swing (P := P) (w := w) T Y).ex
  obtain ⟨f3, fd3, ds3, g3, kp3, bb3, vv3, F3⟩ := (ok_ends_swing (P := P) (w := w) T Y).ex
  obtain ⟨f4, fd4, ds4, g4, kp4, bb4, vv4, F4⟩ := (ok_counts_swing (P := P) (w := w) T Y).ex
  obtain ⟨f5, fd5, ds5, g5, kp5, bb5, vv5, F5⟩ := (ok_subwords_swing (P := P) (w := w) T Y G).ex
  obtain ⟨f6, fd6, ds6, g6, kp6, bb6, vv6, F6⟩ := (ok_falling_swing (P := P) (w := w) T Y).ex
  obtain ⟨f7, fd7, ds7, g7, kp7, bb7, vv7, F7⟩ := (ok_starfree_swing (P := P) (w := w) T Y G).ex
  obtain ⟨f8, fd8, ds8, g8, kp8, bb8, vv8, F8⟩ := (ok_turning_swing (P := P) (w := w) T Y).ex
  refine T.d_swing.pr sc_swing (fun _ _ _ _ _ _ us hl => match us, hl with | [_, _], _ => rfl) (fun vs H Q E h => ?_) (fun f cdv A outer s H vs Q E hr h => ?_)
  · obtain ⟨m, M0, k, rfl, _⟩ := h; rfl
  · obtain ⟨m, M0, k, rfl, hT, hM, O, q1, q2, q3⟩ := h
    refine ⟨_, (pss_cons (ps_if (PW.pt (pw_or (pt_not (pt_val (pe_callB call_isi rfl T.z_isinstance (by decide +kernel) (pa_cons (pv 0) (pa_cons (pe_bltn (v := .ty "str") rfl T.z_str (by decide +kernel) rfl) pa_nil))))) (pw_or1 (pt_cmpR op_notIn_seq (pv 0) (pe_glob (v := .ref SA) rfl Z.g rfl) (by rfl)))))
 (pss_one ps_never)
 pss_nil)
 (pss_cons (ps_set (i := 2) sc_swing.nd rfl (Or.inl rfl) (pe_lst (pa_cons (pe_glob (v := .ref f1) rfl g1 rfl) (pa_cons (pe_glob (v := .ref f2) rfl g2 rfl) (pa_cons (pe_glob (v := .ref f3) rfl g3 rfl) (pa_cons (pe_glob (v := .ref f4) rfl g4 rfl) (pa_cons (pe_glob (v := .ref f5) rfl g5 rfl) (pa_cons (pe_glob (v := .ref f6) rfl g6 rfl) pa_nil))))))))
 (pss_cons (ps_aug (i := 2) sc_swing.nd rfl (Or.inl rfl) (pe_lst (pa_cons (pe_glob (v := .ref f7) rfl g7 rfl) (pa_cons (pe_glob (v := .ref f8) rfl g8 rfl) pa_nil))) iop_ext)
 (pss_one (ps_ret (pe_callV (k := 9) (pe_ix ix_list (pv 2) (pe_bm PySem.F.plainAttrs_tuple PySem.F.slot_tuple_index PySem.F.type_tuple_index mt_tup_index (pe_glob (v := .ref SA) rfl Z.g rfl) (pa_cons (pv 0) pa_nil)) (fun _ _ => rfl)) (hr.mono (by decide)) (passes_call (takes_of rfl rfl rfl rfl) (fun _ _ _ _ h => h)) (pa_cons (pe_makeP T.mkCW T.kpCW (ok_Walks_init T Y) (hr.mono (by decide)) rfl T.mgCW pass0 (pa_cons (pv 1) pa_nil)) pa_nil))))))), ?_⟩
    have hin : inV (.str (kdN k)) ((kds.map kdN).map V.str) = true := by cases k <;> decide +kernel
    refine ⟨_, rfl, _, _, _, _, _, rfl, .ty _, .base (.str _), k_ss, _, rfl, ?_⟩
    refine ⟨_, rfl, SA, _, rfl, .inr (Z.t _), rfl, by decide +kernel, _, rfl, ?_⟩
    show (if (!inV (.str (kdN k)) ((kds.map kdN).map V.str)) = true then _ else _)
    rw [hin]
    refine ⟨by show 6 ≤ 2 ^ 24; decide, fun dl hdl => ?_⟩
    have e1 : Same H (upd H dl (.lst [.ref f1, .ref f2, .ref f3, .ref f4, .ref f5, .ref f6])) := same_new hdl
    have hd1 : upd H dl (.lst [.ref f1, .ref f2, .ref f3, .ref f4, .ref f5, .ref f6]) dl = some (.lst [.ref f1, .ref f2, .ref f3, .ref f4, .ref f5, .ref f6]) := upd_same
    refine ⟨_, rfl, by show 2 ≤ 2 ^ 24; decide, fun d2 hd2 => ?_⟩
    have ndd : dl ≠ d2 := ne_of_none hd1 hd2
    refine ⟨dl, d2, [.ref f1, .ref f2, .ref f3, .ref f4, .ref f5, .ref f6], [.ref f7, .ref f8], rfl, rfl, by rw [upd_ne ndd]; exact hd1, upd_same, by show 6 + 2 ≤ 2 ^ 24; decide, ?_⟩
    have e2 : Same H (upd (upd H dl (.lst [.ref f1, .ref f2, .ref f3, .ref f4, .ref f5, .ref f6])) d2 (.lst [.ref f7, .ref f8])) := fun b o z => (same_new hd2) b o (e1 b o z)
    have hd3 : upd (upd (upd H dl (.lst [.ref f1, .ref f2, .ref f3, .ref f4, .ref f5, .ref f6])) d2 (.lst [.ref f7, .ref f8])) dl (.lst ([.ref f1, .ref f2, .ref f3, .ref f4, .ref f5, .ref f6] ++ [.ref f7, .ref f8])) dl = some (.lst [.ref f1, .ref f2, .ref f3, .ref f4, .ref f5, .ref f6, .ref f7, .ref f8]) := upd_same
    have e3 : Same H (upd (upd (upd H dl (.lst [.ref f1, .ref f2, .ref f3, .ref f4, .ref f5, .ref f6])) d2 (.lst [.ref f7, .ref f8])) dl (.lst ([.ref f1, .ref f2, .ref f3, .ref f4, .ref f5, .ref f6] ++ [.ref f7, .ref f8]))) := same_mut e2 hdl
    generalize upd (upd (upd H dl (.lst [.ref f1, .ref f2, .ref f3, .ref f4, .ref f5, .ref f6])) d2 (.lst [.ref f7, .ref f8])) dl (.lst ([.ref f1, .ref f2, .ref f3, .ref f4, .ref f5, .ref f6] ++ [.ref f7, .ref f8])) = H3 at hd3 e3
    obtain ⟨j, hj, hfirst, fk, hfk, hFv⟩ : ∃ j : Nat, (kds.map kdN)[j]? = some (kdN k) ∧ (∀ m, m < j → (kds.map kdN)[m]? ≠ some (kdN k)) ∧ ∃ fk, ([.ref f1, .ref f2, .ref f3, .ref f4, .ref f5, .ref f6, .ref f7, .ref f8] : List V)[j]? = some (.ref fk) ∧ Fv P w K mg base (CX P w) 9 fk (spAny CM CW CG D k) := by
      have few : ∀ (j : Nat) (a : Kd), kds[j]? = some a → (∀ m, m < j → (kds.map kdN)[m]? ≠ some (kdN a)) := fun j a hj m hm e => by
        have h8 : j < 8 := (List.getElem?_eq_some_iff.mp hj).1
        have hnd : (kds.map kdN).Nodup := by decide +kernel
        have hj2 : (kds.map kdN)[j]? = some (kdN a) := by rw [List.getElem?_map, hj]; rfl
        have := nd_inj hnd e hj2
        omega
      cases k with
      | few => exact ⟨0, rfl, few 0 .few rfl, f1, rfl, fv_of kp1 bb1 vv1 (fnUp F1) (spAny_sw (by unfold Mayg; simp)) (by decide)⟩
      | starts => exact ⟨1, rfl, few 1 .starts rfl, f2, rfl, fv_of kp2 bb2 vv2 (fnUp F2) (spAny_sw (by unfold Mayg; simp)) (by decide)⟩
      | ends => exact ⟨2, rfl, few 2 .ends rfl, f3, rfl, fv_of kp3 bb3 vv3 (fnUp F3) (spAny_sw (by unfold Mayg; simp)) (by decide)⟩
      | counts => exact ⟨3, rfl, few 3 .counts rfl, f4, rfl, fv_of kp4 bb4 vv4 (fnUp F4) (spAny_sw (by unfold Mayg; simp)) (by decide)⟩
      | subwords => exact ⟨4, rfl, few 4 .subwords rfl, f5, rfl, fv_of kp5 bb5 vv5 F5 (spAny_sg (.inl rfl)) (by decide)⟩
      | falling => exact ⟨5, rfl, few 5 .falling rfl, f6, rfl, fv_of kp6 bb6 vv6 (fnUp F6) (spAny_sw (by unfold Mayg; simp)) (by decide)⟩
      | starfree => exact ⟨6, rfl, few 6 .starfree rfl, f7, rfl, fv_of kp7 bb7 vv7 F7 (spAny_sg (.inr rfl)) (by decide)⟩
      | turning => exact ⟨7, rfl, few 7 .turning rfl, f8, rfl, fv_of kp8 bb8 vv8 (fnUp F8) (spAny_sw (by unfold Mayg; simp)) (by decide)⟩
    refine ⟨_, rfl, .inr (.inl ⟨rfl, Z.o⟩), _, rfl, SA, kds.map kdN, kdN k, j, rfl, rfl, Z.t _, hj, hfirst, dl, _, _, _, rfl, rfl, .of hd3, atI_nat hfk, fk, spAny CM CW CG D k, rfl, hFv, ?_⟩
    refine ⟨_, rfl, fun wa dW hwa hdW hneW => ?_⟩
    have eW : Same H3 (upd (upd H3 dW (.own wa)) wa (.ins CW dW [])) := fun c o z => by
      rw [upd_ne (ne_of_none z hwa), upd_ne (ne_of_none z hdW)]; exact z
    have hWM : upd (upd H3 dW (.own wa)) wa (.ins CW dW []) wa = some (.ins CW dW []) := upd_same
    generalize upd (upd H3 dW (.own wa)) wa (.ins CW dW []) = HW at eW hWM
    have e4 : Same H HW := fun c o z => eW c o (e3 c o z)
    refine ⟨wa, m, dW, M0, rfl, hWM, hT.ext e4, hM.sol (.of e4), O, fun H4 M m1 m2 m3 m4 hWA hG => ⟨rfl, ?_⟩⟩
    have hwa0 : H wa = none := e3.free hwa
    have g4 := hG H (.of e4) hwa0
    have tw := twin_of m4
    refine ⟨wa, M, rfl, g4.tab hT, hWA, m1, fun H' g hg hc => q1 H' (g4.trans g) (fun z y => hg z (m2 ▸ tw.great y)) (fun y => hc (m2 ▸ tw.cond k y)), fun H' p x g hg hf hp => q2 H' p x (g4.trans g) (fun z y => hg z (m2 ▸ tw.great y)) (fnd_back m2 tw hf) hp, fun H' g hk hg => q3 H' (g4.trans g) hk (tw.symm.great (m2 ▸ hg))⟩
end
end Sw
/-! Rules: a, b = a list; t[::-1]; sorted(text). -/
namespace Sw
open PySem PySem.Spec PyProof.Rows L2 LamX NdefX
/-- a, b, .. = the list at a -/
def gLst (K : PySem.W.Frag) (n : Nat) (t : TGs) : TG := fun v σ H Q => ∃ a xs, v = .ref a ∧ SqL K H a xs ∧ xs.length = n ∧ t xs σ H Q
theorem pg_lst {X : Cx} {pos : Pos} {es : List Expr} {k : Nat} {t : TGs} {n : Nat} (hc : X.calm = true) (h : PGs X es t)
    (hn : (assignEach es X.env).length = n := by rfl) (hst : (assignEach es X.env).findIdx? (·.1) = none := by rfl) : PG X (.Tuple es k pos) (gLst X.K n t) := by
  refine ⟨fun pins s σ H v u Q I r hw => ?_⟩
  obtain ⟨a, xs, e1, hq, hl, hw⟩ := hw
  subst e1
  cases r
  obtain ⟨its, rv, pl, hz⟩ := I.list hq
  rw [PyProof.Rows.assign_Tuple]
  refine wpAny_bind (wpAny_standAt ?_)
  unfold unpack
  have hsz : (assignEach es X.env).length = its.toArray.size := by rw [hn, ← hl, List.size_toArray]; exact rv.length
  rw [hsz, hst]
  refine wpAny_bind (wpAny_holding (PySem.W.kun_itemsOf (I.ok.hd hc) pl.isList fun h' hx => ?_))
  have I1 : L2.Inv X pins σ H { s with heap := h' } := I.kept (t' := s.toks) fun b o e => hx b o (Nat.ne_of_lt (Heap.lt_size e)) e
  exact h.run pins _ σ H xs _ Q I1 (by simpa using rv) hw

/-- t[::-1], t a tuple of two -/
def tRevT (K : PySem.W.Frag) (te : TE) : TE := fun σ H Q => te σ H fun x H1 => ∃ a y z, x = .ref a ∧ SqT K H1 a [y, z] ∧ ∀ p, H1 p = none → Q (.ref p) (upd H1 p (.tup [z, y]))
section
variable {prog : Program} {w : World} {A : Around} {E : Value → Shared → Prop} {s : Shared}
theorem sliceApplied_rev {sl : Addr} {vs : Value} {n : Nat} {Q : Int × Int × Nat → Shared → Prop} (hs : s.heap.IsSliceOf sl .none .none vs) (ps : IsPart vs (some (-1)))
    (h : Q ((n : Int) - 1, -1, Builtin.Slice.slicePlaces ((n : Int) - 1) (-1) (-1)) s) : wpAny (model prog w) A (Builtin.Slice.sliceApplied (.ref sl) (pure (n : Int))) Q E s := by
  obtain ⟨os, hos, hcs, hds⟩ := id hs
  obtain ⟨u, rfl⟩ : ∃ u, vs = .int (-1) u := by cases ps; exact ⟨_, rfl⟩
  unfold Builtin.Slice.sliceApplied Builtin.Slice.sliceFields
  refine wpAny_bind (wpAny_bind (wpAny_field hos hds (x := .none) rfl (wpAny_bind (wpAny_field hos hds (x := .none) rfl (wpAny_bind (wpAny_field hos hds (x := .int (-1) u) rfl (wpAny_pure ?_)))))))
  refine wpAny_bind (HT.slicePart_ ps ?_)
  show wpAny _ _ (if ((-1 : Int) == 0) = true then _ else _) _ _ s
  rw [if_neg (by decide)]
  refine wpAny_bind (HT.slicePart_ .none (wpAny_bind (HT.slicePart_ .none (wpAny_bind (wpAny_pure ?_)))))
  exact wpAny_pure h
theorem getItem_rev2 {t sl : Addr} {x y vs : Value} {Q : Value → Shared → Prop} (ht : IsTup s.heap t #[x, y]) (hs : s.heap.IsSliceOf sl .none .none vs) (ps : IsPart vs (some (-1)))
    (h : Q (.ref s.heap.objs.size) { s with heap := s.heap.push { cls := .type "tuple", data := .seq #[y, x] } }) : wpAny (model prog w) A (getItem (.ref t) (.ref sl)) Q E s := by
  obtain ⟨os, hos, hcs, hds⟩ := id hs
  have hTs : s.TypeIs (.ref sl) "slice" := ⟨os, hos, hcs⟩
  unfold getItem
  try with_reducible refine wpAny_holding ?_
  first | refine wpAny_bind (wpAny_pure ?_) | skip
  refine wpAny_bind (wpAny_sequenceKey ht.typeIs (by decide) ?_)
  refine wpAny_bind (wpAny_callSpecial?_slot (name := Str.ofString "__getitem__") ht.typeIs PyProof.Rows.slot_tuple_getitem
    (wpAny_call_entry PyProof.Rows.slot_tuple_getitem ht.typeIs entry_tuple_getitem ?_ (args_tuple_getitem _ _)))
  show wpAny _ _ (Builtin.Tuple.tupleItemsOf (.ref t) >>= _) _ _ s
  refine wpAny_bind (tupleItemsOf_ ht ?_)
  refine wpAny_bind (wpAny_typeOf hTs ?_)
  rw [if_pos (by decide)]
  refine wpAny_bind (sliceApplied_rev (n := 2) hs ps ?_)
  have htake : sizeOk (.seq #[y, x]) := by show 2 ≤ sizeLine; decide
  show wpAny _ _ (if (((2 : Nat) : Int) - 1 == 0 && (-1 : Int) == 1 && (2 == 2)) = true then _ else _) _ _ s
  rw [if_neg (by decide)]
  first
    | exact wpAny_bind (m := Builtin.Tuple.tupleExact _) (wpAny_newObj_type (wpAny_pure ⟨_, rfl, wpAny_pure h⟩) htake)
    | exact wpAny_bind (m := Builtin.Tuple.tupleExact _) (wpAny_newObj_type (wpAny_bind (wpAny_pure (wpAny_pure ⟨_, rfl, wpAny_pure h⟩))) htake)
    | exact wpAny_bind (wpAny_bind (m := Builtin.Tuple.tupleExact _) (wpAny_newObj_type (wpAny_pure (wpAny_pure ⟨_, rfl, wpAny_pure h⟩)) htake))
    | exact wpAny_bind (wpAny_bind (m := Builtin.Tuple.tupleExact _) (wpAny_newObj_type (wpAny_pure ⟨_, rfl, wpAny_pure h⟩) htake))
end
section
variable {X : Cx}
theorem pe_revT {e : Expr} {te : TE} {k : Nat} {p1 p2 p3 pos : Pos} (he : PE X e te) : PE X (.Subscript e (.Slice none none (some (.UnaryOp .USub (.Constant (.int 1) k p1) p2)) p3) pos) (tRevT X.K te) := by
  refine ⟨fun pins s σ H Q I h => ?_⟩
  refine Subscript_ (thn (he.run pins s σ H _ I h) fun v s1 ⟨x, H1, I1, r1, q1⟩ => ?_)
  obtain ⟨a, y, z, ex, hx, q⟩ := q1
  subst ex
  cases r1
  have hst : PO X (some (.UnaryOp .USub (.Constant (.int 1) k p1) p2)) (tPart (tUn (rU fun i => .int (-i)) (tC (.int 1)))) := po_some (pe_un un_neg pe_int)
  refine wpAny_Slice (thn (po_none.run pins s1 σ H1 (fun o H2 => o = none ∧ H2 = H1) I1 ⟨rfl, rfl⟩) fun vl s2 ⟨l, H2, I2, pl, el, e2⟩ => ?_)
  subst el e2
  refine thn (po_none.run pins s2 σ H2 (fun o H3 => o = none ∧ H3 = H2) I2 ⟨rfl, rfl⟩) fun vu s3 ⟨u, H3, I3, pu, eu, e3⟩ => ?_
  subst eu e3
  refine thn (hst.run pins s3 σ H3 (fun o H4 => o = some (-1) ∧ H4 = H3) I3 ⟨1, rfl, -1, rfl, rfl, rfl⟩) fun vs s4 ⟨o, H4, I4, ps, eo, e4⟩ => ?_
  subst eo e4
  obtain rfl : vl = .none := by cases pl; rfl
  obtain rfl : vu = .none := by cases pu; rfl
  have I5 : L2.Inv X pins σ H4 { s4 with heap := s4.heap.push { cls := .type "slice", data := .fields #[.none, .none, vs] } } := I4.kept (t' := s4.toks) fun b ob q => Heap.get?_push_of_some _ q
  obtain ⟨its, r, ht, hz⟩ := I5.tuple hx
  cases r with
  | @cons _ u1 _ us1 r1 rr =>
    cases rr with
    | @cons _ u2 _ us2 r2 rr2 =>
      cases rr2
      show wpAny (model X.prog X.w) X.A (subscriptTail e (.Slice none none (some (.UnaryOp .USub (.Constant (.int 1) k p1) p2)) p3) (.ref a) (.ref s4.heap.objs.size)) (EP X pins σ Q) X.xe { s4 with heap := s4.heap.push { cls := .type "slice", data := .fields #[.none, .none, vs] } }
      refine tail_any (ops := [.ref a, .ref s4.heap.objs.size]) ht.typeIs PyProof.Rows.slot_tuple_getitem.lookup ?_ (by with_unfolding_all rfl)
      refine getItem_rev2 ht (Heap.IsSliceOf.new _ .none .none vs) ps ?_
      refine ⟨.ref _, _, I5.laid (t' := s4.toks) (o := .tup [z, y]) (fun b ob q => Heap.get?_push_of_some _ q) (Nat.le_refl _) ?_, rfl, q _ (I5.hok.fresh (Nat.le_refl _))⟩
      exact ⟨by show 2 ≤ sizeLine; decide, [u2, u1], .cons r2 (.cons r1 .nil), ⟨_, Heap.get?_push_size _ rfl, rfl, _, rfl⟩⟩
/-- sorted(a text) of fewer than 64 signs -/
theorem call_sortedTxt (hcalm : X.calm = true) : CallR X (.builtin "sorted") (fun xs H Q => ∃ u : Wd, xs = [VS u] ∧ u.length < 64 ∧
    ∀ (ys : List Str) (p : Addr), ys.Perm (u.map fun c => S [c]) → sortedS ys = true → H p = none → Q (.ref p) (upd H p (.lst (ys.map V.str)))) := by
  intro pins s σ H xs us Q I r q
  obtain ⟨z, ex, h64, q⟩ := q
  subst ex
  obtain ⟨u, eu, rx⟩ := vals1 r
  subst eu
  obtain ⟨t, rfl⟩ := (show ∃ t, u = Value.str (S z) t from rx)
  have hz : (S z).cps.size = z.length := S_len z
  have h16 : (S z).cps.size ≤ sizeLine := by rw [hz, sizeLine_eq]; omega
  refine Calls.call_function_entry PyProof.Rows.kind_sorted PyProof.Rows.plain_sorted PyProof.Rows.entry_sorted (PyProof.Rows.args_sorted1 _) ?_
  unfold Builtin.«sorted»
  refine wpAny_bind (m := checkCount "sorted" 1 1 _) (wpAny_pure ?_)
  refine wpAny_bind (wpAny_collect_str (A := X.A.in1) (I.ok.hd hcalm) (S z) t (fun s' acc hk hg hd ho hacc => ?_) h16)
  obtain ⟨h', g', d', tk, o'⟩ := s'
  have hg : g' = s.gens := hg
  have hd : d' = s.drawn := hd
  have ho : o' = s.os := ho
  subst hg hd ho
  have hal : acc.toList.length = (z.map fun c => S [c]).length := by rw [Array.length_toList, hacc.1, hz, List.length_map]
  have hS : StrsAre acc.toList (z.map fun c => S [c]) := L2.strs_at hal fun j v e => by
    obtain ⟨c, u, e1, e2⟩ := hacc.2 j v (by rw [← Array.getElem?_toList]; exact e)
    exact ⟨S [c], u, by rw [List.getElem?_map, S_get.mp e1]; rfl, e2⟩
  have hal2 : acc.toList.length = z.length := by rw [hal, List.length_map]
  have I1 : L2.Inv X pins σ H { s with heap := h', toks := tk } := I.kept hk
  refine wpAny_bind (wpAny_newList ?_ (by rw [hal2, sizeLine_eq]; omega))
  have hoL : (h'.push (seqObj "list" acc.toList.toArray 0)).get? h'.objs.size = some (seqObj "list" acc.toList.toArray 0) := Heap.get?_push_size _ rfl
  show wpAny _ _ _ _ _ { s with heap := h'.push (seqObj "list" acc.toList.toArray 0), toks := tk }
  refine wpAny_bind (wpAny_holding (wpAny_call_entry PyProof.Rows.slot_list_sort ⟨_, hoL, rfl⟩ PyProof.Rows.entry_list_sort
    (list_sort_treeK strKind_oneLt (s := { s with heap := h'.push (seqObj "list" acc.toList.toArray 0), toks := tk }) hoL hS.keysOf (fun v₁ v₂ rest e => keyKind_strs (by rw [← e]; exact hS)) (by rw [hal2]; exact h64) fun st' hp hs => ⟨_, rfl, ?_⟩)
    (PyProof.Rows.args_list_sort _)))
  obtain ⟨ys, g1, g2, g3⟩ := sorted_out_str hS hp hs
  obtain ⟨e', he'⟩ := PyProof.Rows.sortedHeap_at (vs := acc.toList) (out := (arrOf st').map (·.2)) hoL
  have hlen : (ys.map V.str).length ≤ sizeLine := by
    rw [List.length_map, g2.length_eq, List.length_map, sizeLine_eq]; omega
  refine wpAny_pure ⟨_, rfl, .ref h'.objs.size, upd H h'.objs.size (.lst (ys.map V.str)), I1.laid (t' := tk) (fun b u e => ?_) (Nat.le_refl _)
    (show ObjOk X.prog X.w _ _ _ (.lst (ys.map V.str)) from ⟨hlen, ((arrOf st').map (·.2)).toList, e', vals_of_strs g1, by rw [Array.toArray_toList]; exact he'⟩), rfl, q ys _ g2 g3 (I1.hok.fresh (Nat.le_refl _))⟩
  have hb : b < h'.objs.size := Heap.lt_size e
  rw [PyProof.Rows.sortedHeap_old (Nat.ne_of_lt hb) (by show _ < (h'.push _).objs.size; rw [size_push']; exact Nat.lt_succ_of_lt hb)]
  exact Heap.get?_push_of_some _ e
end
end Sw
/-! may_stand, is_swing. -/
namespace Sw
open PySem PySem.Spec PyProof.Rows L2 LamX NdefX
/-- what may stand in a swing: s 115, t 116, p 112, w 119, y 121 -/
inductive Stands (ls : Wd) : Nat → V → Prop
  | s (b : Bool) : Stands ls 115 (.str (if b then "right" else "left"))
  | t (b : Bool) : Stands ls 116 (.bl b)
  | p (n : Nat) (h : 2 ≤ n) (h2 : n ≤ 60) : Stands ls 112 (vi n)
  | w (u : Wd) (h : Wk ls u 4000) : Stands ls 119 (VS u)
  | y (u : Wd) (h : Wk ls u 4000) (h0 : u ≠ []) : Stands ls 121 (VS u)
inductive StandsAll (ls : Wd) : Wd → List V → Prop
  | nil : StandsAll ls [] []
  | cons {c : Nat} {x : V} {f : Wd} {xs : List V} (h : Stands ls c x) (t : StandsAll ls f xs) : StandsAll ls (c :: f) (x :: xs)
theorem StandsAll.len {ls f : Wd} {xs : List V} (h : StandsAll ls f xs) : xs.length = f.length := by
  induction h with
  | nil => rfl
  | cons _ _ ih => simp [ih]
theorem StandsAll.get {ls f : Wd} {xs : List V} (h : StandsAll ls f xs) {i c : Nat} {x : V} (h1 : f[i]? = some c) (h2 : xs[i]? = some x) : Stands ls c x := by
  induction h generalizing i with
  | nil => cases h1
  | cons h _ ih =>
    cases i with
    | zero => cases h1; cases h2; exact h
    | succ i => exact ih h1 h2
theorem sgV_head (g : Sg) : (sgV g)[0]? = some (.str (kdN g.kd)) := by cases g <;> rfl
theorem sgV_len (g : Sg) : (sgV g).length = (formOf g.kd).length + 1 := by cases g <;> rfl
theorem sg_stands {ls : Wd} {g : Sg} (h : g.ok ls 4000) : StandsAll ls (formOf g.kd) ((sgV g).drop 1) := by
  cases g with
  | few u y v s z t => obtain ⟨h1, h2, h2', h3, h4, h5, h5', h6⟩ := h; exact .cons (.w _ h1) (.cons (.y _ h2 h2') (.cons (.w _ h3) (.cons (.w _ h4) (.cons (.y _ h5 h5') (.cons (.w _ h6) .nil)))))
  | starts u y v w => obtain ⟨h1, h2, h2', h3, h4⟩ := h; exact .cons (.w _ h1) (.cons (.y _ h2 h2') (.cons (.w _ h3) (.cons (.w _ h4) .nil)))
  | ends u v y w => obtain ⟨h1, h2, h3, h3', h4⟩ := h; exact .cons (.w _ h1) (.cons (.w _ h2) (.cons (.y _ h3 h3') (.cons (.w _ h4) .nil)))
  | counts u x y v => obtain ⟨h1, h2, h2', h3, h3', h4⟩ := h; exact .cons (.w _ h1) (.cons (.w _ h2) (.cons (.y _ h3 h3') (.cons (.w _ h4) .nil)))
  | subwords r f u x y v => obtain ⟨h1, h2, h3, h3', h4⟩ := h; exact .cons (.s r) (.cons (.t f) (.cons (.w _ h1) (.cons (.w _ h2) (.cons (.y _ h3 h3') (.cons (.w _ h4) .nil)))))
  | falling f u x y v => obtain ⟨h1, h2, h3, h3', h4⟩ := h; exact .cons (.t f) (.cons (.w _ h1) (.cons (.w _ h2) (.cons (.y _ h3 h3') (.cons (.w _ h4) .nil))))
  | starfree u y v p => obtain ⟨h1, h2, h2', h3, h4, h5⟩ := h; exact .cons (.w _ h1) (.cons (.y _ h2 h2') (.cons (.w _ h3) (.cons (.p _ h4 h5) .nil)))
  | turning f u y v => obtain ⟨h1, h2, h2', h3⟩ := h; exact .cons (.t f) (.cons (.w _ h1) (.cons (.y _ h2 h2') (.cons (.w _ h3) .nil)))
theorem stands_flat {ls : Wd} {c : Nat} {x : V} (h : Stands ls c x) : flatV x = true := by cases h <;> rfl
theorem itT {c : Bool} {A B : Prop} (h : c = true) (q : A) : if c = true then A else B := by rw [if_pos h]; exact q
theorem itF {c : Bool} {A B : Prop} (h : c = false) (q : B) : if c = true then A else B := by rw [h]; exact q
theorem ne_nilS {u : Wd} (h : u ≠ []) : V.str (S u) ≠ V.str "" := fun e => h (by
  have e2 : S u = "" := by injection e
  rw [← S_nil] at e2; exact S_inj e2)
section
variable {P : Program} {w : World} {K : PySem.W.Frag} {mg : Str → Option Value} {base : Heap} {CM CA CW CG : Addr}
def spMayStand : Sp := fun vs H Q _ => ∃ (ls : Wd) (x : V) (c : Nat), vs = [VS ls, x, VS [c]] ∧ Abc ls ∧ Stands ls c x ∧ ∀ H', Same H H' → Q (.bl true) H'
theorem ok_may_stand (T : Tx K mg CM CA CW CG) : Pr P w K mg base CX0 4 "may_stand" P_may_stand [] spMayStand := by
  refine T.d_may_stand.pr sc_may_stand (fun _ _ _ _ _ _ us hl => match us, hl with | [_, _, _], _ => rfl) (fun vs H Q E h => ?_) (fun f cdv A outer s H vs Q E hr h => ?_)
  · obtain ⟨ls, x, c, rfl, _⟩ := h; rfl
  · obtain ⟨ls, x, c, rfl, O, hst, q⟩ := h
    refine ⟨_, (PSs.nox (pss_cons (ps_if (pt_cmpR op_eq (pv 2) pe_str (nomark _))
 (pss_one (ps_ret (pe_and (pe_callB call_isi rfl T.z_isinstance (by decide +kernel) (pa_cons (pv 1) (pa_cons (pe_bltn (v := .ty "str") rfl T.z_str (by decide +kernel) rfl) pa_nil))) (pe_one (pe_cmpR op_in_seq (pv 1) (pe_tup (pa_cons pe_str (pa_cons pe_str pa_nil))) (by rfl))))))
 pss_nil)
 (pss_cons (ps_if (pt_cmpR op_eq (pv 2) pe_str (nomark _))
 (pss_one (ps_ret (pe_callB call_isi rfl T.z_isinstance (by decide +kernel) (pa_cons (pv 1) (pa_cons (pe_bltn (v := .ty "bool") rfl T.z_bool (by decide +kernel) rfl) pa_nil)))))
 pss_nil)
 (pss_cons (ps_if (pt_cmpR op_eq (pv 2) pe_str (nomark _))
 (pss_one (ps_ret (pe_callP (ok_is_number T) (hr.mono (by decide)) rfl pass0 (pa_cons (pv 1) (pa_cons pe_int (pa_cons (pe_globI rfl T.i_MOST_ROUND) pa_nil))))))
 pss_nil)
 (pss_cons (ps_if (PW.pt (pw_or (pt_not (pt_val (pe_callB call_isi rfl T.z_isinstance (by decide +kernel) (pa_cons (pv 1) (pa_cons (pe_bltn (v := .ty "str") rfl T.z_str (by decide +kernel) rfl) pa_nil))))) (pw_or (pt_cmpR op_gt (pe_callB call_len rfl T.z_len boot_len (pa_cons (pv 1) pa_nil)) (pe_globI rfl T.i_MOST_SIGNS) (nomark _)) (pw_or1 (pt_not (pt_val (pe_callP (ok_is_word T) (hr.mono (by decide)) rfl pass0 (pa_cons (pv 0) (pa_cons (pv 1) pa_nil)))))))))
 (pss_one (ps_ret pe_bl))
 pss_nil)
 (pss_one (ps_ret (pe_or (pe_cmpR op_eq (pv 2) pe_str (nomark _)) (pe_one (pe_cmpR op_ne (pv 1) pe_str (nomark _))))))))))), ?_⟩
    cases hst with
    | s b =>
      refine ⟨_, rfl, rfl, _, rfl, ?_⟩
      refine itT (by decide +kernel) ?_
      refine ⟨_, rfl, _, _, _, _, _, rfl, .ty _, .base (.str _), k_ss, _, rfl, ?_⟩
      refine ⟨_, rfl, by show 2 ≤ sizeLine; decide, fun t ht => ⟨t, _, rfl, .inr (.inl (.inl upd_same)), rfl, rfl, ?_⟩⟩
      refine Eq.mp (congrArg (fun z => Q (.bl z) _) (show true = _ from ?_)) (q _ (same_new ht))
      cases b <;> decide +kernel
    | t b =>
      refine ⟨_, rfl, rfl, _, rfl, ?_⟩
      refine itF (by decide +kernel) ?_
      refine ⟨_, rfl, rfl, _, rfl, ?_⟩
      refine itT (by decide +kernel) ?_
      exact ⟨_, rfl, _, _, _, _, _, rfl, .ty _, .base (.bl _), k_bb, q _ fun _ _ z => z⟩
    | p n h1 h2 =>
      refine ⟨_, rfl, rfl, _, rfl, ?_⟩
      refine itF (by decide +kernel) ?_
      refine ⟨_, rfl, rfl, _, rfl, ?_⟩
      refine itF (by decide +kernel) ?_
      refine ⟨_, rfl, rfl, _, rfl, ?_⟩
      refine itT (by decide +kernel) ?_
      refine ⟨_, rfl, _, _, _, rfl, ?_⟩
      rw [decide_eq_true (show (2 : Int) ≤ (n : Nat) by omega), decide_eq_true (show ((n : Nat) : Int) ≤ 60 by omega)]
      exact q _ fun _ _ z => z
    | w u hu =>
      refine ⟨_, rfl, rfl, _, rfl, ?_⟩
      refine itF (by decide +kernel) ?_
      refine ⟨_, rfl, rfl, _, rfl, ?_⟩
      refine itF (by decide +kernel) ?_
      refine ⟨_, rfl, rfl, _, rfl, ?_⟩
      refine itF (by decide +kernel) ?_
      have hl : u.length ≤ 4000 := hu.2
      refine ⟨_, rfl, _, _, _, _, _, rfl, .ty _, .base (.str _), k_ss, _, rfl, ?_⟩
      refine ⟨_, rfl, _, _, rfl, ⟨by rw [S_len]; exact sl (by omega), rfl⟩, _, _, rfl, rfl, _, rfl, ?_⟩
      rw [decide_eq_false (show ¬ ((((S u).length : Nat) : Int) > 4000) by rw [S_len]; omega)]
      refine ⟨_, rfl, _, rfl, ls, u, rfl, O, hu.1, by omega, fun H' e => ⟨_, rfl, ?_⟩⟩
      refine ⟨_, rfl, rfl, _, rfl, ?_⟩
      rw [decide_eq_true (by decide +kernel)]
      exact q _ e
    | y u hu h0 =>
      refine ⟨_, rfl, rfl, _, rfl, ?_⟩
      refine itF (by decide +kernel) ?_
      refine ⟨_, rfl, rfl, _, rfl, ?_⟩
      refine itF (by decide +kernel) ?_
      refine ⟨_, rfl, rfl, _, rfl, ?_⟩
      refine itF (by decide +kernel) ?_
      have hl : u.length ≤ 4000 := hu.2
      refine ⟨_, rfl, _, _, _, _, _, rfl, .ty _, .base (.str _), k_ss, _, rfl, ?_⟩
      refine ⟨_, rfl, _, _, rfl, ⟨by rw [S_len]; exact sl (by omega), rfl⟩, _, _, rfl, rfl, _, rfl, ?_⟩
      rw [decide_eq_false (show ¬ ((((S u).length : Nat) : Int) > 4000) by rw [S_len]; omega)]
      refine ⟨_, rfl, _, rfl, ls, u, rfl, O, hu.1, by omega, fun H' e => ⟨_, rfl, ?_⟩⟩
      refine ⟨_, rfl, rfl, _, rfl, ?_⟩
      rw [decide_eq_false (by decide +kernel)]
      refine ⟨_, rfl, rfl, ?_⟩
      rw [decide_eq_false (ne_nilS h0)]
      exact q _ e
/-- what the top leaves of FORMS -/
structure Tfo (K : PySem.W.Frag) (w : World) (mg : Str → Option Value) (FA : Addr) : Prop where
  g : mg "FORMS" = some (.ref FA)
  d : ∃ es n, KDict K w FA es n
  v : ∀ k : Kd, ∃ u, PySem.W.nsIn K FA (kdN k) = some (some u) ∧ RelV (VS (formOf k)) u
theorem sg_dp {K : PySem.W.Frag} {H : Hp} {ls : Wd} {g : Sg} (A : ∀ c ∈ ls, 97 ≤ c ∧ c ≤ 122) (h : g.ok ls 4000) : ∃ ds, DpAll K H (sgV g) ds ∧ (∀ d ∈ ds, Okd 1 d) ∧ ds ≠ [] := by
  have one : ∀ {f : Wd} {xs : List V}, StandsAll ls f xs → ∃ ds, DpAll K H xs ds ∧ ∀ d ∈ ds, Okd 1 d := by
    intro f xs h
    induction h with
    | nil => exact ⟨[], .nil, fun d hd => by cases hd⟩
    | @cons c x f xs h t ih =>
      obtain ⟨ds, h1, h2⟩ := ih
      obtain ⟨d, h3, h4⟩ : ∃ d, Dp K H x d ∧ Okd 1 d := by
        cases h with
        | s b => exact ⟨_, .str _, by cases b <;> exact okd_str (by decide +kernel)⟩
        | t b => exact ⟨_, .bl _, okd_bl _⟩
        | p n _ _ => exact ⟨_, .int _, okd_int _⟩
        | w u hu => exact ⟨_, .str _, okd_str (strOk_S A hu.1)⟩
        | y u hu _ => exact ⟨_, .str _, okd_str (strOk_S A hu.1)⟩
      exact ⟨d :: ds, .cons h3 h1, fun e he => (List.mem_cons.mp he).elim (fun z => z ▸ h4) (h2 e)⟩
  obtain ⟨ds, h1, h2⟩ := one (sg_stands h)
  have e : sgV g = .str (kdN g.kd) :: (sgV g).drop 1 := by cases g <;> rfl
  rw [e]
  exact ⟨_, .cons (.str _) h1, fun d hd => (List.mem_cons.mp hd).elim (fun z => z ▸ okd_str (by cases g.kd <;> decide +kernel)) (h2 d), by simp⟩
def spIsSwing : Sp := fun vs H Q _ => ∃ (ls : Wd) (p : Addr) (g : Sg), vs = [VS ls, .ref p] ∧ Abc ls ∧ H p = some (.tup (sgV g)) ∧ g.ok ls 4000 ∧ ∀ H', Same H H' → Q (.bl true) H'
theorem ok_is_swing (T : Tx K mg CM CA CW CG) {FA : Addr} (F : Tfo K w mg FA) : Pr P w K mg base CX0 5 "is_swing" P_is_swing [] spIsSwing := by
  obtain ⟨es, n, KD⟩ := F.d
  refine T.d_is_swing.pr sc_is_swing (fun _ _ _ _ _ _ us hl => match us, hl with | [_, _], _ => rfl) (fun vs H Q E h => ?_) (fun f cdv A outer s H vs Q E hr h => ?_)
  · obtain ⟨ls, p, g, rfl, _⟩ := h; rfl
  · obtain ⟨ls, p, g, rfl, O, hp, hok, q⟩ := h
    refine ⟨_, (PSs.nox (pss_cons (ps_if (PW.pt (pw_or (pt_not (pt_val (pe_callB call_isi rfl T.z_isinstance (by decide +kernel) (pa_cons (pv 1) (pa_cons (pe_bltn (v := .ty "tuple") rfl T.z_tuple (by decide +kernel) rfl) pa_nil))))) (pw_or (pt_cmpR (op_eqD hr.units) (pv 1) (pe_tup pa_nil) (nomark _)) (pw_or (pt_not (pt_val (pe_callB call_isi rfl T.z_isinstance (by decide +kernel) (pa_cons (pe_ix ix_tup (pv 1) pe_int (fun _ _ => rfl)) (pa_cons (pe_bltn (v := .ty "str") rfl T.z_str (by decide +kernel) rfl) pa_nil))))) (pw_or1 (pt_cmpR (op_notIn_kd KD) (pe_ix ix_tup (pv 1) pe_int (fun _ _ => rfl)) (pe_glob (v := .ref FA) rfl F.g rfl) (by rfl)))))))
 (pss_one (ps_ret pe_bl))
 pss_nil)
 (pss_cons (ps_set (i := 2) sc_is_swing.nd rfl (Or.inl rfl) (pe_ix ix_kdict (pe_glob (v := .ref FA) rfl F.g rfl) (pe_ix ix_tup (pv 1) pe_int (fun _ _ => rfl)) (fun _ _ => rfl)))
 (pss_one (ps_ret (pe_and (pe_cmpR op_eq (pe_callB call_len rfl T.z_len boot_len (pa_cons (pv 1) pa_nil)) (pe_op op_add (pe_callB call_len rfl T.z_len boot_len (pa_cons (pv 2) pa_nil)) pe_int) (nomark _)) (pe_one (pe_callB (cr_all rfl) rfl T.z_all (by decide +kernel) (pa_cons (pe_lc (own := [("one", 3), ("sort", 4)]) rfl sc_is_swing.nd (pi_zip2 rfl T.z_zip (pa_cons (pe_slice sl_tup (pv 1) (po_some pe_int) po_none) (pa_cons (pv 2) pa_nil))) (blkOk_by (own := [("one", 3), ("sort", 4)]) (N := N_is_swing) (sc := defScope s_is_swing) (by decide +kernel)) (fun _ _ _ _ _ => (pg_tupK K rfl 2 rfl (pgs_cons (pg_name (i := 3) sc_is_swing.nd rfl (Or.inl rfl) (Or.inr rfl)) (pgs_cons (pg_name (i := 4) sc_is_swing.nd rfl (Or.inl rfl) (Or.inr rfl)) pgs_nil)))) (fun _ _ _ _ _ => pts_nil) (fun _ _ _ _ _ => (pe_callP (ok_may_stand T) (hr.mono (by decide)) rfl pass0 (pa_cons (pv 0) (pa_cons (pv 3) (pa_cons (pv 4) pa_nil)))))) pa_nil))))))))), ?_⟩
    refine ⟨_, rfl, _, _, _, _, _, rfl, .ty _, .base (.tup hp), k_tt, _, rfl, ?_⟩
    refine ⟨_, rfl, by show 0 ≤ sizeLine; decide, fun t ht => ?_⟩
    have e1 : Same H (upd H t (.tup [])) := same_new ht
    have ht1 : upd H t (.tup []) t = some (.tup []) := upd_same
    generalize upd H t (.tup []) = H1 at e1 ht1
    have hp1 := e1 _ _ hp
    obtain ⟨ds, hd1, hd2, hd3⟩ := sg_dp (K := K) (H := H1) O.abc hok
    refine ⟨_, _, .tup (.inl (.inl hp1)) hd1, .tup (.inl (.inl ht1)) .nil, sh_of (okd_tup hd2) (by omega), sh_of (k := 1) (okd_tup fun d hd => by cases hd) (by omega), _, rfl, ?_⟩
    refine itF (by cases ds with | nil => exact absurd rfl hd3 | cons d ds => simp [PyData.eqv, PyData.eqvAll]) ?_
    have h0 : atI (sgV g) 0 = some (.str (kdN g.kd)) := atI_nat (j := 0) (sgV_head g)
    refine ⟨_, rfl, _, _, 0, _, rfl, rfl, .inl (.inl hp1), h0, _, _, _, _, _, rfl, .ty _, .base (.str _), k_ss, _, rfl, ?_⟩
    obtain ⟨uf, huf, ruf⟩ := F.v g.kd
    refine ⟨_, rfl, _, _, 0, _, rfl, rfl, .inl (.inl hp1), h0, _, some uf, rfl, rfl, huf, _, rfl, ?_⟩
    refine ⟨_, rfl, _, _, 0, _, rfl, rfl, .inl (.inl hp1), h0, FA, _, _, rfl, rfl, ⟨es, n, uf, KD.at_, KD.lit, huf, ruf⟩, ?_⟩
    have hlen := sgV_len g
    have hfl : (formOf g.kd).length ≤ 6 := by cases g.kd <;> decide
    have hcut : cutV (sgV g) (some 1) none = (sgV g).drop 1 := cut_from (i := 1) (by omega)
    refine ⟨_, rfl, _, _, rfl, .inr ⟨_, .inl (.inl hp1), rfl⟩, _, rfl, _, _, rfl, ⟨by rw [S_len]; exact sl (by omega), rfl⟩, _, _, rfl, rfl, rfl, ?_⟩
    refine ⟨_, rfl, ?_⟩
    rw [decide_eq_true (show V.int (((sgV g).length : Nat) : Int) = .int (((S (formOf g.kd)).length : Nat) + 1) by rw [S_len, hlen]; rfl)]
    refine ⟨_, rfl, 1, rfl, p, _, rfl, .inl (.inl hp1), fun z => ?_, fun t2 ht2 => ?_⟩
    · have : HT.sIx (sgV g).length 0 (some ((1 : Nat) : Int)) = 1 := by rw [HT.sIx_nat]; omega
      have z1 := z.1
      rw [show (some (1 : Int)) = some ((1 : Nat) : Int) from rfl, this] at z1; cases z1
    have e2 : Same H1 (upd H1 t2 (.tup (cutV (sgV g) (some 1) none))) := same_new ht2
    have ht3 : upd H1 t2 (.tup (cutV (sgV g) (some 1) none)) t2 = some (.tup ((sgV g).drop 1)) := by rw [upd_same, hcut]
    generalize upd H1 t2 (.tup (cutV (sgV g) (some 1) none)) = H2 at e2 ht3
    have hst := sg_stands hok
    have hdl := hst.len
    refine ⟨_, rfl, .tup t2, .txt _, _, _, rfl, .inl (.inl ht3), rfl, fun D hD => lc_map walk_zip2 (Same H2) (fun _ => .bl true) ?_ (same_new hD) (fun i H3 hi r3 hD3 => ⟨.inl (.inl (r3 _ _ ht3)), rfl⟩) (fun H3 xs ys r3 _ => same_mut r3 hD) (fun i x H3 H' Q' hi r3 hD3 ⟨t, x1, y1, e3, ht, e4, hx, hy⟩ k => ?_) (fun H3 r3 hD3 => ?_)⟩
    · rw [hdl]; exact Nat.le_trans (Nat.min_le_left _ _) (sl (by omega))
    · subst e3; subst e4
      dsimp only at hx hy
      rw [sgn_S, List.getElem?_map] at hy
      cases h1 : (formOf g.kd)[i]? with
      | none => rw [h1] at hy; cases hy
      | some c =>
        rw [h1] at hy; cases hy
        refine ⟨t, _, rfl, .inl (.inl upd_same), rfl, _, _, rfl, _, _, rfl, rfl, rfl, ?_⟩
        refine ⟨_, rfl, _, rfl, _, rfl, ls, x1, c, rfl, O, hst.get h1 hx, fun H4 e5 => ?_⟩
        exact k _ (e5 _ _ (by rw [upd_ne (ne_of_none hD3 ht)]; exact hD3)) fun b o q => e5 _ _ (by rw [upd_ne (ne_of_none (r3 b o q) ht)]; exact r3 b o q)
    · refine ⟨_, _, rfl, .of (by rw [hD3, tab_bls]), ?_⟩
      rw [all_bls]
      exact q _ fun b o z => r3 b o (e2 b o (e1 b o z))
end
end Sw
/-! swing_parts, led_about. -/
namespace Sw
open PySem PySem.Spec PyProof.Rows L2 LamX NdefX
def w3V (t : W3) : List V := [VS t.1, VS t.2.1, VS t.2.2]
section
variable {P : Program} {w : World} {K : PySem.W.Frag} {mg : Str → Option Value} {base : Heap} {CM CA CW CG : Addr}
def PartsQ (H : Hp) (g : Sg) (Q : VK) : Prop := ∀ H' q t1 t2, Same H H' → H' q = some (.tup [.ref t1, .ref t2]) → H' t1 = some (.tup (w3V g.parts.1)) → H' t2 = some (.tup (w3V g.parts.2)) → Q (.ref q) H'
def sgRest (g : Sg) : List V := (sgV g).drop 1
def spLedAbout : Sp := fun vs H Q _ => ∃ (ls : Wd) (r : Addr) (g : Sg), vs = [.str (kdN g.kd), .ref r] ∧ (g.kd = .subwords ∨ g.kd = .falling ∨ g.kd = .turning) ∧ H r = some (.lst (sgRest g)) ∧ g.ok ls 4000 ∧ PartsQ H g Q
theorem s4 {u v : Wd} (h1 : u.length ≤ 100000) (h2 : v.length ≤ 300000) : (S u).length + (S v).length ≤ sizeLine := by rw [S_len, S_len]; show _ ≤ 2 ^ 24; omega
theorem cat3 {Q : V → Prop} {u v : Wd} (h : Q (VS (u ++ v))) : Q (.str (S u ++ S v)) := by rw [S_app]; exact h
theorem z3 {a b c : V} : [a, b, c].length ≤ sizeLine := by show 3 ≤ 2 ^ 24; decide
theorem z2 {a b : V} : [a, b].length ≤ sizeLine := by show 2 ≤ 2 ^ 24; decide
theorem parts_fin {H : Hp} {t1 t2 p : Addr} {x1 x2 : List V} (h1 : H t1 = none) (h2 : upd H t1 (.tup x1) t2 = none) (h3 : upd (upd H t1 (.tup x1)) t2 (.tup x2) p = none) :
    ∃ H3, upd (upd (upd H t1 (.tup x1)) t2 (.tup x2)) p (.tup [.ref t1, .ref t2]) = H3 ∧ Same H H3 ∧ H3 p = some (.tup [.ref t1, .ref t2]) ∧ H3 t1 = some (.tup x1) ∧ H3 t2 = some (.tup x2) := by
  have n1 : t1 ≠ t2 := ne_of_none upd_same h2
  have n2 : t1 ≠ p := ne_of_none (by rw [upd_ne n1]; exact upd_same) h3
  have n3 : t2 ≠ p := ne_of_none upd_same h3
  exact ⟨_, rfl, fun b o z => same_new h3 b o (same_new h2 b o (same_new h1 b o z)), upd_same, by rw [upd_ne n2, upd_ne n1, upd_same], by rw [upd_ne n3, upd_same]⟩
theorem ok_led_about (T : Tx K mg CM CA CW CG) : Pr P w K mg base CX0 1 "led_about" P_led_about [] spLedAbout := by
  refine T.d_led_about.pr sc_led_about (fun _ _ _ _ _ _ us hl => match us, hl with | [_, _], _ => rfl) (fun vs H Q E h => ?_) (fun f cdv A outer s H vs Q E hr h => ?_)
  · obtain ⟨ls, r, g, rfl, _⟩ := h; rfl
  · obtain ⟨ls, r, g, rfl, hk, hr0, hok, q⟩ := h
    refine ⟨_, (PSs.nox (pss_cons (ps_if (pt_cmpR op_eq (pv 0) pe_str (nomark _))
 (pss_cons (ps_asg (pv 1) (pg_lst rfl (pgs_cons (pg_name (i := 2) sc_led_about.nd rfl (Or.inl rfl) (Or.inl rfl)) (pgs_cons (pg_name (i := 3) sc_led_about.nd rfl (Or.inl rfl) (Or.inl rfl)) (pgs_cons (pg_name (i := 4) sc_led_about.nd rfl (Or.inl rfl) (Or.inl rfl)) (pgs_cons (pg_name (i := 5) sc_led_about.nd rfl (Or.inl rfl) (Or.inl rfl)) pgs_nil))))))
 (pss_one (ps_set (i := 6) sc_led_about.nd rfl (Or.inl rfl) (pe_tup (pa_cons (pe_tup (pa_cons (pe_op op_add_str (pv 3) (pv 5)) (pa_cons pe_str (pa_cons pe_str pa_nil)))) (pa_cons (pe_tup (pa_cons (pv 3) (pa_cons (pv 4) (pa_cons (pv 5) pa_nil)))) pa_nil))))))
 (pss_cons (ps_asg (pe_slice sl_list (pv 1) (po_some (pe_un un_neg pe_int)) po_none) (pg_lst rfl (pgs_cons (pg_name (i := 2) sc_led_about.nd rfl (Or.inl rfl) (Or.inl rfl)) (pgs_cons (pg_name (i := 3) sc_led_about.nd rfl (Or.inl rfl) (Or.inl rfl)) (pgs_cons (pg_name (i := 7) sc_led_about.nd rfl (Or.inl rfl) (Or.inl rfl)) (pgs_cons (pg_name (i := 4) sc_led_about.nd rfl (Or.inl rfl) (Or.inl rfl)) (pgs_cons (pg_name (i := 5) sc_led_about.nd rfl (Or.inl rfl) (Or.inl rfl)) pgs_nil)))))))
 (pss_cons (ps_set (i := 8) sc_led_about.nd rfl (Or.inl rfl) (pe_ifExp (pt_cmpR op_eq (pv 0) pe_str (nomark _)) (pe_ix ix_list (pv 1) pe_int (fun _ _ => rfl)) pe_str))
 (pss_one (ps_set (i := 6) sc_led_about.nd rfl (Or.inl rfl) (pe_tup (pa_cons (pe_tup (pa_cons (pv 3) (pa_cons (pe_op op_add_str (pv 7) (pv 4)) (pa_cons (pv 5) pa_nil)))) (pa_cons (pe_ifExp (pt_cmpR op_eq (pv 8) pe_str (nomark _)) (pe_tup (pa_cons (pv 3) (pa_cons (pe_op op_add_str (pv 7) (pv 4)) (pa_cons (pe_op op_add_str (pv 7) (pv 5)) pa_nil)))) (pe_tup (pa_cons (pe_op op_add_str (pv 3) (pv 4)) (pa_cons (pe_op op_add_str (pv 7) (pv 4)) (pa_cons (pv 5) pa_nil))))) pa_nil))))))))
 (pss_one (ps_ret (pe_ifExp (pt_val (pv 2)) (pv 6) (pe_revT (pv 6))))))), ?_⟩
    cases g with
    | few | starts | ends | counts | starfree => exact absurd hk (by simp [Sg.kd])
    | turning fi u y v =>
      obtain ⟨⟨_, h1⟩, ⟨_, h2⟩, _, ⟨_, h3⟩⟩ := hok
      refine ⟨_, rfl, rfl, _, rfl, ?_⟩
      refine itT (by show decide (V.str "turning" = V.str "turning") = true; decide +kernel) ?_
      refine ⟨_, rfl, r, _, rfl, .of hr0, rfl, ?_⟩
      refine ⟨_, _, rfl, _, _, rfl, _, _, rfl, _, _, rfl, rfl, ?_⟩
      refine ⟨_, rfl, _, rfl, _, _, rfl, rfl, s4 (by omega) (by omega), ?_⟩
      rw [S_app]
      refine ⟨z3, fun t1 ht1 => ⟨_, rfl, _, rfl, _, rfl, z3, fun t2 ht2 => ⟨z2, fun p hp => ?_⟩⟩⟩
      obtain ⟨H3, eH, e3, hp3, a1, a2⟩ := parts_fin ht1 ht2 hp
      have q' := q H3
      cases fi with
      | true => exact ⟨_, rfl, _, rfl, _, rfl, by rw [eH]; exact q' p t1 t2 e3 hp3 a1 a2⟩
      | false =>
        refine ⟨_, rfl, _, rfl, _, rfl, p, _, _, rfl, .inl (.inl upd_same), fun r hr => ?_⟩
        rw [eH] at hr ⊢
        have e4 := same_new (o := .tup [.ref t2, .ref t1]) hr
        exact q _ r t2 t1 (fun b o z => e4 b o (e3 b o z)) upd_same (e4 _ _ a2) (e4 _ _ a1)
    | falling fi u x y v =>
      obtain ⟨⟨_, h1⟩, ⟨_, h2⟩, ⟨_, h3⟩, _, ⟨_, h4⟩⟩ := hok
      refine ⟨_, rfl, rfl, _, rfl, ?_⟩
      refine itF (by show decide (V.str "falling" = V.str "turning") = false; decide +kernel) ?_
      refine ⟨_, rfl, 5, rfl, -5, rfl, r, _, rfl, .of hr0, fun l hl => ?_⟩
      have e0 : Same H (upd H l (.lst [.bl fi, VS u, VS x, VS y, VS v])) := same_new hl
      have hl1 : upd H l (.lst [.bl fi, VS u, VS x, VS y, VS v]) l = some (.lst [.bl fi, VS u, VS x, VS y, VS v]) := upd_same
      show gLst _ _ _ _ _ (upd H l (.lst [.bl fi, VS u, VS x, VS y, VS v])) _
      generalize upd H l (.lst [.bl fi, VS u, VS x, VS y, VS v]) = H1 at e0 hl1
      refine ⟨l, _, rfl, .of hl1, rfl, _, _, rfl, _, _, rfl, _, _, rfl, _, _, rfl, _, _, rfl, rfl, ?_⟩
      refine ⟨_, rfl, rfl, _, rfl, ?_⟩
      refine itF (by show decide (V.str "falling" = V.str "subwords") = false; decide +kernel) ?_
      refine ⟨_, rfl, _, rfl, _, rfl, _, _, rfl, rfl, s4 (by omega) (by omega), ?_⟩
      rw [S_app]
      refine ⟨_, rfl, z3, fun t1 ht1 => ⟨_, rfl, rfl, _, rfl, ?_⟩⟩
      refine itT (by show decide (V.str "right" = V.str "right") = true; decide +kernel) ?_
      refine ⟨_, rfl, _, rfl, _, rfl, _, _, rfl, rfl, s4 (by omega) (by omega), ?_⟩
      rw [S_app]
      refine ⟨_, rfl, _, rfl, _, _, rfl, rfl, s4 (by omega) (by omega), ?_⟩
      rw [S_app]
      refine ⟨z3, fun t2 ht2 => ⟨z2, fun p hp => ?_⟩⟩
      obtain ⟨H3, eH, e3, hp3, a1, a2⟩ := parts_fin ht1 ht2 hp
      rw [eH]
      have e3' : Same H H3 := fun b o z => e3 b o (e0 b o z)
      have q' := q H3
      cases fi with
      | true => exact ⟨_, rfl, _, rfl, _, rfl, q' p t1 t2 e3' hp3 a1 a2⟩
      | false =>
        refine ⟨_, rfl, _, rfl, _, rfl, p, _, _, rfl, .inl (.inl hp3), fun r hr => ?_⟩
        have e4 := same_new (o := .tup [.ref t2, .ref t1]) hr
        exact q _ r t2 t1 (fun b o z => e4 b o (e3' b o z)) upd_same (e4 _ _ a2) (e4 _ _ a1)
    | subwords ri fi u x y v =>
      obtain ⟨⟨_, h1⟩, ⟨_, h2⟩, ⟨_, h3⟩, _, ⟨_, h4⟩⟩ := hok
      refine ⟨_, rfl, rfl, _, rfl, ?_⟩
      refine itF (by show decide (V.str "subwords" = V.str "turning") = false; decide +kernel) ?_
      refine ⟨_, rfl, 5, rfl, -5, rfl, r, _, rfl, .of hr0, fun l hl => ?_⟩
      have e0 : Same H (upd H l (.lst [.bl fi, VS u, VS x, VS y, VS v])) := same_new hl
      have hl1 : upd H l (.lst [.bl fi, VS u, VS x, VS y, VS v]) l = some (.lst [.bl fi, VS u, VS x, VS y, VS v]) := upd_same
      show gLst _ _ _ _ _ (upd H l (.lst [.bl fi, VS u, VS x, VS y, VS v])) _
      generalize upd H l (.lst [.bl fi, VS u, VS x, VS y, VS v]) = H1 at e0 hl1
      refine ⟨l, _, rfl, .of hl1, rfl, _, _, rfl, _, _, rfl, _, _, rfl, _, _, rfl, _, _, rfl, rfl, ?_⟩
      refine ⟨_, rfl, rfl, _, rfl, ?_⟩
      refine itT (by show decide (V.str "subwords" = V.str "subwords") = true; decide +kernel) ?_
      refine ⟨_, rfl, r, _, _, _, rfl, rfl, .of (e0 _ _ hr0), atI_nat (j := 0) rfl, ?_⟩
      refine ⟨_, rfl, _, rfl, _, rfl, _, _, rfl, rfl, s4 (by omega) (by omega), ?_⟩
      rw [S_app]
      cases ri with
      | true =>
        refine ⟨_, rfl, z3, fun t1 ht1 => ⟨_, rfl, rfl, _, rfl, ?_⟩⟩
        refine itT (by show decide (V.str "right" = V.str "right") = true; decide +kernel) ?_
        refine ⟨_, rfl, _, rfl, _, rfl, _, _, rfl, rfl, s4 (by omega) (by omega), ?_⟩
        rw [S_app]
        refine ⟨_, rfl, _, rfl, _, _, rfl, rfl, s4 (by omega) (by omega), ?_⟩
        rw [S_app]
        refine ⟨z3, fun t2 ht2 => ⟨z2, fun p hp => ?_⟩⟩
        obtain ⟨H3, eH, e3, hp3, a1, a2⟩ := parts_fin ht1 ht2 hp
        rw [eH]
        have e3' : Same H H3 := fun b o z => e3 b o (e0 b o z)
        have q' := q H3
        cases fi with
        | true => exact ⟨_, rfl, _, rfl, _, rfl, q' p t1 t2 e3' hp3 a1 a2⟩
        | false =>
          refine ⟨_, rfl, _, rfl, _, rfl, p, _, _, rfl, .inl (.inl hp3), fun r hr => ?_⟩
          have e4 := same_new (o := .tup [.ref t2, .ref t1]) hr
          exact q _ r t2 t1 (fun b o z => e4 b o (e3' b o z)) upd_same (e4 _ _ a2) (e4 _ _ a1)
      | false =>
        refine ⟨_, rfl, z3, fun t1 ht1 => ⟨_, rfl, rfl, _, rfl, ?_⟩⟩
        refine itF (by show decide (V.str "left" = V.str "right") = false; decide +kernel) ?_
        refine ⟨_, rfl, _, rfl, _, _, rfl, rfl, s4 (by omega) (by omega), ?_⟩
        rw [S_app]
        refine ⟨_, rfl, _, rfl, _, _, rfl, rfl, s4 (by omega) (by omega), ?_⟩
        rw [S_app]
        refine ⟨_, rfl, z3, fun t2 ht2 => ⟨z2, fun p hp => ?_⟩⟩
        obtain ⟨H3, eH, e3, hp3, a1, a2⟩ := parts_fin ht1 ht2 hp
        rw [eH]
        have e3' : Same H H3 := fun b o z => e3 b o (e0 b o z)
        have q' := q H3
        cases fi with
        | true => exact ⟨_, rfl, _, rfl, _, rfl, q' p t1 t2 e3' hp3 a1 a2⟩
        | false =>
          refine ⟨_, rfl, _, rfl, _, rfl, p, _, _, rfl, .inl (.inl hp3), fun r hr => ?_⟩
          have e4 := same_new (o := .tup [.ref t2, .ref t1]) hr
          exact q _ r t2 t1 (fun b o z => e4 b o (e3' b o z)) upd_same (e4 _ _ a2) (e4 _ _ a1)
def spParts : Sp := fun vs H Q _ => ∃ (ls : Wd) (p : Addr) (g : Sg), vs = [.ref p] ∧ H p = some (.tup (sgV g)) ∧ g.ok ls 4000 ∧ PartsQ H g Q
theorem ok_swing_parts (T : Tx K mg CM CA CW CG) : Pr P w K mg base CX0 2 "swing_parts" P_swing_parts [] spParts := by
  refine T.d_swing_parts.pr sc_swing_parts (fun _ _ _ _ _ _ us hl => match us, hl with | [_], _ => rfl) (fun vs H Q E h => ?_) (fun f cdv A outer s H vs Q E hr h => ?_)
  · obtain ⟨ls, p, g, rfl, _⟩ := h; rfl
  · obtain ⟨ls, p0, g, rfl, hp0, hok, q⟩ := h
    refine ⟨_, (PSs.nox (pss_cons (ps_asg (pv 0) (pg_star hr.hd (pgs_cons (pg_name (i := 1) sc_swing_parts.nd rfl (Or.inl rfl) (Or.inl rfl)) (pgs_star (pg_name (i := 2) sc_swing_parts.nd rfl (Or.inl rfl) (Or.inl rfl)) pgs_nil))))
 (pss_cons (ps_if (pt_cmpR op_eq (pv 1) pe_str (nomark _))
 (pss_cons (ps_asg (pv 2) (pg_lst rfl (pgs_cons (pg_name (i := 3) sc_swing_parts.nd rfl (Or.inl rfl) (Or.inl rfl)) (pgs_cons (pg_name (i := 4) sc_swing_parts.nd rfl (Or.inl rfl) (Or.inl rfl)) (pgs_cons (pg_name (i := 5) sc_swing_parts.nd rfl (Or.inl rfl) (Or.inl rfl)) (pgs_cons (pg_name (i := 6) sc_swing_parts.nd rfl (Or.inl rfl) (Or.inl rfl)) (pgs_cons (pg_name (i := 7) sc_swing_parts.nd rfl (Or.inl rfl) (Or.inl rfl)) (pgs_cons (pg_name (i := 8) sc_swing_parts.nd rfl (Or.inl rfl) (Or.inl rfl)) pgs_nil))))))))
 (pss_one (ps_ret (pe_tup (pa_cons (pe_tup (pa_cons (pv 3) (pa_cons (pv 4) (pa_cons (pv 5) pa_nil)))) (pa_cons (pe_tup (pa_cons (pv 6) (pa_cons (pv 7) (pa_cons (pv 8) pa_nil)))) pa_nil))))))
 pss_nil)
 (pss_cons (ps_if (pt_cmpR op_eq (pv 1) pe_str (nomark _))
 (pss_cons (ps_asg (pv 2) (pg_lst rfl (pgs_cons (pg_name (i := 3) sc_swing_parts.nd rfl (Or.inl rfl) (Or.inl rfl)) (pgs_cons (pg_name (i := 4) sc_swing_parts.nd rfl (Or.inl rfl) (Or.inl rfl)) (pgs_cons (pg_name (i := 5) sc_swing_parts.nd rfl (Or.inl rfl) (Or.inl rfl)) (pgs_cons (pg_name (i := 9) sc_swing_parts.nd rfl (Or.inl rfl) (Or.inl rfl)) pgs_nil))))))
 (pss_one (ps_ret (pe_tup (pa_cons (pe_tup (pa_cons (pv 3) (pa_cons (pv 4) (pa_cons (pv 5) pa_nil)))) (pa_cons (pe_tup (pa_cons (pv 3) (pa_cons (pv 4) (pa_cons (pv 9) pa_nil)))) pa_nil))))))
 pss_nil)
 (pss_cons (ps_if (pt_cmpR op_eq (pv 1) pe_str (nomark _))
 (pss_cons (ps_asg (pv 2) (pg_lst rfl (pgs_cons (pg_name (i := 3) sc_swing_parts.nd rfl (Or.inl rfl) (Or.inl rfl)) (pgs_cons (pg_name (i := 5) sc_swing_parts.nd rfl (Or.inl rfl) (Or.inl rfl)) (pgs_cons (pg_name (i := 4) sc_swing_parts.nd rfl (Or.inl rfl) (Or.inl rfl)) (pgs_cons (pg_name (i := 9) sc_swing_parts.nd rfl (Or.inl rfl) (Or.inl rfl)) pgs_nil))))))
 (pss_one (ps_ret (pe_tup (pa_cons (pe_tup (pa_cons (pv 3) (pa_cons (pv 4) (pa_cons (pv 9) pa_nil)))) (pa_cons (pe_tup (pa_cons (pv 5) (pa_cons (pv 4) (pa_cons (pv 9) pa_nil)))) pa_nil))))))
 pss_nil)
 (pss_cons (ps_if (pt_cmpR op_eq (pv 1) pe_str (nomark _))
 (pss_cons (ps_asg (pv 2) (pg_lst rfl (pgs_cons (pg_name (i := 3) sc_swing_parts.nd rfl (Or.inl rfl) (Or.inl rfl)) (pgs_cons (pg_name (i := 10) sc_swing_parts.nd rfl (Or.inl rfl) (Or.inl rfl)) (pgs_cons (pg_name (i := 4) sc_swing_parts.nd rfl (Or.inl rfl) (Or.inl rfl)) (pgs_cons (pg_name (i := 5) sc_swing_parts.nd rfl (Or.inl rfl) (Or.inl rfl)) pgs_nil))))))
 (pss_one (ps_ret (pe_tup (pa_cons (pe_tup (pa_cons (pe_op op_add_str (pe_op op_add_str (pe_op op_add_str (pv 3) (pv 10)) (pv 4)) (pv 5)) (pa_cons pe_str (pa_cons pe_str pa_nil)))) (pa_cons (pe_tup (pa_cons (pe_op op_add_str (pe_op op_add_str (pe_op op_add_str (pv 3) (pv 4)) (pv 10)) (pv 5)) (pa_cons pe_str (pa_cons pe_str pa_nil)))) pa_nil))))))
 pss_nil)
 (pss_cons (ps_if (pt_cmpR op_eq (pv 1) pe_str (nomark _))
 (pss_cons (ps_asg (pv 2) (pg_lst rfl (pgs_cons (pg_name (i := 3) sc_swing_parts.nd rfl (Or.inl rfl) (Or.inl rfl)) (pgs_cons (pg_name (i := 4) sc_swing_parts.nd rfl (Or.inl rfl) (Or.inl rfl)) (pgs_cons (pg_name (i := 5) sc_swing_parts.nd rfl (Or.inl rfl) (Or.inl rfl)) (pgs_cons (pg_name (i := 11) sc_swing_parts.nd rfl (Or.inl rfl) (Or.inl rfl)) pgs_nil))))))
 (pss_one (ps_ret (pe_tup (pa_cons (pe_tup (pa_cons (pv 3) (pa_cons (pe_op op_mulS (pv 4) (pv 11)) (pa_cons (pv 5) pa_nil)))) (pa_cons (pe_tup (pa_cons (pv 3) (pa_cons (pe_op op_mulS (pv 4) (pv 11)) (pa_cons (pe_op op_add_str (pv 4) (pv 5)) pa_nil)))) pa_nil))))))
 pss_nil)
 (pss_one (ps_ret (pe_callP (ok_led_about T) (hr.mono (by decide)) rfl pass0 (pa_cons (pv 1) (pa_cons (pv 2) pa_nil)))))))))))), ?_⟩
    have e9 : sgV g = .str (kdN g.kd) :: sgRest g := by cases g <;> rfl
    refine ⟨_, rfl, p0, .str (kdN g.kd), sgRest g, rfl, .inr (.inl (.inl (by rw [hp0, e9]))), fun rr hrr => ?_⟩
    refine ⟨_, _, rfl, _, _, rfl, rfl, ?_⟩
    have e0 : Same H (upd H rr (.lst (sgRest g))) := same_new hrr
    have hr1 : upd H rr (.lst (sgRest g)) rr = some (.lst (sgRest g)) := upd_same
    generalize upd H rr (.lst (sgRest g)) = H1 at e0 hr1
    cases g with
    | few u y v s z t =>
      refine ⟨_, rfl, rfl, _, rfl, ?_⟩
      refine itT (by show decide (V.str "few" = V.str "few") = true; decide +kernel) ?_
      refine ⟨_, rfl, rr, _, rfl, .of hr1, rfl, _, _, rfl, _, _, rfl, _, _, rfl, _, _, rfl, _, _, rfl, _, _, rfl, rfl, ?_⟩
      refine ⟨_, rfl, _, rfl, _, rfl, z3, fun t1 ht1 => ⟨_, rfl, _, rfl, _, rfl, z3, fun t2 ht2 => ⟨z2, fun p hp => ?_⟩⟩⟩
      obtain ⟨H3, eH, e3, hp3, a1, a2⟩ := parts_fin ht1 ht2 hp
      rw [eH]
      exact q H3 p t1 t2 (fun b o z => e3 b o (e0 b o z)) hp3 a1 a2
    | starts u y v w =>
      refine ⟨_, rfl, rfl, _, rfl, ?_⟩
      refine itF (by show decide (V.str "starts" = V.str "few") = false; decide +kernel) ?_
      refine ⟨_, rfl, rfl, _, rfl, ?_⟩
      refine itT (by show decide (V.str "starts" = V.str "starts") = true; decide +kernel) ?_
      refine ⟨_, rfl, rr, _, rfl, .of hr1, rfl, _, _, rfl, _, _, rfl, _, _, rfl, _, _, rfl, rfl, ?_⟩
      refine ⟨_, rfl, _, rfl, _, rfl, z3, fun t1 ht1 => ⟨_, rfl, _, rfl, _, rfl, z3, fun t2 ht2 => ⟨z2, fun p hp => ?_⟩⟩⟩
      obtain ⟨H3, eH, e3, hp3, a1, a2⟩ := parts_fin ht1 ht2 hp
      rw [eH]
      exact q H3 p t1 t2 (fun b o z => e3 b o (e0 b o z)) hp3 a1 a2
    | ends u v y w =>
      refine ⟨_, rfl, rfl, _, rfl, ?_⟩
      refine itF (by show decide (V.str "ends" = V.str "few") = false; decide +kernel) ?_
      refine ⟨_, rfl, rfl, _, rfl, ?_⟩
      refine itF (by show decide (V.str "ends" = V.str "starts") = false; decide +kernel) ?_
      refine ⟨_, rfl, rfl, _, rfl, ?_⟩
      refine itT (by show decide (V.str "ends" = V.str "ends") = true; decide +kernel) ?_
      refine ⟨_, rfl, rr, _, rfl, .of hr1, rfl, _, _, rfl, _, _, rfl, _, _, rfl, _, _, rfl, rfl, ?_⟩
      refine ⟨_, rfl, _, rfl, _, rfl, z3, fun t1 ht1 => ⟨_, rfl, _, rfl, _, rfl, z3, fun t2 ht2 => ⟨z2, fun p hp => ?_⟩⟩⟩
      obtain ⟨H3, eH, e3, hp3, a1, a2⟩ := parts_fin ht1 ht2 hp
      rw [eH]
      exact q H3 p t1 t2 (fun b o z => e3 b o (e0 b o z)) hp3 a1 a2
    | counts u x y v =>
      obtain ⟨⟨_, h1⟩, ⟨_, h2⟩, _, ⟨_, h3⟩, _, ⟨_, h4⟩⟩ := hok
      refine ⟨_, rfl, rfl, _, rfl, ?_⟩
      refine itF (by show decide (V.str "counts" = V.str "few") = false; decide +kernel) ?_
      refine ⟨_, rfl, rfl, _, rfl, ?_⟩
      refine itF (by show decide (V.str "counts" = V.str "starts") = false; decide +kernel) ?_
      refine ⟨_, rfl, rfl, _, rfl, ?_⟩
      refine itF (by show decide (V.str "counts" = V.str "ends") = false; decide +kernel) ?_
      refine ⟨_, rfl, rfl, _, rfl, ?_⟩
      refine itT (by show decide (V.str "counts" = V.str "counts") = true; decide +kernel) ?_
      refine ⟨_, rfl, rr, _, rfl, .of hr1, rfl, _, _, rfl, _, _, rfl, _, _, rfl, _, _, rfl, rfl, ?_⟩
      have l1 : (u ++ x).length ≤ 8000 := by rw [List.length_append]; omega
      have l2 : (u ++ x ++ y).length ≤ 12000 := by rw [List.length_append]; omega
      have l3 : (u ++ y).length ≤ 8000 := by rw [List.length_append]; omega
      have l4 : (u ++ y ++ x).length ≤ 12000 := by rw [List.length_append]; omega
      refine ⟨_, rfl, _, rfl, _, _, rfl, rfl, s4 (by omega) (by omega), ?_⟩
      rw [S_app]
      refine ⟨_, rfl, _, _, rfl, rfl, s4 (by omega) (by omega), ?_⟩
      rw [S_app]
      refine ⟨_, rfl, _, _, rfl, rfl, s4 (by omega) (by omega), ?_⟩
      rw [S_app]
      refine ⟨z3, fun t1 ht1 => ⟨_, rfl, _, rfl, _, _, rfl, rfl, s4 (by omega) (by omega), ?_⟩⟩
      rw [S_app]
      refine ⟨_, rfl, _, _, rfl, rfl, s4 (by omega) (by omega), ?_⟩
      rw [S_app]
      refine ⟨_, rfl, _, _, rfl, rfl, s4 (by omega) (by omega), ?_⟩
      rw [S_app]
      refine ⟨z3, fun t2 ht2 => ⟨z2, fun p hp => ?_⟩⟩
      obtain ⟨H3, eH, e3, hp3, a1, a2⟩ := parts_fin ht1 ht2 hp
      rw [eH]
      exact q H3 p t1 t2 (fun b o z => e3 b o (e0 b o z)) hp3 a1 a2
    | starfree u y v n =>
      obtain ⟨⟨_, h1⟩, ⟨_, h2⟩, _, ⟨_, h3⟩, _, h5⟩ := hok
      refine ⟨_, rfl, rfl, _, rfl, ?_⟩
      refine itF (by show decide (V.str "starfree" = V.str "few") = false; decide +kernel) ?_
      refine ⟨_, rfl, rfl, _, rfl, ?_⟩
      refine itF (by show decide (V.str "starfree" = V.str "starts") = false; decide +kernel) ?_
      refine ⟨_, rfl, rfl, _, rfl, ?_⟩
      refine itF (by show decide (V.str "starfree" = V.str "ends") = false; decide +kernel) ?_
      refine ⟨_, rfl, rfl, _, rfl, ?_⟩
      refine itF (by show decide (V.str "starfree" = V.str "counts") = false; decide +kernel) ?_
      refine ⟨_, rfl, rfl, _, rfl, ?_⟩
      refine itT (by show decide (V.str "starfree" = V.str "starfree") = true; decide +kernel) ?_
      refine ⟨_, rfl, rr, _, rfl, .of hr1, rfl, _, _, rfl, _, _, rfl, _, _, rfl, _, _, rfl, rfl, ?_⟩
      have hmul : y.length * n ≤ 4000 * 60 := Nat.mul_le_mul h2 h5
      refine ⟨_, rfl, _, rfl, _, rfl, y, n, rfl, rfl, by omega, by omega, by omega, _, rfl, z3, fun t1 ht1 => ⟨_, rfl, _, rfl, _, rfl, y, n, rfl, rfl, by omega, by omega, by omega, _, rfl, _, rfl, _, _, rfl, rfl, s4 (by omega) (by omega), ?_⟩⟩
      rw [S_app]
      refine ⟨z3, fun t2 ht2 => ⟨z2, fun p hp => ?_⟩⟩
      obtain ⟨H3, eH, e3, hp3, a1, a2⟩ := parts_fin ht1 ht2 hp
      rw [eH]
      exact q H3 p t1 t2 (fun b o z => e3 b o (e0 b o z)) hp3 a1 a2
    | subwords r f u x y v =>
      refine ⟨_, rfl, rfl, _, rfl, ?_⟩
      refine itF (by show decide (V.str "subwords" = V.str "few") = false; decide +kernel) ?_
      refine ⟨_, rfl, rfl, _, rfl, ?_⟩
      refine itF (by show decide (V.str "subwords" = V.str "starts") = false; decide +kernel) ?_
      refine ⟨_, rfl, rfl, _, rfl, ?_⟩
      refine itF (by show decide (V.str "subwords" = V.str "ends") = false; decide +kernel) ?_
      refine ⟨_, rfl, rfl, _, rfl, ?_⟩
      refine itF (by show decide (V.str "subwords" = V.str "counts") = false; decide +kernel) ?_
      refine ⟨_, rfl, rfl, _, rfl, ?_⟩
      refine itF (by show decide (V.str "subwords" = V.str "starfree") = false; decide +kernel) ?_
      refine ⟨_, rfl, _, rfl, ls, rr, .subwords r f u x y v, rfl, .inl rfl, hr1, hok, fun H' q0 t1 t2 e hp a1 a2 => q H' q0 t1 t2 (fun b o z => e b o (e0 b o z)) hp a1 a2⟩
    | falling f u x y v =>
      refine ⟨_, rfl, rfl, _, rfl, ?_⟩
      refine itF (by show decide (V.str "falling" = V.str "few") = false; decide +kernel) ?_
      refine ⟨_, rfl, rfl, _, rfl, ?_⟩
      refine itF (by show decide (V.str "falling" = V.str "starts") = false; decide +kernel) ?_
      refine ⟨_, rfl, rfl, _, rfl, ?_⟩
      refine itF (by show decide (V.str "falling" = V.str "ends") = false; decide +kernel) ?_
      refine ⟨_, rfl, rfl, _, rfl, ?_⟩
      refine itF (by show decide (V.str "falling" = V.str "counts") = false; decide +kernel) ?_
      refine ⟨_, rfl, rfl, _, rfl, ?_⟩
      refine itF (by show decide (V.str "falling" = V.str "starfree") = false; decide +kernel) ?_
      refine ⟨_, rfl, _, rfl, ls, rr, .falling f u x y v, rfl, .inr (.inl rfl), hr1, hok, fun H' q0 t1 t2 e hp a1 a2 => q H' q0 t1 t2 (fun b o z => e b o (e0 b o z)) hp a1 a2⟩
    | turning f u y v =>
      refine ⟨_, rfl, rfl, _, rfl, ?_⟩
      refine itF (by show decide (V.str "turning" = V.str "few") = false; decide +kernel) ?_
      refine ⟨_, rfl, rfl, _, rfl, ?_⟩
      refine itF (by show decide (V.str "turning" = V.str "starts") = false; decide +kernel) ?_
      refine ⟨_, rfl, rfl, _, rfl, ?_⟩
      refine itF (by show decide (V.str "turning" = V.str "ends") = false; decide +kernel) ?_
      refine ⟨_, rfl, rfl, _, rfl, ?_⟩
      refine itF (by show decide (V.str "turning" = V.str "counts") = false; decide +kernel) ?_
      refine ⟨_, rfl, rfl, _, rfl, ?_⟩
      refine itF (by show decide (V.str "turning" = V.str "starfree") = false; decide +kernel) ?_
      refine ⟨_, rfl, _, rfl, ls, rr, .turning f u y v, rfl, .inr (.inr rfl), hr1, hok, fun H' q0 t1 t2 e hp a1 a2 => q H' q0 t1 t2 (fun b o z => e b o (e0 b o z)) hp a1 a2⟩
end
end Sw
/-! What the judge walks: pairs of stands. -/
namespace Sw
/-- the judge's pair in turn k, from 0 -/
def hh (M : Mc) (p : W3 × W3) (k : Nat) : Nat × Nat := (M.run 0 (p.1.1 ++ pw p.1.2.1 (k + 1)), M.run 0 (p.2.1 ++ pw p.2.2.1 (k + 1)))
def hgood (M : Mc) (p : W3 × W3) (h : Nat × Nat) : Prop := M.fin (M.run h.1 p.1.2.2) = true ∧ M.fin (M.run h.2 p.2.2.2) = false
theorem hh_succ (M : Mc) (p : W3 × W3) (k : Nat) : hh M p (k + 1) = (M.run (hh M p k).1 p.1.2.1, M.run (hh M p k).2 p.2.2.1) := by
  unfold hh
  rw [pw_succ' _ (k + 1), pw_succ' _ (k + 1), ← List.append_assoc, ← List.append_assoc, Mc.run_app, Mc.run_app (u := p.2.1 ++ _)]
theorem hh_zero (M : Mc) (p : W3 × W3) : hh M p 0 = (M.run 0 (p.1.1 ++ p.1.2.1), M.run 0 (p.2.1 ++ p.2.2.1)) := by
  unfold hh; simp [pw]
theorem hgood_at {M : Mc} {p : W3 × W3} {k : Nat} : hgood M p (hh M p k) ↔ M.lang (at3 p.1 (k + 1)) = true ∧ M.lang (at3 p.2 (k + 1)) = false := by
  unfold hgood hh at3 Mc.lang
  rw [← Mc.run_app, ← Mc.run_app, List.append_assoc, List.append_assoc]
theorem hh_rep {M : Mc} {p : W3 × W3} {i j : Nat} (hij : i < j) (e : hh M p j = hh M p i) : ∀ k, ∃ i', i' < j ∧ hh M p k = hh M p i'
  | 0 => ⟨0, by omega, rfl⟩
  | k + 1 => by
    obtain ⟨i', h1, h2⟩ := hh_rep hij e k
    by_cases h : i' + 1 < j
    · exact ⟨i' + 1, h, by rw [hh_succ, h2, ← hh_succ]⟩
    · have : i' + 1 = j := by omega
      exact ⟨i, hij, by rw [hh_succ, h2, ← hh_succ, this, e]⟩
theorem shows_of_rep {M : Mc} {g : Sg} {i j : Nat} (hij : i < j) (e : hh M g.parts j = hh M g.parts i) (h : ∀ k, k < j → hgood M g.parts (hh M g.parts k)) : ShowsL M.lang g := fun n hn => by
  obtain ⟨i', h1, h2⟩ := hh_rep hij e (n - 1)
  have := h i' h1
  rw [← h2] at this
  have h3 := hgood_at.mp this
  rwa [show n - 1 + 1 = n by omega] at h3
theorem not_shows {M : Mc} {g : Sg} {k : Nat} (h : ¬ hgood M g.parts (hh M g.parts k)) : ¬ ShowsL M.lang g := fun s => h (hgood_at.mpr (s (k + 1) (by omega)))
/-- the met pairs, in turn -/
def hmet (M : Mc) (p : W3 × W3) (j : Nat) : List (List Nat) := (List.range j).map fun k => [(hh M p k).1, (hh M p k).2]
theorem hmet_len (M : Mc) (p : W3 × W3) (j : Nat) : (hmet M p j).length = j := by simp [hmet]
theorem hmet_succ (M : Mc) (p : W3 × W3) (j : Nat) : hmet M p (j + 1) = hmet M p j ++ [[(hh M p j).1, (hh M p j).2]] := by simp [hmet, List.range_succ]
theorem hmet_mem {M : Mc} {p : W3 × W3} {j : Nat} : [(hh M p j).1, (hh M p j).2] ∈ hmet M p j ↔ ∃ i, i < j ∧ hh M p j = hh M p i := by
  unfold hmet
  rw [List.mem_map]
  constructor
  · rintro ⟨i, hi, e⟩
    refine ⟨i, List.mem_range.mp hi, ?_⟩
    simp only [List.cons.injEq, and_true] at e
    exact Prod.ext e.1.symm e.2.symm
  · rintro ⟨i, hi, e⟩
    exact ⟨i, List.mem_range.mpr hi, by rw [e]⟩
theorem hmet_nd {M : Mc} {p : W3 × W3} : ∀ {j : Nat}, (∀ k, k < j → [(hh M p k).1, (hh M p k).2] ∉ hmet M p k) → (hmet M p j).Nodup
  | 0, _ => by simp [hmet]
  | j + 1, h => by
    rw [hmet_succ, List.nodup_append]
    refine ⟨hmet_nd fun k hk => h k (by omega), by simp, fun a ha b hb e => ?_⟩
    rw [List.mem_singleton.mp hb] at e
    exact h j (by omega) (e ▸ ha)
theorem hmet_le {M : Mc} (O : M.Ok) {p : W3 × W3} {j : Nat} (h : ∀ k, k < j → [(hh M p k).1, (hh M p k).2] ∉ hmet M p k) : j ≤ 3600 := by
  have hn := hmet_nd h
  have := nodup_le _ (lists M.n 2) hn fun x hx => by
    obtain ⟨k, _, rfl⟩ := List.mem_map.mp hx
    exact mem_lists rfl fun y hy => by
      rcases List.mem_cons.mp hy with e | e
      · rw [e]; exact O.run0_lt _
      · rw [List.mem_singleton.mp e]; exact O.run0_lt _
  rw [hmet_len, lists_len] at this
  have h60 : M.n ^ 2 ≤ 60 ^ 2 := Nat.pow_le_pow_left O.le 2
  omega
/-- lengths of a swing's parts -/
theorem parts_len {ls : Wd} {g : Sg} (h : g.ok ls 4000) : (g.parts.1.1.length ≤ 16000 ∧ g.parts.1.2.1.length ≤ 240000 ∧ g.parts.1.2.2.length ≤ 8000) ∧ (g.parts.2.1.length ≤ 16000 ∧ g.parts.2.2.1.length ≤ 240000 ∧ g.parts.2.2.2.length ≤ 8000) := by
  cases g with
  | few u y v s z t => obtain ⟨⟨_, h1⟩, ⟨_, h2⟩, _, ⟨_, h3⟩, ⟨_, h4⟩, ⟨_, h5⟩, _, ⟨_, h6⟩⟩ := h; simp only [Sg.parts]; omega
  | starts u y v w => obtain ⟨⟨_, h1⟩, ⟨_, h2⟩, _, ⟨_, h3⟩, ⟨_, h4⟩⟩ := h; simp only [Sg.parts]; omega
  | ends u v y w => obtain ⟨⟨_, h1⟩, ⟨_, h2⟩, ⟨_, h3⟩, _, ⟨_, h4⟩⟩ := h; simp only [Sg.parts]; omega
  | counts u x y v => obtain ⟨⟨_, h1⟩, ⟨_, h2⟩, _, ⟨_, h3⟩, _, ⟨_, h4⟩⟩ := h; simp only [Sg.parts, List.length_append, List.length_nil]; omega
  | subwords r f u x y v =>
    obtain ⟨⟨_, h1⟩, ⟨_, h2⟩, ⟨_, h3⟩, _, ⟨_, h4⟩⟩ := h
    cases r <;> cases f <;> simp only [Sg.parts, flipIf, if_true, if_false, Bool.false_eq_true, List.length_append] <;> omega
  | falling f u x y v =>
    obtain ⟨⟨_, h1⟩, ⟨_, h2⟩, ⟨_, h3⟩, _, ⟨_, h4⟩⟩ := h
    cases f <;> simp only [Sg.parts, flipIf, if_true, if_false, Bool.false_eq_true, List.length_append] <;> omega
  | starfree u y v p =>
    obtain ⟨⟨_, h1⟩, ⟨_, h2⟩, _, ⟨_, h3⟩, _, h5⟩ := h
    have : p * y.length ≤ 60 * 4000 := Nat.mul_le_mul h5 h2
    simp only [Sg.parts, List.length_append, pw_len]; omega
  | turning f u y v =>
    obtain ⟨⟨_, h1⟩, ⟨_, h2⟩, _, ⟨_, h3⟩⟩ := h
    cases f <;> simp only [Sg.parts, flipIf, if_true, if_false, Bool.false_eq_true, List.length_append, List.length_nil] <;> omega
/-! ### a word in pieces -/
theorem take_piece (u : Wd) (i : Nat) : u.take (10000 * (i + 1)) = u.take (10000 * i) ++ (u.drop (10000 * i)).take 10000 := by
  rw [Nat.mul_succ, List.take_add]
end Sw
/-! walked_to, is_in, shows. -/
namespace Sw
open PySem PySem.Spec PyProof.Rows L2 LamX NdefX
theorem rg_size (n : Nat) : Builtin.Range.rangeSize 0 (n : Nat) 10000 = (((n + 9999) / 10000 : Nat) : Int) := by
  unfold Builtin.Range.rangeSize
  rw [if_pos (by decide)]
  by_cases h0 : (0 : Int) < (n : Nat)
  · rw [if_pos h0]; omega
  · rw [if_neg h0]; omega
theorem rg_pieces (n : Nat) (h : n ≤ 300000) : RgC 0 (n : Nat) 10000 ((n + 9999) / 10000) := by
  refine ⟨by decide, by decide, ?_, rg_size n⟩
  unfold Builtin.Range.small
  rw [rg_size]
  have hN : (n + 9999) / 10000 ≤ 31 := by omega
  generalize (n + 9999) / 10000 = N at hN
  have hc : (0 : Int) < 10000 ∧ (10000 : Int) < 2 ^ 30 := by decide
  generalize (10000 : Int) = c at hc
  have hc2 : c > 0 := hc.1
  simp only [Builtin.Range.rangeFitsLong, Bool.and_eq_true, Bool.or_eq_true, decide_eq_true_eq, beq_iff_eq, hc2, if_true]
  omega
theorem cut_piece {u : Wd} {i : Nat} (h : 10000 * i ≤ u.length) : cutS (S u) (some (0 + (i : Nat) * 10000)) (some (0 + (i : Nat) * 10000 + 10000)) = S ((u.drop (10000 * i)).take 10000) := by
  have e1 : (0 + (i : Nat) * 10000 : Int) = ((10000 * i : Nat) : Int) := by omega
  have e2 : (0 + (i : Nat) * 10000 + 10000 : Int) = ((10000 * i + 10000 : Nat) : Int) := by omega
  rw [e2, e1]
  unfold cutS
  rw [HT.sIx_nat, HT.sIx_nat, S_len, Nat.min_eq_left h]
  show S ((u.drop (10000 * i)).take (min (10000 * i + 10000) u.length - 10000 * i)) = S _
  congr 1
  by_cases hle : 10000 * i + 10000 ≤ u.length
  · rw [Nat.min_eq_left hle, Nat.add_sub_cancel_left]
  · rw [Nat.min_eq_right (by omega), List.take_of_length_le (by rw [List.length_drop]; omega), List.take_of_length_le (by rw [List.length_drop]; omega)]
section
variable {P : Program} {w : World} {K : PySem.W.Frag} {mg : Str → Option Value} {base : Heap} {CM CA CW CG : Addr}
def spWalkedTo (CM : Addr) : Sp := fun vs H Q _ => ∃ (a : Addr) (M : Mc) (u : Wd) (st : Nat), vs = [.ref a, vi st, VS u] ∧ MachAt CM H a M ∧ M.Ok ∧ Ov M.ls u ∧ u.length ≤ 300000 ∧ st < M.n ∧ ∀ H', Same H H' → Q (vi (M.run st u)) H'
theorem ok_walked_to (T : Tx K mg CM CA CW CG) : Pr P w K mg base CX0 4 "walked_to" P_walked_to [] (spWalkedTo CM) := by
  refine T.d_walked_to.pr sc_walked_to (fun _ _ _ _ _ _ us hl => match us, hl with | [_, _, _], _ => rfl) (fun vs H Q E h => ?_) (fun f cdv A outer s H vs Q E hr h => ?_)
  · obtain ⟨a, M, u, st, rfl, _⟩ := h; rfl
  · obtain ⟨a, M, u, st, rfl, hM, O, ou, ul, hst, q⟩ := h
    have hsl : (S u).length ≤ sizeLine := by rw [S_len]; show _ ≤ 2 ^ 24; omega
    refine ⟨_, (PSs.nox (pss_cons (ps_for PassesOwn.never rfl (pi_range3 rfl T.z_range (pa_cons pe_int (pa_cons (pe_callB call_len rfl T.z_len boot_len (pa_cons (pv 2) pa_nil)) (pa_cons (pe_globI rfl T.i_PIECE) pa_nil)))) (pg_name (i := 3) sc_walked_to.nd rfl (Or.inl rfl) (Or.inl rfl))
 (pss_one (ps_set (i := 1) sc_walked_to.nd rfl (Or.inl rfl) (pe_methK (pv 0) T.clCM (ok_behind T).2 (hr.mono (by decide)) pass0 (pa_cons (pe_slice sl_str (pv 2) (po_some (pv 3)) (po_some (pe_op op_add (pv 3) (pe_globI rfl T.i_PIECE)))) pa_nil) (pk_cons (pv 1) pk_nil)))))
 (pss_one (ps_ret (pv 1))))), ?_⟩
    refine ⟨_, rfl, _, _, rfl, ⟨hsl, rfl⟩, _, _, _, _, rfl, by rw [S_len]; exact rg_pieces _ ul, for_it walk_rangeC (fun i σ H2 => ∃ v, σ = [some (.ref a), some (vi (M.run st (u.take (10000 * i)))), some (VS u), v] ∧ Same H H2) ⟨none, rfl, fun _ _ z => z⟩ (fun _ _ _ _ _ => trivial) ?_ ?_⟩
    · rintro i x σ H2 H2' hi ⟨v, rfl, e2⟩ ⟨rfl, rfl⟩
      have hi2 : 10000 * i ≤ u.length := by omega
      obtain ⟨dx, p0, h1, _⟩ := id hM
      have hlt : M.run st (u.take (10000 * i)) < M.n := O.run_lt hst _
      have ou2 : Ov M.ls ((u.drop (10000 * i)).take 10000) := fun c hc => ou c (List.mem_of_mem_drop (List.mem_of_mem_take hc))
      refine ⟨_, rfl, a, dx, _, rfl, e2 _ _ h1, fM_no _ _ (by decide +kernel) (by decide +kernel), _, rfl, _, rfl, _, rfl, _, rfl, _, _, rfl, rfl, _, rfl, S u, rfl, hsl, _, rfl, rfl, rfl, a, M, (u.drop (10000 * i)).take 10000, _, ?_, hM.sol (.of e2), O, ou2, by rw [List.length_take]; omega, hlt, fun H3 e3 => ?_⟩
      · show [V.ref a, V.str _, vi _] = _
        rw [cut_piece hi2]
      · refine ⟨some (.int (0 + (i : Nat) * 10000)), ?_, fun b o z => e3 b o (e2 b o z)⟩
        rw [take_piece, Mc.run_app]; rfl
    · rintro σ H2 ⟨v, rfl, e2⟩
      refine ⟨_, rfl, ?_⟩
      rw [List.take_of_length_le (by omega)]
      exact q _ e2
def spIsIn (CM : Addr) : Sp := fun vs H Q _ => ∃ (a : Addr) (M : Mc) (u : Wd) (st : Nat), vs = [.ref a, vi st, VS u] ∧ MachAt CM H a M ∧ M.Ok ∧ Ov M.ls u ∧ u.length ≤ 300000 ∧ st < M.n ∧ ∀ H', Same H H' → Q (.bl (M.fin (M.run st u))) H'
theorem ok_is_in (T : Tx K mg CM CA CW CG) : Pr P w K mg base CX0 5 "is_in" P_is_in [] (spIsIn CM) := by
  refine T.d_is_in.pr sc_is_in (fun _ _ _ _ _ _ us hl => match us, hl with | [_, _, _], _ => rfl) (fun vs H Q E h => ?_) (fun f cdv A outer s H vs Q E hr h => ?_)
  · obtain ⟨a, M, u, st, rfl, _⟩ := h; rfl
  · obtain ⟨a, M, u, st, rfl, hM, O, ou, ul, hst, q⟩ := h
    obtain ⟨dx, p0, h1, _⟩ := id hM
    have hlt : M.run st u < M.n := O.run_lt hst _
    obtain ⟨ro, hro, f1, _⟩ := O.row hlt
    refine ⟨_, (PSs.nox (pss_one (ps_ret (pe_ix ix_tup (pe_ix ix_list (pe_methP0 (pv 0) T.clCM (ok_Machine_rows T) (hr.mono (by decide)) pass0) (pe_callP (ok_walked_to T) (hr.mono (by decide)) rfl pass0 (pa_cons (pv 0) (pa_cons (pv 1) (pa_cons (pv 2) pa_nil)))) (fun _ _ => rfl)) pe_int (fun _ _ => rfl))))), ?_⟩
    refine ⟨_, rfl, a, dx, _, rfl, h1, fM_no _ _ (by decide +kernel) (by decide +kernel), a, M, rfl, hM, fun H1 p e1 np hat => ?_⟩
    refine ⟨_, rfl, _, rfl, _, rfl, a, M, u, st, rfl, hM.sol (.of e1), O, ou, ul, hst, fun H2 e2 => ?_⟩
    obtain ⟨as, hp, hrs⟩ := hat.sol (.of e2)
    obtain ⟨a0, ha0, t0, ht1, ht2⟩ := hrs.get hro
    exact ⟨p, _, _, _, rfl, rfl, .of hp, atI_nat (refs_get ha0), _, _, 0, _, rfl, rfl, .inl (.inl ht1), rfl, by rw [f1]; exact q _ fun b o z => e2 b o (e1 b o z)⟩
def spShows (CM : Addr) : Sp := fun vs H Q _ => ∃ (a p : Addr) (M : Mc) (g : Sg), vs = [.ref a, .ref p] ∧ MachAt CM H a M ∧ M.Ok ∧ H p = some (.tup (sgV g)) ∧ g.ok M.ls 4000 ∧ (∀ H', Same H H' → ShowsL M.lang g → Q (.bl true) H') ∧ ∀ H', Same H H' → ¬ ShowsL M.lang g → Q (.bl false) H'
theorem ok_shows (T : Tx K mg CM CA CW CG) {FA : Addr} (F : Tfo K w mg FA) : Pr P w K mg base CX0 6 "shows" P_shows [] (spShows CM) := by
  refine T.d_shows.pr sc_shows (fun _ _ _ _ _ _ us hl => match us, hl with | [_, _], _ => rfl) (fun vs H Q E h => ?_) (fun f cdv A outer s H vs Q E hr h => ?_)
  · obtain ⟨a, p, M, g, rfl, _⟩ := h; rfl
  · obtain ⟨a, p, M, g, rfl, hM, O, hp, hok, q1, q2⟩ := h
    have hu := hu_of hr
    obtain ⟨dx, p0, h1, _⟩ := id hM
    refine ⟨_, (PSs.nox (pss_cons (ps_if (pt_not (pt_val (pe_callP (ok_is_swing T F) (hr.mono (by decide)) rfl pass0 (pa_cons (pe_methP0 (pv 0) T.clCM (ok_Machine_letters T) (hr.mono (by decide)) pass0) (pa_cons (pv 1) pa_nil)))))
 (pss_one (ps_ret pe_bl))
 pss_nil)
 (pss_cons (ps_asg (pe_callP (ok_swing_parts T) (hr.mono (by decide)) rfl pass0 (pa_cons (pv 1) pa_nil)) (pg_tup rfl (pgs_cons (pg_tup rfl (pgs_cons (pg_name (i := 2) sc_shows.nd rfl (Or.inl rfl) (Or.inl rfl)) (pgs_cons (pg_name (i := 3) sc_shows.nd rfl (Or.inl rfl) (Or.inl rfl)) (pgs_cons (pg_name (i := 4) sc_shows.nd rfl (Or.inl rfl) (Or.inl rfl)) pgs_nil)))) (pgs_cons (pg_tup rfl (pgs_cons (pg_name (i := 5) sc_shows.nd rfl (Or.inl rfl) (Or.inl rfl)) (pgs_cons (pg_name (i := 6) sc_shows.nd rfl (Or.inl rfl) (Or.inl rfl)) (pgs_cons (pg_name (i := 7) sc_shows.nd rfl (Or.inl rfl) (Or.inl rfl)) pgs_nil)))) pgs_nil))))
 (pss_cons (ps_set (i := 8) sc_shows.nd rfl (Or.inl rfl) (pe_tup (pa_cons (pe_callP (ok_walked_to T) (hr.mono (by decide)) rfl pass0 (pa_cons (pv 0) (pa_cons pe_int (pa_cons (pe_op op_add_str (pv 2) (pv 3)) pa_nil)))) (pa_cons (pe_callP (ok_walked_to T) (hr.mono (by decide)) rfl pass0 (pa_cons (pv 0) (pa_cons pe_int (pa_cons (pe_op op_add_str (pv 5) (pv 6)) pa_nil)))) pa_nil))))
 (pss_cons (ps_set (i := 9) sc_shows.nd rfl (Or.inl rfl) pe_dnewT)
 (pss_cons (ps_while PassesOwn.never (pt_cmp (pc_dnotin hu (pv 8) (pv 9)))
 (pss_cons (ps_if (PW.pt (pw_or (pt_not (pt_val (pe_callP (ok_is_in T) (hr.mono (by decide)) rfl pass0 (pa_cons (pv 0) (pa_cons (pe_ix ix_tup (pv 8) pe_int (fun _ _ => rfl)) (pa_cons (pv 4) pa_nil)))))) (pw_or1 (pt_val (pe_callP (ok_is_in T) (hr.mono (by decide)) rfl pass0 (pa_cons (pv 0) (pa_cons (pe_ix ix_tup (pv 8) pe_int (fun _ _ => rfl)) (pa_cons (pv 7) pa_nil))))))))
 (pss_one (ps_ret pe_bl))
 pss_nil)
 (pss_cons (ps_dput hu (pv 9) (pv 8) pe_bl rfl)
 (pss_one (ps_set (i := 8) sc_shows.nd rfl (Or.inl rfl) (pe_tup (pa_cons (pe_callP (ok_walked_to T) (hr.mono (by decide)) rfl pass0 (pa_cons (pv 0) (pa_cons (pe_ix ix_tup (pv 8) pe_int (fun _ _ => rfl)) (pa_cons (pv 3) pa_nil)))) (pa_cons (pe_callP (ok_walked_to T) (hr.mono (by decide)) rfl pass0 (pa_cons (pv 0) (pa_cons (pe_ix ix_tup (pv 8) pe_int (fun _ _ => rfl)) (pa_cons (pv 6) pa_nil)))) pa_nil))))))))
 (pss_one (ps_ret pe_bl)))))))), ?_⟩
    refine ⟨_, rfl, a, dx, _, rfl, h1, fM_no _ _ (by decide +kernel) (by decide +kernel), a, M, rfl, hM, _, rfl, M.ls, p, g, rfl, O.abc_, hp, hok, fun H1 e1 => ⟨_, rfl, ?_⟩⟩
    refine ⟨_, rfl, M.ls, p, g, rfl, e1 _ _ hp, hok, fun H2 pq t1 t2 e2 hpq ht1 ht2 => ?_⟩
    refine ⟨pq, _, rfl, .inl (.inl hpq), rfl, _, _, rfl, ?_⟩
    refine ⟨t1, _, rfl, .inl (.inl ht1), rfl, _, _, rfl, _, _, rfl, _, _, rfl, rfl, ?_⟩
    refine ⟨_, _, rfl, t2, _, rfl, .inl (.inl ht2), rfl, _, _, rfl, _, _, rfl, _, _, rfl, rfl, rfl, ?_⟩
    have e02 : Same H H2 := fun b o z => e2 b o (e1 b o z)
    obtain ⟨⟨o1, o2, o3⟩, o4, o5, o6⟩ := parts_ov hok
    obtain ⟨⟨l1, l2, l3⟩, l4, l5, l6⟩ := parts_len hok
    have hz := hh_zero M g.parts
    generalize hgp : g.parts = gp at *
    refine ⟨_, rfl, _, rfl, _, rfl, _, _, rfl, rfl, s4 (by omega) (by omega), ?_⟩
    rw [S_app]
    refine ⟨a, M, gp.1.1 ++ gp.1.2.1, 0, rfl, hM.sol (.of e02), O, o1.app o2, by rw [List.length_append]; omega, O.pos, fun H3 e3 => ?_⟩
    refine ⟨_, rfl, _, rfl, _, rfl, _, _, rfl, rfl, s4 (by omega) (by omega), ?_⟩
    rw [S_app]
    have e03 : Same H H3 := fun b o z => e3 b o (e02 b o z)
    refine ⟨a, M, gp.2.1 ++ gp.2.2.1, 0, rfl, hM.sol (.of e03), O, o4.app o5, by rw [List.length_append]; omega, O.pos, fun H4 e4 => ⟨z2, fun hr0 hhr0 => ?_⟩⟩
    have e04 : Same H H4 := fun b o z => e4 b o (e03 b o z)
    have e5 : Same H4 (upd H4 hr0 (.tup [vi (M.run 0 (gp.1.1 ++ gp.1.2.1)), vi (M.run 0 (gp.2.1 ++ gp.2.2.1))])) := same_new hhr0
    have hh0 : upd H4 hr0 (.tup [vi (M.run 0 (gp.1.1 ++ gp.1.2.1)), vi (M.run 0 (gp.2.1 ++ gp.2.2.1))]) hr0 = some (.tup (nis [(hh M gp 0).1, (hh M gp 0).2])) := by rw [upd_same, hz]; rfl
    generalize upd H4 hr0 (.tup [vi (M.run 0 (gp.1.1 ++ gp.1.2.1)), vi (M.run 0 (gp.2.1 ++ gp.2.2.1))]) = H5 at e5 hh0
    have e05 : Same H H5 := fun b o z => e5 b o (e04 b o z)
    refine fun mt hmt => ?_
    have e6 : Same H5 (upd H5 mt (.dT [])) := same_new hmt
    have hmt6 : upd H5 mt (.dT []) mt = some (.dT (setOf tk (hmet M gp 0))) := upd_same
    have hh6 := e6 _ _ hh0
    refine while_ix (fun m σ H9 => ∃ (j : Nat) (pj : Addr), σ = [some (.ref a), some (.ref p), some (VS gp.1.1), some (VS gp.1.2.1), some (VS gp.1.2.2), some (VS gp.2.1), some (VS gp.2.2.1), some (VS gp.2.2.2), some (.ref pj), some (.ref mt)] ∧
      Same H5 H9 ∧ H9 mt = some (.dT (setOf tk (hmet M gp j))) ∧ H9 pj = some (.tup (nis [(hh M gp j).1, (hh M gp j).2])) ∧ (∀ k, k < j → [(hh M gp k).1, (hh M gp k).2] ∉ hmet M gp k) ∧ (∀ k, k < j → hgood M gp (hh M gp k)) ∧ m = 3601 - j) _
      ⟨0, hr0, rfl, e6, hmt6, hh6, fun k h => absurd h (Nat.not_lt_zero _), fun k h => absurd h (Nat.not_lt_zero _), rfl⟩ ?_
    rintro m σ H9 ⟨j, pj, rfl, e9, hm9, hp9, hnot, hgd, hmeq⟩
    have hjle := hmet_le O hnot
    have hv : valV (setOf tk (hmet M gp j)) (tk [(hh M gp j).1, (hh M gp j).2]) = _ := valV_set tk_inj _ _
    refine ⟨_, rfl, _, rfl, mt, _, rfl, get_tk hm9 hp9 hv, _, rfl, ?_⟩
    by_cases hin : [(hh M gp j).1, (hh M gp j).2] ∈ hmet M gp j
    · rw [if_pos hin]
      obtain ⟨i, hij, he⟩ := hmet_mem.mp hin
      subst hgp
      exact q1 _ (fun b o z => e9 b o (e05 b o z)) (shows_of_rep hij he hgd)
    · rw [if_neg hin]
      refine ⟨fun σ' H' => ∃ m', m' < m ∧ ∃ (j : Nat) (pj : Addr), σ' = [some (.ref a), some (.ref p), some (VS gp.1.1), some (VS gp.1.2.1), some (VS gp.1.2.2), some (VS gp.2.1), some (VS gp.2.2.1), some (VS gp.2.2.2), some (.ref pj), some (.ref mt)] ∧
        Same H5 H' ∧ H' mt = some (.dT (setOf tk (hmet M gp j))) ∧ H' pj = some (.tup (nis [(hh M gp j).1, (hh M gp j).2])) ∧ (∀ k, k < j → [(hh M gp k).1, (hh M gp k).2] ∉ hmet M gp k) ∧ (∀ k, k < j → hgood M gp (hh M gp k)) ∧ m' = 3601 - j, fun _ _ h => h, ?_⟩
      have e09 : Same H H9 := fun b o z => e9 b o (e05 b o z)
      have lt1 : (hh M gp j).1 < M.n := O.run0_lt _
      have lt2 : (hh M gp j).2 < M.n := O.run0_lt _
      refine ⟨_, rfl, _, rfl, pj, _, 0, _, rfl, rfl, .inl (.inl hp9), rfl, _, rfl, a, M, gp.1.2.2, _, rfl, hM.sol (.of e09), O, o3, by omega, lt1, fun H10 e10 => ⟨_, rfl, ?_⟩⟩
      have hp10 := e10 _ _ hp9
      have e010 : Same H H10 := fun b o z => e10 b o (e09 b o z)
      cases hf1 : M.fin (M.run (hh M gp j).1 gp.1.2.2) with
      | false =>
        subst hgp
        exact q2 _ e010 (not_shows (k := j) fun z => by rw [z.1] at hf1; cases hf1)
      | true =>
        refine ⟨_, rfl, _, rfl, pj, _, 1, _, rfl, rfl, .inl (.inl hp10), rfl, _, rfl, a, M, gp.2.2.2, _, rfl, hM.sol (.of e010), O, o6, by omega, lt2, fun H11 e11 => ⟨_, rfl, ?_⟩⟩
        have hp11 := e11 _ _ hp10
        have e011 : Same H H11 := fun b o z => e11 b o (e010 b o z)
        cases hf2 : M.fin (M.run (hh M gp j).2 gp.2.2.2) with
        | true =>
          subst hgp
          exact q2 _ e011 (not_shows (k := j) fun z => by rw [z.2] at hf2; cases hf2)
        | false =>
          have hm11 := e11 _ _ (e10 _ _ hm9)
          have e511 : Same H5 H11 := fun b o z => e11 b o (e10 b o (e9 b o z))
          have hmt5 : H5 mt = none := hmt
          refine ⟨_, rfl, _, rfl, mt, _, rfl, .t (k := tk [(hh M gp j).1, (hh M gp j).2]) hm11 (by rw [tk_kV]; exact hp11) (by rw [setOf_len, hmet_len]; exact slt (by omega)), ?_⟩
          rw [if_neg hin] at hv
          rw [putK_new _ hv, ← setOf_snoc, ← hmet_succ]
          have e12 : Same H5 (upd H11 mt (.dT (setOf tk (hmet M gp (j + 1))))) := same_mut e511 hmt5
          have hm12 : upd H11 mt (.dT (setOf tk (hmet M gp (j + 1)))) mt = some (.dT (setOf tk (hmet M gp (j + 1)))) := upd_same
          have hp12 : upd H11 mt (.dT (setOf tk (hmet M gp (j + 1)))) pj = some (.tup (nis [(hh M gp j).1, (hh M gp j).2])) := by rw [upd_ne (ne_of hp11 hm11 (by intro z; cases z))]; exact hp11
          generalize upd H11 mt (.dT (setOf tk (hmet M gp (j + 1)))) = H12 at e12 hm12 hp12
          have e012 : Same H H12 := fun b o z => e12 b o (e05 b o z)
          refine ⟨_, rfl, _, rfl, pj, _, 0, _, rfl, rfl, .inl (.inl hp12), rfl, _, rfl, a, M, gp.1.2.1, _, rfl, hM.sol (.of e012), O, o2, by omega, lt1, fun H13 e13 => ?_⟩
          have e013 : Same H H13 := fun b o z => e13 b o (e012 b o z)
          refine ⟨_, rfl, _, rfl, pj, _, 1, _, rfl, rfl, .inl (.inl (e13 _ _ hp12)), rfl, _, rfl, a, M, gp.2.2.1, _, rfl, hM.sol (.of e013), O, o5, by omega, lt2, fun H14 e14 => ⟨z2, fun pn hpn => ?_⟩⟩
          have e15 := same_new (o := .tup [vi (M.run (hh M gp j).1 gp.1.2.1), vi (M.run (hh M gp j).2 gp.2.2.1)]) hpn
          have hs := hh_succ M gp j
          have hnot2 : ∀ k, k < j + 1 → [(hh M gp k).1, (hh M gp k).2] ∉ hmet M gp k := fun k hk => by
            by_cases hkj : k < j
            · exact hnot k hkj
            · rw [show k = j by omega]; exact hin
          have := hmet_le O hnot2
          refine ⟨3601 - (j + 1), by omega, j + 1, pn, rfl, fun b o z => e15 b o (e14 b o (e13 b o (e12 b o z))), e15 _ _ (e14 _ _ (e13 _ _ hm12)), by rw [upd_same, hs]; rfl, hnot2, fun k hk => ?_, rfl⟩
          by_cases hkj : k < j
          · exact hgd k hkj
          · rw [show k = j by omega]; exact ⟨hf1, hf2⟩
end
end Sw
/-! The law's own: its state; begun, mixed, take, pick. -/
namespace Sw
open PySem PySem.Spec PyProof.Rows L2 LamX NdefX
def kS (s : Str) : Key := Sum.inr s
def stD (g c : Addr) (r t : Int) : List (Key × V) := [(kS "great", .ref g), (kS "cells", .ref c), (kS "rest", .int r), (kS "turn", .int t)]
theorem stD_g (g c : Addr) (r t : Int) : valV (stD g c r t) (kS "great") = some (.ref g) := rfl
theorem kS_ne {a b : Str} (h : (a == b) = false) : kS a ≠ kS b := fun e => by
  have : a = b := Sum.inr.inj e
  subst this; simp at h
theorem stD_c (g c : Addr) (r t : Int) : valV (stD g c r t) (kS "cells") = some (.ref c) := by
  unfold stD; rw [valV_cons, if_neg (kS_ne (by decide +kernel)), valV_cons, if_pos rfl]
theorem stD_r (g c : Addr) (r t : Int) : valV (stD g c r t) (kS "rest") = some (.int r) := by
  unfold stD; rw [valV_cons, if_neg (kS_ne (by decide +kernel)), valV_cons, if_neg (kS_ne (by decide +kernel)), valV_cons, if_pos rfl]
theorem stD_t (g c : Addr) (r t : Int) : valV (stD g c r t) (kS "turn") = some (.int t) := by
  unfold stD; rw [valV_cons, if_neg (kS_ne (by decide +kernel)), valV_cons, if_neg (kS_ne (by decide +kernel)), valV_cons, if_neg (kS_ne (by decide +kernel)), valV_cons, if_pos rfl]
theorem putK_tl {κ : Type} [DecidableEq κ] {k k' : κ} {v x : V} {kvs : List (κ × V)} (h : k ≠ k') : putK ((k, v) :: kvs) k' x = (k, v) :: putK kvs k' x := by
  unfold putK
  rw [List.any_cons, decide_eq_false h, Bool.false_or]
  by_cases e : (kvs.any fun kv => decide (kv.1 = k')) = true
  · rw [if_pos e, if_pos e, List.map_cons, if_neg h]
  · rw [if_neg e, if_neg e]; rfl
theorem putK_hd {κ : Type} [DecidableEq κ] {k : κ} {v x : V} {kvs : List (κ × V)} (h : ∀ p ∈ kvs, p.1 ≠ k) : putK ((k, v) :: kvs) k x = (k, x) :: kvs := by
  unfold putK
  rw [List.any_cons, decide_eq_true rfl, Bool.true_or, if_pos rfl, List.map_cons, if_pos rfl]
  congr 1
  have : ∀ p ∈ kvs, (if p.1 = k then (p.1, x) else p) = p := fun p hp => if_neg (h p hp)
  rw [List.map_congr_left this, List.map_id']
theorem stD_put_r (g c : Addr) (r t r' : Int) : putK (stD g c r t) (kS "rest") (.int r') = stD g c r' t := by
  unfold stD
  rw [putK_tl (kS_ne (by decide +kernel)), putK_tl (kS_ne (by decide +kernel)), putK_hd fun p hp => by rw [List.mem_singleton.mp hp]; exact kS_ne (by decide +kernel)]
theorem stD_put_t (g c : Addr) (r t t' : Int) : putK (stD g c r t) (kS "turn") (.int t') = stD g c r t' := by
  unfold stD
  rw [putK_tl (kS_ne (by decide +kernel)), putK_tl (kS_ne (by decide +kernel)), putK_tl (kS_ne (by decide +kernel)), putK_hd fun p hp => by cases hp]
theorem merge_stD (g c : Addr) (r t : Int) : mergeK [] (stD g c r t) = stD g c r t := by
  have e1 : putK [] (kS "great") (.ref g) = [(kS "great", .ref g)] := putK_new _ rfl
  have e2 : putK [(kS "great", .ref g)] (kS "cells") (.ref c) = [(kS "great", .ref g), (kS "cells", .ref c)] := putK_new _ (by rw [valV_cons, if_neg (kS_ne (by decide +kernel))]; rfl)
  have e3 : putK [(kS "great", .ref g), (kS "cells", .ref c)] (kS "rest") (.int r) = [(kS "great", .ref g), (kS "cells", .ref c), (kS "rest", .int r)] := putK_new _ (by rw [valV_cons, if_neg (kS_ne (by decide +kernel)), valV_cons, if_neg (kS_ne (by decide +kernel))]; rfl)
  have e4 : putK [(kS "great", .ref g), (kS "cells", .ref c), (kS "rest", .int r)] (kS "turn") (.int t) = stD g c r t := putK_new _ (by rw [valV_cons, if_neg (kS_ne (by decide +kernel)), valV_cons, if_neg (kS_ne (by decide +kernel)), valV_cons, if_neg (kS_ne (by decide +kernel))]; rfl)
  show putK (putK (putK (putK [] (kS "great") (.ref g)) (kS "cells") (.ref c)) (kS "rest") (.int r)) (kS "turn") (.int t) = _
  rw [e1, e2, e3, e4]
theorem get_kS {H : Hp} {a : Addr} {kvs : List (Key × V)} {x : Str} {r : Option V} (h : H a = some (.dK kvs)) (e : valV kvs (kS x) = r) : DGet H a (.str x) r := by
  have := DGet.k (k := kS x) h
  rw [e] at this; exact this
/-- the law's state at a: turns told so far at most k -/
def LS (H : Hp) (a g c : Addr) (k : Nat) : Prop := ∃ (gs cs : List Int) (r t : Int), H a = some (.dK (stD g c r t)) ∧ H g = some (.lst (gs.map V.int)) ∧ H c = some (.lst (cs.map V.int)) ∧ g ≠ c ∧ 0 ≤ r ∧ (∀ x ∈ gs, 0 ≤ x) ∧ gs.length ≤ 63 ∧ cs.length ≤ 63 ∧ 0 ≤ t ∧ t ≤ k
/-- all but the state's dict and the list of its great numbers stay -/
def Kq (a g : Addr) (H H' : Hp) : Prop := ∀ b o, H b = some o → b ≠ a → b ≠ g → H' b = some o
section
variable {a g c p : Addr} {H H1 H2 : Hp} {k k' : Nat}
theorem Kq.refl : Kq a g H H := fun _ _ h _ _ => h
theorem Kq.of (e : Same H H1) : Kq a g H H1 := fun b o h _ _ => e b o h
theorem Kq.trans (x : Kq a g H H1) (y : Kq a g H1 H2) : Kq a g H H2 := fun b o h h1 h2 => y b o (x b o h h1 h2) h1 h2
theorem LS.mono (h : LS H a g c k) (hk : k ≤ k') : LS H a g c k' := by
  obtain ⟨gs, cs, r, t, h1, h2, h3, h4, h5, h6, h7, h8, h9, h10⟩ := h
  exact ⟨gs, cs, r, t, h1, h2, h3, h4, h5, h6, h7, h8, h9, by omega⟩
theorem LS.same (h : LS H a g c k) (e : Same H H1) : LS H1 a g c k := by
  obtain ⟨gs, cs, r, t, h1, h2, h3, h4⟩ := h
  exact ⟨gs, cs, r, t, e _ _ h1, e _ _ h2, e _ _ h3, h4⟩
theorem LS.na (h : LS H a g c k) (hp : H p = none) : p ≠ a ∧ p ≠ g ∧ p ≠ c := by
  obtain ⟨gs, cs, r, t, h1, h2, h3, _⟩ := h
  exact ⟨fun e => (by rw [e, h1] at hp; cases hp), fun e => (by rw [e, h2] at hp; cases hp), fun e => (by rw [e, h3] at hp; cases hp)⟩
theorem LS.mut (h : LS H a g c k) {o : HO} (h1 : p ≠ a) (h2 : p ≠ g) (h3 : p ≠ c) : LS (upd H p o) a g c k := by
  obtain ⟨gs, cs, r, t, q1, q2, q3, h4⟩ := h
  exact ⟨gs, cs, r, t, by rw [upd_ne h1.symm]; exact q1, by rw [upd_ne h2.symm]; exact q2, by rw [upd_ne h3.symm]; exact q3, h4⟩
/-- what is there and isn't the state's -/
def Off (a g : Addr) (H : Hp) (p : Addr) (o : HO) : Prop := H p = some o ∧ p ≠ a ∧ p ≠ g
theorem Off.kp {o : HO} (h : Off a g H p o) (e : Kq a g H H1) : Off a g H1 p o := ⟨e _ _ h.1 h.2.1 h.2.2, h.2⟩
end
section
variable {P : Program} {w : World} {K : PySem.W.Frag} {mg : Str → Option Value} {base : Heap} {CM CA CW CG : Addr}
def primes : List Int := [2147483629, 2147483587, 2147483579, 2147483563, 2147483549, 2147483543]
def spMixed : Sp := fun vs H Q _ => ∃ (a g c : Addr) (gs cs : List Int) (r t : Int), vs = [.ref a] ∧ H a = some (.dK (stD g c r t)) ∧ H c = some (.lst (cs.map V.int)) ∧ cs.length ≤ 63 ∧ 0 ≤ t ∧ t ≤ 100000 ∧
  ∀ H' n, 0 ≤ n → H' a = some (.dK (stD g c r (t + 1))) → (∀ b o, H b = some o → b ≠ a → H' b = some o) → Q (.int n) H'
theorem ok_q_mixed (T : Tx K mg CM CA CW CG) : Pr P w K mg base CX0 1 "_law_mixed" P_q_mixed [] spMixed := by
  refine T.d_q_mixed.pr sc_q_mixed (fun _ _ _ _ _ _ us hl => match us, hl with | [_], _ => rfl) (fun vs H Q E h => ?_) (fun f cdv A outer s H vs Q E hr h => ?_)
  · obtain ⟨a, g, c, gs, cs, r, t, rfl, _⟩ := h; rfl
  · obtain ⟨a, g, c, gs, cs, r, t, rfl, ha, hc, hcl, ht0, ht1, q⟩ := h
    have hu := hu_of hr
    refine ⟨_, (PSs.nox (pss_cons (ps_set (i := 1) sc_q_mixed.nd rfl (Or.inl rfl) (pe_op op_add (pe_dget hu (pv 0) pe_str (fun _ _ => rfl)) pe_int))
 (pss_cons (ps_dput hu (pv 0) pe_str (pv 1) rfl)
 (pss_cons (ps_set (i := 2) sc_q_mixed.nd rfl (Or.inl rfl) pe_int)
 (pss_cons (ps_for PassesOwn.never rfl (pi_list (pe_lst (pa_cons pe_int (pa_cons pe_int (pa_cons pe_int (pa_cons pe_int (pa_cons pe_int (pa_cons pe_int pa_nil)))))))) (pg_name (i := 3) sc_q_mixed.nd rfl (Or.inl rfl) (Or.inl rfl))
 (pss_cons (ps_set (i := 4) sc_q_mixed.nd rfl (Or.inl rfl) (pe_op op_add (pe_op op_mul pe_int (pv 1)) (pe_op op_fdivN (pv 3) pe_int)))
 (pss_cons (ps_for PassesOwn.never rfl (pi_list (pe_dget hu (pv 0) pe_str (fun _ _ => rfl))) (pg_name (i := 5) sc_q_mixed.nd rfl (Or.inl rfl) (Or.inl rfl))
 (pss_one (ps_set (i := 4) sc_q_mixed.nd rfl (Or.inl rfl) (pe_op op_modN (pe_op op_add (pe_op op_mul (pv 4) pe_int) (pv 5)) (pv 3)))))
 (pss_one (ps_set (i := 2) sc_q_mixed.nd rfl (Or.inl rfl) (pe_op op_add (pe_op op_mul (pv 2) pe_int) (pe_op op_modN (pe_op op_pow (pv 4) pe_int) (pv 3))))))))
 (pss_one (ps_ret (pv 2)))))))), ?_⟩
    refine ⟨_, rfl, a, _, rfl, get_kS ha (stD_t _ _ _ _), _, _, rfl, rfl, ?_⟩
    refine ⟨_, rfl, _, rfl, a, _, rfl, DPut.k (k := kS "turn") ha (by show 4 < 2 ^ 24; decide), ?_⟩
    rw [stD_put_t]
    have kp : ∀ b o, H b = some o → b ≠ a → upd H a (.dK (stD g c r (t + 1))) b = some o := fun b o z n => by rw [upd_ne n]; exact z
    have ha1 : upd H a (.dK (stD g c r (t + 1))) a = some (.dK (stD g c r (t + 1))) := upd_same
    generalize upd H a (.dK (stD g c r (t + 1))) = H1 at kp ha1
    have nca : c ≠ a := ne_of hc ha (by intro z; cases z)
    have hc1 := kp _ _ hc nca
    refine ⟨by show 6 ≤ 2 ^ 24; decide, fun l hl => ?_⟩
    have el : Same H1 (upd H1 l (.lst (primes.map V.int))) := same_new hl
    have hl1 : upd H1 l (.lst (primes.map V.int)) l = some (.lst (primes.map V.int)) := upd_same
    refine ⟨l, rfl, ⟨_, .of upd_same⟩, for_list (K := K) (a := l) (xs := primes.map V.int) (fun i σ H2 => ∃ (fnd : Int) (v3 v4 v5 : Option V), σ = [some (.ref a), some (.int (t + 1)), some (.int fnd), v3, v4, v5] ∧ 0 ≤ fnd ∧ Same H1 H2 ∧ H2 l = some (.lst (primes.map V.int)))
      ⟨0, _, _, _, rfl, by decide, el, hl1⟩ (fun i σ H2 _ h => by obtain ⟨_, _, _, _, _, _, _, h⟩ := h; exact .of h) ?_ ?_⟩
    · rintro i x σ H2 hx ⟨fnd, v3, v4, v5, rfl, h0, e2, hl2⟩
      obtain ⟨pr, hpr, rfl⟩ : ∃ pr, pr ∈ primes ∧ x = .int pr := by
        have := List.mem_of_getElem? hx
        obtain ⟨pr, h1, h2⟩ := List.mem_map.mp this
        exact ⟨pr, h1, h2.symm⟩
      have hpb : 2 ≤ pr ∧ pr < 2147483648 := by
        have : ∀ x ∈ primes, 2 ≤ x ∧ x < 2147483648 := by decide
        exact this pr hpr
      have ha2 := e2 _ _ ha1
      have hc2 := e2 _ _ hc1
      have hd7 : 0 ≤ pr.fdiv 7 ∧ pr.fdiv 7 ≤ pr := by
        rw [Int.fdiv_eq_ediv_of_nonneg _ (by decide)]; omega
      refine ⟨_, rfl, _, _, rfl, rfl, .inl ⟨by decide, by decide⟩, _, rfl, _, _, rfl, rfl, ⟨by decide, by decide⟩, _, _, rfl, rfl, ?_⟩
      refine ⟨_, rfl, a, _, rfl, get_kS ha2 (stD_c _ _ _ _), c, rfl, ⟨_, .of hc2⟩, for_list (K := K) (a := c) (xs := cs.map V.int) (fun j σ H3 => ∃ (b : Int) (v5 : Option V), σ = [some (.ref a), some (.int (t + 1)), some (.int fnd), some (.int pr), some (.int b), v5] ∧ 0 ≤ b ∧ b < 1099511627776 ∧ H3 = H2)
        ⟨_, _, rfl, by omega, by omega, rfl⟩ (fun j σ H3 _ h => by obtain ⟨_, _, _, _, _, rfl⟩ := h; exact .of hc2) ?_ ?_⟩
      · rintro j y σ H3 hy ⟨b, v5, rfl, hb0, hb1, rfl⟩
        obtain ⟨cv, _, rfl⟩ : ∃ cv, cv ∈ cs ∧ y = .int cv := by
          have := List.mem_of_getElem? hy
          obtain ⟨cv, h1, h2⟩ := List.mem_map.mp this
          exact ⟨cv, h1, h2.symm⟩
        refine ⟨_, rfl, _, _, rfl, rfl, .inl ⟨by omega, by omega⟩, _, rfl, _, _, rfl, rfl, _, rfl, _, _, rfl, rfl, by omega, ?_⟩
        have hm := Int.fmod_eq_emod_of_nonneg (b * 48271 + cv) (show 0 ≤ pr by omega)
        have h1 := Int.emod_nonneg (b * 48271 + cv) (show pr ≠ 0 by omega)
        have h2 := Int.emod_lt_of_pos (b * 48271 + cv) (show 0 < pr by omega)
        exact ⟨_, _, rfl, by rw [hm]; exact h1, by rw [hm]; omega, rfl⟩
      · rintro σ H3 ⟨b, v5, rfl, hb0, hb1, rfl⟩
        refine ⟨_, rfl, _, _, rfl, rfl, .inr ⟨by decide, by decide⟩, _, rfl, _, _, rfl, rfl, ⟨by decide, by decide, by omega⟩, _, rfl, _, _, rfl, rfl, by omega, _, _, rfl, rfl, ?_⟩
        have hm := Int.fmod_eq_emod_of_nonneg (b ^ (5 : Int).toNat) (show 0 ≤ pr by omega)
        have h1 := Int.emod_nonneg (b ^ (5 : Int).toNat) (show pr ≠ 0 by omega)
        exact ⟨_, _, _, _, rfl, by rw [hm]; omega, e2, hl2⟩
    · rintro σ H2 ⟨fnd, v3, v4, v5, rfl, h0, e2, hl2⟩
      exact ⟨_, rfl, q _ _ h0 (e2 _ _ ha1) fun b o z n => e2 _ _ (kp b o z n)⟩
def spBegun (K : PySem.W.Frag) : Sp := fun vs H Q _ => ∃ (sc : Addr) (ns : List Int), vs = [.ref sc] ∧ SqL K H sc (ns.map V.int) ∧ ns.length ≤ 63 ∧ ∀ H' a g c, Same H H' → H a = none → H g = none → LS H' a g c 0 → Q (.ref a) H'
theorem SqL.same {K : PySem.W.Frag} {H H' : Hp} {a : Addr} {xs : List V} (h : SqL K H a xs) (e : Same H H') : SqL K H' a xs := e.seq h
theorem ok_q_begun (T : Tx K mg CM CA CW CG) : Pr P w K mg base CX0 1 "_law_begun" P_q_begun [] (spBegun K) := by
  refine T.d_q_begun.pr sc_q_begun (fun _ _ _ _ _ _ us hl => match us, hl with | [_], _ => rfl) (fun vs H Q E h => ?_) (fun f cdv A outer s H vs Q E hr h => ?_)
  · obtain ⟨sc, ns, rfl, _⟩ := h; rfl
  · obtain ⟨sc, ns, rfl, hs, hl, q⟩ := h
    refine ⟨_, (PSs.nox (pss_cons (ps_setLc (i := 1) (own := [("_law_cell", 2)]) rfl sc_q_begun.nd rfl rfl (sw_true rfl rfl rfl (by decide +kernel)) (pi_list (pv 0)) (blkOk_by (own := [("_law_cell", 2)]) (N := N_q_begun) (sc := defScope s_q_begun) (by decide +kernel)) (fun _ _ _ _ _ => (pg_name (i := 2) sc_q_begun.nd rfl (Or.inl rfl) (Or.inr rfl))) (fun _ _ _ _ _ => pts_one (pt_cmpR op_ge (pv 2) (pe_op op_pow pe_int pe_int) (nomark _))) (fun _ _ _ _ _ => (pe_op op_sub (pv 2) (pe_op op_pow pe_int pe_int))))
 (pss_one (ps_ret (pe_disp (pps_cons pe_str (pv 1) (pps_cons pe_str (pe_callTy call_list_of rfl T.z_list (by decide +kernel) (pa_cons (pv 0) pa_nil)) (pps_cons pe_str pe_int (pps_cons pe_str pe_int pps_nil)))) (by rfl) (by rfl) (fun z => by cases z) (by decide)))))), ?_⟩
    refine ⟨_, rfl, sc, rfl, ⟨_, hs⟩, fun D hD => lc_it (walk_list (xs := ns.map V.int)) (fun i H2 => ∃ gs : List Int, Same H H2 ∧ H2 D = some (.lst (gs.map V.int)) ∧ gs.length ≤ i ∧ ∀ x ∈ gs, 0 ≤ x) ⟨[], same_new hD, upd_same, Nat.le_refl _, fun x h => by cases h⟩ (fun i H2 hi h => by obtain ⟨_, e, _⟩ := h; exact Sw.SqL.same hs e) (fun i x H2 H' hi h hY => ?_) (fun H2 h => ?_)⟩
    · obtain ⟨gs, e2, hD2, hgl, hpos⟩ := h
      obtain ⟨rfl, hx⟩ := hY
      obtain ⟨n, _, rfl⟩ : ∃ n, n ∈ ns ∧ x = .int n := by
        have := List.mem_of_getElem? hx
        obtain ⟨n, h1, h2⟩ := List.mem_map.mp this
        exact ⟨n, h1, h2.symm⟩
      rw [List.length_map] at hi
      refine ⟨rfl, _, rfl, _, _, rfl, rfl, ⟨by decide, by decide, by decide⟩, _, _, rfl, rfl, _, rfl, ?_⟩
      refine ite2 (fun hc => ?_) (fun hc => ?_)
      · have hge := of_decide_eq_true hc
        refine ⟨_, rfl, _, _, rfl, rfl, ⟨by decide, by decide, by decide⟩, _, _, rfl, rfl, _, hD2, by rw [List.length_map]; exact slt (by omega), gs ++ [n - 10 ^ (18 : Int).toNat], same_mut e2 hD, by rw [upd_same]; simp, by rw [List.length_append, List.length_singleton]; omega, fun y hy => ?_⟩
        rcases List.mem_append.mp hy with z | z
        · exact hpos y z
        · rw [List.mem_singleton.mp z]; omega
      · exact ⟨gs, e2, hD2, by omega, hpos⟩
    · obtain ⟨gs, e2, hD2, hgl, hpos⟩ := h
      rw [List.length_map] at hgl
      refine fun p hp => ?_
      have e3 : Same H2 (upd H2 p (.dK [])) := same_new hp
      have hp3 : upd H2 p (.dK []) p = some (.dK []) := upd_same
      have hp0 : H2 p = none := hp
      generalize upd H2 p (.dK []) = H3 at e3 hp3
      refine ⟨_, rfl, _, rfl, sc, _, rfl, .inl (Sw.SqL.same (Sw.SqL.same hs e2) e3), fun cl hcl => ?_⟩
      have ncp : p ≠ cl := ne_of_none hp3 hcl
      have nDc : D ≠ cl := ne_of_none (e3 _ _ hD2) hcl
      have nDp : D ≠ p := ne_of_none hD2 hp0
      refine ⟨by rw [upd_ne ncp]; exact hp3, stD D cl 0 0, rfl, by show 4 ≤ 15; decide, ?_⟩
      rw [merge_stD]
      have e4 : Same H3 (upd H3 cl (.lst (ns.map V.int))) := same_new hcl
      have e05 : Same H (upd (upd H3 cl (.lst (ns.map V.int))) p (.dK (stD D cl 0 0))) := same_mut (fun b o z => e4 b o (e3 b o (e2 b o z))) (e2.free hp0)
      exact q _ p D cl e05 (e2.free hp0) hD ⟨gs, ns, 0, 0, upd_same, by rw [upd_ne nDp, upd_ne nDc]; exact e3 _ _ hD2, by rw [upd_ne ncp.symm, upd_same], nDc, by decide, hpos, by omega, hl, by decide, by decide⟩
end
end Sw
/-! The law's own: take, pick. -/
namespace Sw
open PySem PySem.Spec PyProof.Rows L2 LamX NdefX
theorem dp_ints {K : PySem.W.Frag} {H : Hp} : ∀ l : List Int, DpAll K H (l.map V.int) (l.map PyData.int)
  | [] => .nil
  | n :: l => .cons (.int _) (dp_ints l)
section
variable {P : Program} {w : World} {K : PySem.W.Frag} {mg : Str → Option Value} {base : Heap} {CM CA CW CG : Addr}
def spTake : Sp := fun vs H Q _ => ∃ (a g c : Addr) (k size : Nat), vs = [.ref a, vi size] ∧ LS H a g c k ∧ k ≤ 99999 ∧ 1 ≤ size ∧ size ≤ 1000000 ∧ ∀ H' n, n < size → LS H' a g c (k + 1) → Kq a g H H' → Q (vi n) H'
theorem ok_q_take (T : Tx K mg CM CA CW CG) : Pr P w K mg base CX0 2 "_law_take" P_q_take [] spTake := by
  refine T.d_q_take.pr sc_q_take (fun _ _ _ _ _ _ us hl => match us, hl with | [_, _], _ => rfl) (fun vs H Q E h => ?_) (fun f cdv A outer s H vs Q E hr h => ?_)
  · obtain ⟨a, g, c, k, size, rfl, _⟩ := h; rfl
  · obtain ⟨a, g, c, k, size, rfl, hL, hk, hs1, hs2, q⟩ := h
    have hu := hu_of hr
    refine ⟨_, (PSs.nox (Evl.pss_cut (ps_if (PW.pt (pw_and (pt_cmpR op_eq (pe_dget hu (pv 0) pe_str (fun _ _ => rfl)) pe_int (nomark _)) (pw_and1 (pt_cmpR (op_neD hr.units) (pe_dget hu (pv 0) pe_str (fun _ _ => rfl)) (pe_lst pa_nil) (nomark _)))))
 (pss_one (ps_dput hu (pv 0) pe_str (pe_bm PySem.F.plainAttrs_list PySem.F.slot_list_pop PySem.F.type_list_pop mt_popAt (pe_dget hu (pv 0) pe_str (fun _ _ => rfl)) (pa_cons pe_int pa_nil)) rfl))
 (pss_one (ps_if (pt_cmpR op_eq (pe_dget hu (pv 0) pe_str (fun _ _ => rfl)) pe_int (nomark _))
 (pss_one (ps_dput hu (pv 0) pe_str (pe_callP (ok_q_mixed T) (hr.mono (by decide)) rfl pass0 (pa_cons (pv 0) pa_nil)) rfl))
 pss_nil)))
 (pss_cons (ps_set (i := 2) sc_q_take.nd rfl (Or.inl rfl) (pe_op op_modN (pe_dget hu (pv 0) pe_str (fun _ _ => rfl)) (pv 1)))
 (pss_cons (ps_dput hu (pv 0) pe_str (pe_op op_fdivN (pe_dget hu (pv 0) pe_str (fun _ _ => rfl)) (pv 1)) rfl)
 (pss_one (ps_ret (pv 2))))))), ?_⟩
    obtain ⟨gs, cs, r, t, h1, h2, h3, ngc, hr0, hgs, hgl, hcl, ht0, htk⟩ := hL
    have nga : g ≠ a := ne_of h2 h1 (by intro z; cases z)
    have nca : c ≠ a := ne_of h3 h1 (by intro z; cases z)
    refine ⟨fun σ H1 => ∃ v2, σ = [some (.ref a), some (vi size), v2] ∧ LS H1 a g c (k + 1) ∧ Kq a g H H1, ?_, ?_⟩
    · refine ⟨_, rfl, a, _, rfl, get_kS h1 (stD_r _ _ _ _), rfl, _, rfl, ?_⟩
      refine ite2 (fun hc => ?_) (fun hc => ?_)
      · refine ⟨_, rfl, a, _, rfl, get_kS h1 (stD_g _ _ _ _), by show 0 ≤ 2 ^ 24; decide, fun nl hnl => ?_⟩
        have e1 : Same H (upd H nl (.lst [])) := same_new hnl
        have hn1 : upd H nl (.lst []) nl = some (.lst []) := upd_same
        generalize upd H nl (.lst []) = H1 at e1 hn1
        have h11 := e1 _ _ h1
        have h21 := e1 _ _ h2
        have h31 := e1 _ _ h3
        refine ne_nil (k := 1) (.of h21) (dp_ints gs) (fun d hd => by obtain ⟨n, _, rfl⟩ := List.mem_map.mp hd; exact okd_int _) (by decide) (.of hn1) ⟨_, rfl, ?_⟩
        cases gs with
        | nil =>
          refine itF rfl ?_
          refine ⟨_, rfl, a, _, rfl, get_kS h11 (stD_r _ _ _ _), rfl, _, rfl, ?_⟩
          refine itT hc ?_
          refine ⟨_, rfl, a, g, c, [], cs, r, t, rfl, h11, h31, hcl, ht0, by omega, fun H2 n hn0 ha2 kp2 => ?_⟩
          refine ⟨_, rfl, a, _, rfl, DPut.k (k := kS "rest") ha2 (by show 4 < 2 ^ 24; decide), ?_⟩
          rw [stD_put_r]
          exact ⟨_, rfl, ⟨[], cs, n, t + 1, upd_same, by rw [upd_ne nga]; exact kp2 _ _ h21 nga, by rw [upd_ne nca]; exact kp2 _ _ h31 nca, ngc, hn0, hgs, by decide, hcl, by omega, by omega⟩, fun b o z n1 n2 => by rw [upd_ne n1]; exact kp2 _ _ (e1 _ _ z) n1⟩
        | cons x gs =>
          refine itT rfl ?_
          refine ⟨_, rfl, a, _, rfl, get_kS h11 (stD_g _ _ _ _), .inl ⟨rfl, _, .of h21⟩, g, _, 0, 0, .int x, rfl, rfl, h21, by decide, by decide, ?_, rfl, ?_⟩
          · show seqIndex? 0 _ = some 0
            simp [seqIndex?]
          refine ⟨_, rfl, a, _, rfl, DPut.k (k := kS "rest") (by rw [upd_ne nga.symm]; exact h11) (by show 4 < 2 ^ 24; decide), ?_⟩
          rw [stD_put_r]
          exact ⟨_, rfl, ⟨gs, cs, x, t, upd_same, by rw [upd_ne nga, upd_same]; rfl, by rw [upd_ne nca, upd_ne ngc.symm]; exact h31, ngc, hgs x List.mem_cons_self, fun y hy => hgs y (List.mem_cons_of_mem _ hy), by simp at hgl; omega, hcl, ht0, by omega⟩, fun b o z n1 n2 => by rw [upd_ne n1, upd_ne n2]; exact e1 _ _ z⟩
      · refine ⟨_, rfl, a, _, rfl, get_kS h1 (stD_r _ _ _ _), rfl, _, rfl, ?_⟩
        refine itF (by simpa using hc) ?_
        exact ⟨_, rfl, ⟨gs, cs, r, t, h1, h2, h3, ngc, hr0, hgs, hgl, hcl, ht0, by omega⟩, .refl⟩
    · rintro σ H1 ⟨v2, rfl, hL1, k1⟩
      obtain ⟨gs, cs, r, t, h1, h2, h3, ngc, hr0, hgs, hgl, hcl, ht0, htk⟩ := hL1
      have nga : g ≠ a := ne_of h2 h1 (by intro z; cases z)
      have nca : c ≠ a := ne_of h3 h1 (by intro z; cases z)
      refine ⟨_, rfl, a, _, rfl, get_kS h1 (stD_r _ _ _ _), _, rfl, _, _, rfl, rfl, by omega, ?_⟩
      refine ⟨_, rfl, a, _, rfl, get_kS h1 (stD_r _ _ _ _), _, rfl, _, _, rfl, rfl, ⟨by omega, by omega⟩, ?_⟩
      refine ⟨_, rfl, a, _, rfl, DPut.k (k := kS "rest") h1 (by show 4 < 2 ^ 24; decide), ?_⟩
      rw [stD_put_r]
      have hm : r.fmod (size : Nat) = ((r.toNat % size : Nat) : Int) := by
        rw [Int.fmod_eq_emod_of_nonneg _ (by omega)]
        have : r = ((r.toNat : Nat) : Int) := by omega
        rw [this]; simp
      refine ⟨_, rfl, ?_⟩
      show Q (.int (r.fmod (size : Nat))) _
      rw [hm]
      refine q _ _ (Nat.mod_lt _ (by omega)) ⟨gs, cs, _, t, upd_same, by rw [upd_ne nga]; exact h2, by rw [upd_ne nca]; exact h3, ngc, ?_, hgs, hgl, hcl, ht0, htk⟩ fun b o z n1 n2 => by rw [upd_ne n1]; exact k1 _ _ z n1 n2
      rw [Int.fdiv_eq_ediv_of_nonneg _ (by omega)]
      exact Int.ediv_nonneg hr0 (by omega)
/-- what is picked from: the signs of a text, the items of a list -/
def Pk (a g : Addr) (H : Hp) (x : V) (xs : List V) : Prop := (∃ u : Wd, x = VS u ∧ xs = u.map fun c => VS [c]) ∨ ∃ l, x = .ref l ∧ H l = some (.lst xs) ∧ l ≠ a ∧ l ≠ g
def spPick : Sp := fun vs H Q _ => ∃ (a g c : Addr) (k : Nat) (x : V) (xs : List V), vs = [.ref a, x] ∧ LS H a g c k ∧ k ≤ 99999 ∧ Pk a g H x xs ∧ xs ≠ [] ∧ xs.length ≤ 1000 ∧ ∀ (H' : Hp) (i : Nat) (y : V), xs[i]? = some y → LS H' a g c (k + 1) → Kq a g H H' → Q y H'
theorem ok_q_pick (T : Tx K mg CM CA CW CG) : Pr P w K mg base CX0 3 "_law_pick" P_q_pick [] spPick := by
  refine T.d_q_pick.pr sc_q_pick (fun _ _ _ _ _ _ us hl => match us, hl with | [_, _], _ => rfl) (fun vs H Q E h => ?_) (fun f cdv A outer s H vs Q E hr h => ?_)
  · obtain ⟨a, g, c, k, x, xs, rfl, _⟩ := h; rfl
  · obtain ⟨a, g, c, k, x, xs, rfl, hL, hk, hp, hne, hlen, q⟩ := h
    refine ⟨_, (PSs.nox (pss_one (ps_ret (pe_ix ix_seq (pv 1) (pe_callP (ok_q_take T) (hr.mono (by decide)) rfl pass0 (pa_cons (pv 0) (pa_cons (pe_callB call_len rfl T.z_len boot_len (pa_cons (pv 1) pa_nil)) pa_nil))) (fun _ _ => rfl))))), ?_⟩
    have hpos : 1 ≤ xs.length := by cases xs with | nil => exact absurd rfl hne | cons => simp
    rcases hp with ⟨u, rfl, rfl⟩ | ⟨l, rfl, hl, n1, n2⟩
    · rw [List.length_map] at hlen hpos
      refine ⟨_, rfl, _, rfl, _, rfl, _, u.length, rfl, ⟨by rw [S_len]; exact sl (by omega), (S_len u).symm⟩, a, g, c, k, u.length, rfl, hL, hk, hpos, by omega, fun H1 n hn hL1 k1 => ?_⟩
      have hg : u[n]? = some (u[n]'hn) := List.getElem?_eq_getElem hn
      refine .inr (.inr ⟨_, _, _, rfl, rfl, by rw [S_len]; exact sl (by omega), atI_nat (by rw [S_cps]; exact hg), ?_⟩)
      exact q _ n _ (by rw [List.getElem?_map, hg]; rfl) hL1 k1
    · refine ⟨_, rfl, _, rfl, _, rfl, _, xs.length, rfl, .inl ⟨_, .of hl, rfl⟩, a, g, c, k, xs.length, rfl, hL, hk, hpos, by omega, fun H1 n hn hL1 k1 => ?_⟩
      have hg : xs[n]? = some (xs[n]'hn) := List.getElem?_eq_getElem hn
      exact .inl ⟨l, xs, _, _, rfl, rfl, .of (k1 _ _ hl n1 n2), atI_nat hg, q _ n _ hg hL1 k1⟩
end
end Sw
/-! The law's own: abc, token. -/
namespace Sw
open PySem PySem.Spec PyProof.Rows L2 LamX NdefX
/-! ### texts of single signs, sorted and joined -/
theorem joinL_one : ∀ v : Wd, TL.joinL [] (v.map fun c => [c]) = v
  | [] => rfl
  | [c] => rfl
  | c :: d :: v => by
    show [c] ++ ([] ++ TL.joinL [] ((d :: v).map fun c => [c])) = _
    rw [joinL_one (d :: v)]; rfl
theorem join_one (v : Wd) : Txt.join "" (v.map fun c => S [c]) = S v := by
  have e : (v.map fun c => S [c]) = (v.map fun c => [c]).map SX.S := by rw [List.map_map]; rfl
  rw [e, show ("" : Str) = SX.S [] from S_nil.symm, SX.join_S, joinL_one]; rfl
theorem sum_one (v : Wd) : (((v.map fun c => S [c]).map (·.length)).sum) = v.length := by
  induction v with
  | nil => rfl
  | cons c v ih =>
    rw [List.map_cons, List.map_cons, List.sum_cons, ih, S_len, List.length_cons]
    show 1 + v.length = v.length + 1
    omega
theorem perm_one {u : Wd} {ys : List Str} (h : ys.Perm (u.map fun c => S [c])) : ∃ v : Wd, v.Perm u ∧ ys = v.map fun c => S [c] := by
  refine ⟨ys.map fun s => s.cps.toList.headD 0, ?_, ?_⟩
  · have := h.map fun s : Str => s.cps.toList.headD 0
    rw [List.map_map] at this
    have e : (u.map ((fun s : Str => s.cps.toList.headD 0) ∘ fun c => S [c])) = u := by
      have : ∀ c ∈ u, ((fun s : Str => s.cps.toList.headD 0) ∘ fun c => S [c]) c = id c := fun c _ => rfl
      rw [List.map_congr_left this, List.map_id]
    rwa [e] at this
  · rw [List.map_map]
    have : ∀ s ∈ ys, ((fun c => S [c]) ∘ fun s : Str => s.cps.toList.headD 0) s = id s := fun s hs => by
      obtain ⟨c, _, rfl⟩ := List.mem_map.mp (h.mem_iff.mp hs)
      rfl
    rw [List.map_congr_left this, List.map_id]
theorem ltCps_one (a b : Nat) : ltCps [a] [b] = decide (a < b) := by
  unfold ltCps; simp [ltCps]
theorem rising_one : ∀ (v : Wd) (a : Nat), risingS (S [a]) (v.map fun c => S [c]) = true → (a :: v).Pairwise (· ≤ ·)
  | [], a, _ => by simp
  | b :: v, a, h => by
    have h2 : (!ltCps [b] [a] && risingS (S [b]) (v.map fun c => S [c])) = true := h
    rw [ltCps_one, Bool.and_eq_true] at h2
    have hp := rising_one v b h2.2
    have hab : a ≤ b := by have := h2.1; simp at this; exact this
    refine List.pairwise_cons.mpr ⟨fun c hc => ?_, hp⟩
    rcases List.mem_cons.mp hc with e | e
    · rw [e]; exact hab
    · exact Nat.le_trans hab ((List.pairwise_cons.mp hp).1 c e)
theorem sorted_one {v : Wd} (h : sortedS (v.map fun c => S [c]) = true) (hn : v.Nodup) : v.Pairwise (· < ·) := by
  have hp : v.Pairwise (· ≤ ·) := by
    cases v with
    | nil => simp
    | cons a v => exact rising_one v a h
  exact (hp.and hn).imp fun ⟨h1, h2⟩ => Nat.lt_of_le_of_ne h1 h2
def sm26 : Wd := List.range' 97 26
theorem sm26_S : ("abcdefghijklmnopqrstuvwxyz" : Str) = S sm26 := by decide +kernel
theorem sm26_mem {c : Nat} (h : c ∈ sm26) : 97 ≤ c ∧ c ≤ 122 := by
  have := List.mem_range'_1.mp h; omega
section
variable {P : Program} {w : World} {K : PySem.W.Frag} {mg : Str → Option Value} {base : Heap} {CM CA CW CG : Addr}
theorem Kq.new {a g p : Addr} {H H1 : Hp} {o : HO} (e : Kq a g H H1) (h : H1 p = none) : Kq a g H (upd H1 p o) := e.trans (.of (same_new h))
theorem Kq.mut {a g p : Addr} {H H1 : Hp} {o : HO} (e : Kq a g H H1) (h : H p = none) : Kq a g H (upd H1 p o) := fun b u q h1 h2 => by
  rw [upd_ne (ne_of_none q h)]; exact e b u q h1 h2
def spAbc : Sp := fun vs H Q _ => ∃ (a g c : Addr) (k : Nat), vs = [.ref a, vi 1, vi 3] ∧ LS H a g c k ∧ k ≤ 9999 ∧ ∀ H' ls, Abc ls → ls.length ≤ 3 → LS H' a g c (k + 10) → Kq a g H H' → Q (VS ls) H'
theorem ok_q_abc (T : Tx K mg CM CA CW CG) : Pr P w K mg base CX0 4 "_law_abc" P_q_abc [] spAbc := by
  refine T.d_q_abc.pr sc_q_abc (fun _ _ _ _ _ _ us hl => match us, hl with | [_, _, _], _ => rfl) (fun vs H Q E h => ?_) (fun f cdv A outer s H vs Q E hr h => ?_)
  · obtain ⟨a, g, c, k, rfl, _⟩ := h; rfl
  · obtain ⟨a, g, c, k, rfl, hL, hk, q⟩ := h
    refine ⟨_, (PSs.nox (pss_cons (ps_asg (pe_tup (pa_cons pe_str (pa_cons pe_str pa_nil))) (pg_tup rfl (pgs_cons (pg_name (i := 3) sc_q_abc.nd rfl (Or.inl rfl) (Or.inl rfl)) (pgs_cons (pg_name (i := 4) sc_q_abc.nd rfl (Or.inr rfl) (Or.inl rfl)) pgs_nil))))
 (pss_cons (ps_for PassesOwn.never rfl (pi_range1 rfl T.z_range (pa_cons (pe_op op_add (pv 1) (pe_callP (ok_q_take T) (hr.mono (by decide)) rfl pass0 (pa_cons (pv 0) (pa_cons (pe_op op_add (pe_op op_sub (pv 2) (pv 1)) pe_int) pa_nil)))) pa_nil)) (pg_name (i := 5) sc_q_abc.nd rfl (Or.inl rfl) (Or.inl rfl))
 (pss_cons (ps_setLc (i := 6) (own := [("_law_sign", 7)]) rfl sc_q_abc.nd rfl rfl (sw_true rfl rfl rfl (by decide +kernel)) (pi_str (pv 3)) (blkOk_by (own := [("_law_sign", 7)]) (N := N_q_abc) (sc := defScope s_q_abc) (by decide +kernel)) (fun _ _ _ _ _ => (pg_name (i := 7) sc_q_abc.nd rfl (Or.inl rfl) (Or.inr rfl))) (fun _ _ _ _ _ => pts_one (pt_cmpR op_notIn_sign (pv 7) (pv 4) (by rfl))) (fun _ _ _ _ _ => (pv 7)))
 (pss_one (ps_set (i := 4) sc_q_abc.nd rfl (Or.inr rfl) (pe_op op_add_str (pv 4) (pe_callP (ok_q_pick T) (hr.mono (by decide)) rfl pass0 (pa_cons (pv 0) (pa_cons (pv 6) pa_nil))))))))
 (pss_one (ps_ret (pe_bm PySem.F.plainAttrs_str PySem.F.slot_str_join PySem.F.type_str_join mt_join pe_str (pa_cons (pe_callB (call_sortedTxt rfl) rfl T.z_sorted (by decide +kernel) (pa_cons (pv 4) pa_nil)) pa_nil))))))), ?_⟩
    refine ⟨z2, fun t ht => ⟨t, _, rfl, .inl (.inl upd_same), rfl, _, _, rfl, _, _, rfl, rfl, ?_⟩⟩
    have e1 : Same H (upd H t (.tup [.str "abcdefghijklmnopqrstuvwxyz", .str ""])) := same_new ht
    generalize upd H t (.tup [.str "abcdefghijklmnopqrstuvwxyz", .str ""]) = H1 at e1
    refine ⟨_, rfl, _, rfl, _, rfl, _, rfl, _, _, rfl, rfl, _, _, rfl, rfl, a, g, c, k, 3, rfl, hL.same e1, by omega, by decide, by decide, fun H2 n hn hL2 k2 => ?_⟩
    refine ⟨_, _, rfl, rfl, _, rfl, by omega, by omega, ?_⟩
    have hN : (((1 : Nat) : Int) + ((n : Nat) : Int)).toNat = n + 1 := by omega
    show ∃ W : Nat → Nat → L2.St → Hp → Prop, _
    rw [hN]
    refine for_it (walk_range (lo := 0) (n := n + 1)) (fun i σ H3 => ∃ (u : Wd) (v5 v6 v7 : Option V), σ = [some (.ref a), some (vi 1), some (vi 3), some (VS sm26), some (VS u), v5, v6, v7] ∧ u.Nodup ∧ (∀ c ∈ u, 97 ≤ c ∧ c ≤ 122) ∧ u.length = i ∧ LS H3 a g c (k + 1 + i) ∧ Kq a g H H3)
      ⟨[], _, _, _, (by rw [show VS sm26 = V.str "abcdefghijklmnopqrstuvwxyz" from congrArg V.str sm26_S.symm, show VS [] = V.str "" from congrArg V.str S_nil]; rfl), List.nodup_nil, (fun c h => by cases h), rfl, hL2, (Kq.of e1).trans k2⟩ (fun _ _ _ _ _ => trivial) ?_ ?_
    · rintro i x σ H3' H3 hi ⟨u, v5, v6, v7, rfl, hnd, hab, hul, hL3, k3⟩ ⟨rfl, rfl⟩
      obtain ⟨d, hd, hdu⟩ : ∃ d, d ∈ sm26 ∧ d ∉ u := by
        refine Classical.byContradiction fun hno => ?_
        have := nodup_le sm26 u (by decide) fun d hd => Classical.byContradiction fun z => hno ⟨d, hd, z⟩
        have h26 : sm26.length = 26 := rfl
        omega
      refine ⟨_, rfl, _, rfl, fun F hF => ?_⟩
      obtain ⟨nF1, nF2, nF3⟩ := hL3.na hF
      refine lc_it (walk_str (z := S sm26)) (fun j H4 => ∃ l : Wd, Same H3 H4 ∧ H4 F = some (.lst (l.map fun c => VS [c])) ∧ l.length ≤ j ∧ (∀ c ∈ l, c ∈ sm26 ∧ c ∉ u) ∧ ∀ (j' c : Nat), j' < j → sm26[j']? = some c → c ∉ u → c ∈ l) ⟨[], same_new hF, upd_same, Nat.le_refl _, (fun c h => by cases h), fun j' c h => absurd h (Nat.not_lt_zero _)⟩ (fun _ _ _ _ => trivial) (fun j x H4 H4' hj h hY => ?_) (fun H4 h => ?_)
      · obtain ⟨l, e4, hF4, hll, hl1, hl2⟩ := h
        obtain ⟨rfl, cc, hcc, rfl⟩ := hY
        have hc2 := S_get.mp hcc
        have hj26 : j < 26 := hj
        refine ⟨rfl, _, rfl, _, rfl, cc, _, rfl, rfl, _, rfl, ?_⟩
        rw [S_cps]
        by_cases hcu : cc ∈ u
        · refine itF (by simp [hcu]) ⟨l, e4, hF4, by omega, hl1, fun j' c hj' hc hcu' => ?_⟩
          by_cases hjj : j' < j
          · exact hl2 j' c hjj hc hcu'
          · rw [show j' = j by omega, hc2] at hc; cases hc; exact absurd hcu hcu'
        · refine itT (by simp [hcu]) ⟨_, rfl, _, hF4, by rw [List.length_map]; exact slt (by omega), l ++ [cc], same_mut e4 hF, (by rw [upd_same]; simp; rfl), by rw [List.length_append, List.length_singleton]; omega, fun c hc => ?_, fun j' c hj' hc hcu' => ?_⟩
          · rcases List.mem_append.mp hc with z | z
            · exact hl1 c z
            · rw [List.mem_singleton.mp z]; exact ⟨List.mem_of_getElem? hc2, hcu⟩
          · by_cases hjj : j' < j
            · exact List.mem_append.mpr (.inl (hl2 j' c hjj hc hcu'))
            · rw [show j' = j by omega, hc2] at hc; cases hc; exact List.mem_append.mpr (.inr (by simp))
      · obtain ⟨l, e4, hF4, hll, hl1, hl2⟩ := h
        have hne : l ≠ [] := fun e => by
          obtain ⟨j', hj'⟩ := List.mem_iff_getElem?.mp hd
          have := hl2 j' d (List.getElem?_eq_some_iff.mp hj').1 hj' hdu
          rw [e] at this; cases this
        have h26 : (S sm26).cps.size = 26 := rfl
        refine ⟨_, rfl, _, rfl, _, rfl, a, g, c, _, .ref F, _, rfl, hL3.same e4, by omega, .inr ⟨F, rfl, hF4, nF1, nF2⟩, fun e => hne (List.map_eq_nil_iff.mp e), by rw [List.length_map]; omega, fun H5 j' y hy hL5 k5 => ?_⟩
        rw [List.getElem?_map] at hy
        cases hcc : l[j']? with
        | none => rw [hcc] at hy; cases hy
        | some cc =>
          rw [hcc] at hy; cases hy
          obtain ⟨m1, m2⟩ := hl1 cc (List.mem_of_getElem? hcc)
          refine ⟨_, _, rfl, rfl, s4 (by omega) (by simp), ?_⟩
          rw [S_app]
          refine ⟨u ++ [cc], _, _, _, rfl, ?_, fun c hc => ?_, by rw [List.length_append, List.length_singleton]; omega, hL5.mono (by omega), k3.trans ((Kq.of e4).trans k5)⟩
          · rw [List.nodup_append]
            exact ⟨hnd, by simp, fun x hx y hy e => by rw [List.mem_singleton.mp hy] at e; exact m2 (e ▸ hx)⟩
          · rcases List.mem_append.mp hc with z | z
            · exact hab c z
            · rw [List.mem_singleton.mp z]; exact sm26_mem m1
    · rintro σ H3 ⟨u, v5, v6, v7, rfl, hnd, hab, hul, hL3, k3⟩
      refine ⟨rfl, _, rfl, u, rfl, by omega, fun ys F hperm hsort hF => ?_⟩
      obtain ⟨v, hv, rfl⟩ := perm_one hperm
      have hvl : v.length = u.length := hv.length_eq
      have e : ((v.map fun c => S [c]).map V.str) = (v.map fun c => S [c]).map V.str := rfl
      refine ⟨_, F, v.map fun c => S [c], rfl, rfl, .inl (.of upd_same), ?_, ?_⟩
      · rw [sum_one, List.length_map]; show _ + _ * 0 ≤ _; omega
      · show Q (.str (Txt.join "" _)) _
        rw [join_one]
        exact q _ v ⟨by omega, by omega, fun c hc => hab c (hv.mem_iff.mp hc), sorted_one hsort (hv.nodup_iff.mpr hnd)⟩ (by omega) ((hL3.same (same_new hF)).mono (by omega)) (k3.new hF)
def spToken : Sp := fun vs H Q _ => ∃ (a g c : Addr) (k : Nat) (ls : Wd), vs = [.ref a, VS ls, vi 4] ∧ LS H a g c k ∧ k ≤ 9999 ∧ Abc ls ∧ ∀ H' u, Ov ls u → u.length ≤ 4 → LS H' a g c (k + 10) → Kq a g H H' → Q (VS u) H'
theorem ok_q_token (T : Tx K mg CM CA CW CG) : Pr P w K mg base CX0 4 "_law_token" P_q_token [] spToken := by
  refine T.d_q_token.pr sc_q_token (fun _ _ _ _ _ _ us hl => match us, hl with | [_, _, _], _ => rfl) (fun vs H Q E h => ?_) (fun f cdv A outer s H vs Q E hr h => ?_)
  · obtain ⟨a, g, c, k, ls, rfl, _⟩ := h; rfl
  · obtain ⟨a, g, c, k, ls, rfl, hL, hk, O, q⟩ := h
    refine ⟨_, (PSs.nox (pss_cons (ps_set (i := 3) sc_q_token.nd rfl (Or.inl rfl) (pe_callP (ok_q_take T) (hr.mono (by decide)) rfl pass0 (pa_cons (pv 0) (pa_cons (pe_op op_add (pv 2) pe_int) pa_nil))))
 (pss_one (ps_ret (pe_bm PySem.F.plainAttrs_str PySem.F.slot_str_join PySem.F.type_str_join mt_join pe_str (pa_cons (pe_lc (own := [("_law_turn", 4)]) rfl sc_q_token.nd (pi_range1 rfl T.z_range (pa_cons (pv 3) pa_nil)) (blkOk_by (own := [("_law_turn", 4)]) (N := N_q_token) (sc := defScope s_q_token) (by decide +kernel)) (fun _ _ _ _ _ => (pg_name (i := 4) sc_q_token.nd rfl (Or.inl rfl) (Or.inr rfl))) (fun _ _ _ _ _ => pts_nil) (fun _ _ _ _ _ => (pe_callP (ok_q_pick T) (hr.mono (by decide)) rfl pass0 (pa_cons (pv 0) (pa_cons (pv 1) pa_nil))))) pa_nil)))))), ?_⟩
    refine ⟨_, rfl, _, rfl, _, _, rfl, rfl, a, g, c, k, 5, rfl, hL, by omega, by decide, by decide, fun H1 n hn hL1 k1 => ?_⟩
    refine ⟨rfl, _, rfl, _, rfl, by omega, by omega, fun F hF => ?_⟩
    obtain ⟨nF1, nF2, nF3⟩ := hL1.na hF
    have hF0 : H F = none := by
      cases z : H F with
      | none => rfl
      | some o => rw [k1 _ _ z nF1 nF2] at hF; cases hF
    refine lc_it (walk_range (lo := 0) (n := n)) (fun i H2 => ∃ u : Wd, Ov ls u ∧ u.length = i ∧ LS H2 a g c (k + 1 + i) ∧ Kq a g H H2 ∧ H2 F = some (.lst (u.map fun c => VS [c]))) ⟨[], .nil, rfl, hL1.mut nF1 nF2 nF3, k1.mut hF0, upd_same⟩ (fun _ _ _ _ => trivial) (fun i x H2 H2' hi h hY => ?_) (fun H2 h => ?_)
    · obtain ⟨u, ou, hul, hL2, k2, hF2⟩ := h
      obtain ⟨rfl, rfl⟩ := hY
      refine ⟨rfl, _, rfl, _, rfl, a, g, c, _, VS ls, _, rfl, hL2, by omega, .inl ⟨ls, rfl, rfl⟩, ?_, ?_, fun H3 j y hy hL3 k3 => ?_⟩
      · intro e; have := O.lpos; rw [List.map_eq_nil_iff.mp e] at this; simp at this
      · rw [List.length_map]; have := O.lle; omega
      · rw [List.getElem?_map] at hy
        cases hc : ls[j]? with
        | none => rw [hc] at hy; cases hy
        | some cc =>
          rw [hc] at hy; cases hy
          have hF3 := k3 _ _ hF2 nF1 nF2
          refine ⟨_, hF3, by rw [List.length_map]; exact slt (by omega), u ++ [cc], ou.app (.one (List.mem_of_getElem? hc)), by rw [List.length_append, hul]; rfl, (hL3.mut nF1 nF2 nF3).mono (by omega), (k2.trans k3).mut hF0, by rw [upd_same]; simp⟩
    · obtain ⟨u, ou, hul, hL2, k2, hF2⟩ := h
      have e : (u.map fun c => VS [c]) = (u.map fun c => S [c]).map V.str := by rw [List.map_map]; rfl
      refine ⟨_, F, u.map fun c => S [c], rfl, rfl, .inl (.of (by rw [hF2, e])), ?_, ?_⟩
      · rw [sum_one, List.length_map]; show _ + _ * 0 ≤ _; omega
      · show Q (.str (Txt.join "" _)) H2
        rw [join_one]
        exact q _ u ou (by omega) (hL2.mono (by omega)) k2
end
end Sw
/-! The law's own: table. -/
namespace Sw
open PySem PySem.Spec PyProof.Rows L2 LamX NdefX
theorem tup_kq {a g c p : Addr} {H H' : Hp} {k : Nat} {xs : List V} (hL : LS H a g c k) (e : Kq a g H H') (h : H p = some (.tup xs)) : H' p = some (.tup xs) := by
  obtain ⟨gs, cs, r, t, h1, h2, _⟩ := hL
  exact e _ _ h (ne_of h h1 (by intro z; cases z)) (ne_of h h2 (by intro z; cases z))
theorem RowsIn.kq {a g c : Addr} {H H' : Hp} {k : Nat} {as : List Addr} {rows : List (Bool × List Nat)} (h : RowsIn H as rows) (hL : LS H a g c k) (e : Kq a g H H') : RowsIn H' as rows :=
  ⟨h.1, fun i b r h1 h2 => by
    obtain ⟨t, q1, q2⟩ := h.2 i b r h1 h2
    exact ⟨t, tup_kq hL e q1, tup_kq hL e q2⟩⟩
/-- rows of a table of so many stands, so wide -/
def GoodR (many w : Nat) (rows : List (Bool × List Nat)) : Prop := ∀ r ∈ rows, r.2.length = w ∧ ∀ t ∈ r.2, t < many
theorem GoodR.add {many w : Nat} {rows : List (Bool × List Nat)} (h : GoodR many w rows) {r : Bool × List Nat} (h1 : r.2.length = w) (h2 : ∀ t ∈ r.2, t < many) : GoodR many w (rows ++ [r]) := fun x hx => by
  rcases List.mem_append.mp hx with z | z
  · exact h x z
  · rw [List.mem_singleton.mp z]; exact ⟨h1, h2⟩
theorem RowsIn.add {H : Hp} {as : List Addr} {rows : List (Bool × List Nat)} {a : Addr} {r : Bool × List Nat} (h : RowsIn H as rows) (ha : RowAt H a r) : RowsIn H (as ++ [a]) (rows ++ [r]) := by
  refine ⟨by simp [h.1], fun i b q h1 h2 => ?_⟩
  rw [List.getElem?_append] at h1 h2
  by_cases hi : i < rows.length
  · rw [if_pos (by rw [h.1]; exact hi)] at h1
    rw [if_pos hi] at h2
    exact h.2 i b q h1 h2
  · rw [if_neg (by rw [h.1]; exact hi), h.1] at h1
    rw [if_neg hi] at h2
    have hi0 : i - rows.length = 0 := by
      have := (List.getElem?_eq_some_iff.mp h1).1
      simp at this; omega
    rw [hi0] at h1 h2
    cases h1; cases h2; exact ha
section
variable {P : Program} {w : World} {K : PySem.W.Frag} {mg : Str → Option Value} {base : Heap} {CM CA CW CG : Addr}
def TableQ (H : Hp) (a g c : Addr) (k : Nat) (ls : Wd) (Q : VK) : Prop := ∀ H' p rows, RowsAt H' p rows → 1 ≤ rows.length → rows.length ≤ 6 → GoodR rows.length ls.length rows → LS H' a g c (k + 300) → Kq a g H H' → Q (.ref p) H'
def spTable : Sp := fun vs H Q _ => ∃ (a g c : Addr) (k : Nat) (ls : Wd), vs = [.ref a, VS ls, vi 6] ∧ LS H a g c k ∧ k ≤ 9999 ∧ Abc ls ∧ TableQ H a g c k ls Q
theorem pick3 {many x y z : Nat} (hx : x < many) (hy : y < many) (hz : z < many) {i : Nat} {v : V} (h : ([vi x, vi y, vi z] : List V)[i]? = some v) : ∃ n, n < many ∧ v = vi n := by
  match i, h with
  | 0, h => cases h; exact ⟨x, hx, rfl⟩
  | 1, h => cases h; exact ⟨y, hy, rfl⟩
  | 2, h => cases h; exact ⟨z, hz, rfl⟩
theorem ok_q_table (T : Tx K mg CM CA CW CG) : Pr P w K mg base CX0 4 "_law_table" P_q_table [] spTable := by
  refine T.d_q_table.pr sc_q_table (fun _ _ _ _ _ _ us hl => match us, hl with | [_, _, _], _ => rfl) (fun vs H Q E h => ?_) (fun f cdv A outer s H vs Q E hr h => ?_)
  · obtain ⟨a, g, c, k, ls, rfl, _⟩ := h; rfl
  · obtain ⟨a, g, c, k, ls, rfl, hL, hk, O, q⟩ := h
    have hlp := O.lpos
    have hll := O.lle
    refine ⟨_, (PSs.nox (pss_cons (ps_asg (pe_tup (pa_cons (pe_op op_add pe_int (pe_callP (ok_q_take T) (hr.mono (by decide)) rfl pass0 (pa_cons (pv 0) (pa_cons (pv 2) pa_nil)))) (pa_cons (pe_op op_add pe_int (pe_callP (ok_q_take T) (hr.mono (by decide)) rfl pass0 (pa_cons (pv 0) (pa_cons pe_int pa_nil)))) pa_nil))) (pg_tup rfl (pgs_cons (pg_name (i := 3) sc_q_table.nd rfl (Or.inr rfl) (Or.inl rfl)) (pgs_cons (pg_name (i := 4) sc_q_table.nd rfl (Or.inl rfl) (Or.inl rfl)) pgs_nil))))
 (pss_cons (ps_set (i := 5) sc_q_table.nd rfl (Or.inl rfl) (pe_lst pa_nil))
 (pss_cons (ps_for PassesOwn.never rfl (pi_range1 rfl T.z_range (pa_cons (pv 3) pa_nil)) (pg_name (i := 6) sc_q_table.nd rfl (Or.inr rfl) (Or.inl rfl))
 (pss_cons (ps_setLc (i := 7) (own := [("_law_sign", 8)]) rfl sc_q_table.nd rfl rfl (sw_true rfl rfl rfl (by decide +kernel)) (pi_str (pv 1)) (blkOk_by (own := [("_law_sign", 8)]) (N := N_q_table) (sc := defScope s_q_table) (by decide +kernel)) (fun _ _ _ _ _ => (pg_name (i := 8) sc_q_table.nd rfl (Or.inl rfl) (Or.inr rfl))) (fun _ _ _ _ _ => pts_nil) (fun _ _ _ _ _ => (pe_callP (ok_q_pick T) (hr.mono (by decide)) rfl pass0 (pa_cons (pv 0) (pa_cons (pe_lst (pa_cons (pe_callP (ok_q_take T) (hr.mono (by decide)) rfl pass0 (pa_cons (pv 0) (pa_cons (pv 3) pa_nil))) (pa_cons (pe_callB (call_min2 rfl) rfl T.z_min (by decide +kernel) (pa_cons (pe_op op_add (pv 6) pe_int) (pa_cons (pe_op op_sub (pv 3) pe_int) pa_nil))) (pa_cons (pv 6) pa_nil)))) pa_nil)))))
 (pss_one (ps_expr (pe_bm PySem.F.plainAttrs_list PySem.F.slot_list_append PySem.F.type_list_append mt_append (pv 5) (pa_cons (pe_tup (pa_cons (pe_cmpR op_eq (pe_callP (ok_q_take T) (hr.mono (by decide)) rfl pass0 (pa_cons (pv 0) (pa_cons (pe_op op_add (pv 4) pe_int) pa_nil))) pe_int (nomark _)) (pa_cons (pe_callTy call_tuple_of rfl T.z_tuple (by decide +kernel) (pa_cons (pv 7) pa_nil)) pa_nil))) pa_nil))))))
 (pss_one (ps_ret (pv 5))))))), ?_⟩
    refine ⟨_, rfl, _, rfl, a, g, c, k, 6, rfl, hL, by omega, by decide, by decide, fun H1 n hn hL1 k1 => ⟨_, _, rfl, rfl, ?_⟩⟩
    refine ⟨_, rfl, a, g, c, _, 4, rfl, hL1, by omega, by decide, by decide, fun H1b n2 hn2 hL1b k1b => ⟨_, _, rfl, rfl, z2, fun t ht => ⟨t, _, rfl, .inl (.inl upd_same), rfl, _, _, rfl, _, _, rfl, rfl, ?_⟩⟩⟩
    have e1b := same_new (o := .tup [V.int (((1 : Nat) : Int) + (n : Nat)), V.int (((1 : Nat) : Int) + (n2 : Nat))]) ht
    have hL2 := hL1b.same e1b
    have k2 := k1b.trans (.of e1b)
    generalize upd H1b t (.tup [V.int (((1 : Nat) : Int) + (n : Nat)), V.int (((1 : Nat) : Int) + (n2 : Nat))]) = H2 at e1b hL2 k2
    refine ⟨by show 0 ≤ 2 ^ 24; decide, fun Tb hTb => ?_⟩
    obtain ⟨nT1, nT2, nT3⟩ := hL2.na hTb
    have k12 := k1.trans k2
    have hTb0 : H Tb = none := by
      cases z : H Tb with
      | none => rfl
      | some o => rw [k12 _ _ z nT1 nT2] at hTb; cases hTb
    have hL3 : LS (upd H2 Tb (.lst [])) a g c (k + 2) := hL2.mut nT1 nT2 nT3
    have hT3 : upd H2 Tb (.lst []) Tb = some (.lst []) := upd_same
    have k3 : Kq a g H (upd H2 Tb (.lst [])) := k12.mut hTb0
    generalize upd H2 Tb (.lst []) = H3 at hL3 hT3 k3
    have hTb0' : H Tb = none := hTb0
    have hN : (((1 : Nat) : Int) + ((n : Nat) : Int)).toNat = n + 1 := by omega
    refine ⟨_, rfl, _, rfl, by omega, by omega, ?_⟩
    refine for_it (walk_range (lo := 0) (n := (((1 : Nat) : Int) + ((n : Nat) : Int)).toNat)) (fun i σ H4 => ∃ (as : List Addr) (rows : List (Bool × List Nat)) (v6 v7 v8 : Option V), σ = [some (.ref a), some (VS ls), some (vi 6), some (vi (1 + n)), some (vi (1 + n2)), some (.ref Tb), v6, v7, v8] ∧
        H4 Tb = some (.lst (as.map .ref)) ∧ RowsIn H4 as rows ∧ rows.length = i ∧ GoodR (n + 1) ls.length rows ∧ LS H4 a g c (k + 2 + 20 * i) ∧ Kq a g H H4)
      ⟨[], [], _, _, _, rfl, hT3, ⟨rfl, fun i b r h => by cases h⟩, rfl, (fun r h => by cases h), hL3, k3⟩ (fun _ _ _ _ _ => trivial) ?_ ?_
    · rintro i x σ H4' H4 hi ⟨as, rows, v6, v7, v8, rfl, hT4, hrs, hrl, hgr, hL4, k4⟩ ⟨rfl, rfl⟩
      rw [hN] at hi
      refine ⟨_, rfl, S ls, rfl, fun F hF => ?_⟩
      obtain ⟨nF1, nF2, nF3⟩ := hL4.na hF
      have nFT : F ≠ Tb := fun e => by rw [e, hT4] at hF; cases hF
      refine lc_it (walk_str (z := S ls)) (fun j H5 => ∃ l : List Nat, l.length = j ∧ (∀ x ∈ l, x < n + 1) ∧ LS H5 a g c (k + 2 + 20 * i + 2 * j) ∧ Kq a g H4 H5 ∧ H5 F = some (.lst (nis l))) ⟨[], rfl, (fun x h => by cases h), hL4.mut nF1 nF2 nF3, Kq.refl.new hF, upd_same⟩ (fun _ _ _ _ => trivial) (fun j x H5 H5' hj h hY => ?_) (fun H5 h => ?_)
      · obtain ⟨l, hl1, hl2, hL5, k5, hF5⟩ := h
        obtain ⟨rfl, cc, hcc, rfl⟩ := hY
        have hjl : j < ls.length := by rw [← S_len]; exact hj
        refine ⟨rfl, _, rfl, _, rfl, _, rfl, a, g, c, _, n + 1, ?_, hL5, by omega, by omega, by omega, fun H6 m hm hL6 k6 => ?_⟩
        · show [V.ref a, V.int _] = _
          rw [Nat.add_comm]
        obtain ⟨y, hy, ey⟩ : ∃ y : Nat, y < n + 1 ∧ (if (((1 + n : Nat) : Int) - 1) < ((0 + (i : Nat) : Int) + 1) then (((1 + n : Nat) : Int) - 1) else ((0 + (i : Nat) : Int) + 1)) = (y : Int) := by
          refine ⟨(if (((1 + n : Nat) : Int) - 1) < ((0 + (i : Nat) : Int) + 1) then (((1 + n : Nat) : Int) - 1) else ((0 + (i : Nat) : Int) + 1)).toNat, ?_, ?_⟩ <;> split <;> omega
        refine ⟨_, rfl, _, _, rfl, rfl, _, rfl, _, _, rfl, rfl, _, _, rfl, _, rfl, z3, fun pl hpl => ?_⟩
        have hX : [vi m, V.int (if (((1 + n : Nat) : Int) - 1) < ((0 + (i : Nat) : Int) + 1) then (((1 + n : Nat) : Int) - 1) else ((0 + (i : Nat) : Int) + 1)), V.int (0 + (i : Nat))] = [vi m, vi y, vi i] := by rw [ey, Int.zero_add]
        obtain ⟨nP1, nP2, nP3⟩ := hL6.na hpl
        have e7 := same_new (o := .lst [vi m, V.int (if (((1 + n : Nat) : Int) - 1) < ((0 + (i : Nat) : Int) + 1) then (((1 + n : Nat) : Int) - 1) else ((0 + (i : Nat) : Int) + 1)), V.int (0 + (i : Nat))]) hpl
        have hp7 : upd H6 pl (.lst [vi m, V.int (if (((1 + n : Nat) : Int) - 1) < ((0 + (i : Nat) : Int) + 1) then (((1 + n : Nat) : Int) - 1) else ((0 + (i : Nat) : Int) + 1)), V.int (0 + (i : Nat))]) pl = some (.lst [vi m, vi y, vi i]) := by rw [upd_same, hX]
        generalize upd H6 pl (.lst [vi m, V.int (if (((1 + n : Nat) : Int) - 1) < ((0 + (i : Nat) : Int) + 1) then (((1 + n : Nat) : Int) - 1) else ((0 + (i : Nat) : Int) + 1)), V.int (0 + (i : Nat))]) = H7 at e7 hp7
        refine ⟨a, g, c, _, .ref pl, [vi m, vi y, vi i], rfl, hL6.same e7, by omega, .inr ⟨pl, rfl, hp7, nP1, nP2⟩, by simp, by show 3 ≤ 1000; decide, fun H8 i' v hv hL8 k8 => ?_⟩
        obtain ⟨z, hz, rfl⟩ := pick3 hm hy (show i < n + 1 by omega) hv
        have k68 : Kq a g H4 H8 := k5.trans (k6.trans ((Kq.of e7).trans k8))
        have hF8 : H8 F = some (.lst (nis l)) := k8 _ _ (e7 _ _ (k6 _ _ hF5 nF1 nF2)) nF1 nF2
        refine ⟨_, hF8, by rw [nis_len]; exact slt (by omega), l ++ [z], by rw [List.length_append, hl1]; rfl, fun x hx => ?_, (hL8.mut nF1 nF2 nF3).mono (by omega), k68.mut hF, by rw [upd_same]; simp [nis]⟩
        rcases List.mem_append.mp hx with z' | z'
        · exact hl2 x z'
        · rw [List.mem_singleton.mp z']; exact hz
      · obtain ⟨l, hl1, hl2, hL5, k5, hF5⟩ := h
        have hsz : (S ls).cps.size = ls.length := S_len ls
        rw [hsz] at hl1 hL5
        have hT5 := k5 _ _ hT4 nT1 nT2
        refine ⟨_, rfl, .inl ⟨rfl, _, .of hT5⟩, _, rfl, _, rfl, _, _, rfl, rfl, a, g, c, _, 1 + n2 + 1, rfl, hL5, by omega, by omega, by omega, fun H6 m hm hL6 k6 => ⟨rfl, ?_⟩⟩
        have hF6 := k6 _ _ hF5 nF1 nF2
        have hT6 := k6 _ _ hT5 nT1 nT2
        refine ⟨_, rfl, F, _, rfl, .inl ⟨.of hF6, fun tl htl => ⟨z2, fun tr htr => ?_⟩⟩⟩
        have k46 := k5.trans k6
        have hrs6 := (hrs.kq hL4 k46)
        have e7 : Same H6 (upd H6 tl (.tup (nis l))) := same_new htl
        have htl7 : upd H6 tl (.tup (nis l)) tl = some (.tup (nis l)) := upd_same
        generalize upd H6 tl (.tup (nis l)) = H7 at e7 htl7 htr
        have e8 := same_new (o := .tup [.bl (decide (V.int (m : Nat) = .int 0)), .ref tl]) htr
        have htr8 : upd H7 tr (.tup [.bl (decide (V.int (m : Nat) = .int 0)), .ref tl]) tr = some (.tup [.bl (decide (V.int (m : Nat) = .int 0)), .ref tl]) := upd_same
        have hT8 := e8 _ _ (e7 _ _ hT6)
        have hat : RowAt (upd H7 tr (.tup [.bl (decide (V.int (m : Nat) = .int 0)), .ref tl])) tr (decide (V.int (m : Nat) = .int 0), l) := ⟨tl, htr8, e8 _ _ htl7⟩
        have hL8 := (hL6.same e7).same e8
        have k48 := (k46.trans (.of e7)).trans (.of e8)
        have hrs8 := (hrs6.sol (.of e7)).sol (.of e8)
        generalize upd H7 tr (.tup [.bl (decide (V.int (m : Nat) = .int 0)), .ref tl]) = H8 at e8 htr8 hT8 hat hL8 k48 hrs8
        refine ⟨Tb, _, _, rfl, rfl, hT8, by rw [List.length_map, hrs.1]; exact slt (by omega), ?_⟩
        have nt := lstNT hT8
        exact ⟨as ++ [tr], rows ++ [_], _, _, _, rfl, by rw [upd_same]; simp, (hrs8.mut nt).add (hat.mut nt), by rw [List.length_append, hrl]; rfl, hgr.add hl1 hl2, (hL8.mut nT1 nT2 nT3).mono (by omega), (k4.trans k48).mut hTb0⟩
    · rintro σ H4 ⟨as, rows, v6, v7, v8, rfl, hT4, hrs, hrl, hgr, hL4, k4⟩
      rw [hN] at hrl
      exact ⟨_, rfl, q _ _ rows ⟨as, hT4, hrs⟩ (by omega) (by omega) (by rw [hrl]; exact hgr) (hL4.mono (by omega)) k4⟩
end
end Sw
/-! The law's own: drawn_table. -/
namespace Sw
open PySem PySem.Spec PyProof.Rows L2 LamX NdefX
theorem pe_bmK {X : Cx} {o e : Expr} {es : List Expr} {to : TE} {t : TA} {name : Str} {apos cpos : Pos} {T id : String} {r : V → List V → Hp → VK → Prop} (K : PySem.W.Frag) (hK : X.K = K) (pa : PlainAttrs T) (slot : Slot T name id) (hty : typeOf (.builtin id) = pure (.type "method_descriptor")) (hm : MtR X id r) (ho : PE X o to) (ha : PA X (e :: es) t)
    (hbase : attributeBase o name X.env (eval o X.env) = eval o X.env := by rfl)
    (hfew : ((backTo cpos (starEach (e :: es) X.env)).all (fun x => !x.1) && (backToKw cpos (keywordEach [] X.env)).all (fun x => x.1.isSome)
      && decide ((e :: es).length + ([] : List Keyword).length + (if ([] : List Keyword).isEmpty then 0 else 1) < 30)) = true := by rfl)
    (hline : (apos.endLine == cpos.line) = true := by rfl) (hs : starEach (e :: es) X.env = (false, eval e X.env) :: starEach es X.env := by rfl) (hplain : (backTo cpos (starEach es X.env)).any (·.1) = false := by rfl) :
    PE X (.Call (.Attribute o name apos) (e :: es) [] cpos) (tBM K T r to t) := hK ▸ pe_bm pa slot hty hm ho ha hbase hfew hline hs hplain
/-- columns told so far: lists at cas, in the list at C -/
structure DI (H0 : Hp) (a g c C : Addr) (k many : Nat) (H : Hp) (i : Nat) : Prop where
  ex : ∃ (cas : List Addr) (cols : List (List Nat)), H C = some (.lst (cas.map .ref)) ∧ cas.length = i ∧ cols.length = i ∧ (∀ (j : Nat) (b : Addr) (col : List Nat), cas[j]? = some b → cols[j]? = some col → H b = some (.lst (nis col)) ∧ b ≠ a ∧ b ≠ g ∧ b ≠ C) ∧ ∀ col ∈ cols, col.length = many ∧ ∀ x ∈ col, x < many
  ls : LS H a g c (k + 20 * i)
  kq : Kq a g H0 H
  c0 : H0 C = none
  n1 : C ≠ a
  n2 : C ≠ g
  n3 : C ≠ c
theorem DI.add {H0 H H4 : Hp} {a g c C q : Addr} {k many i : Nat} {col : List Nat} (d : DI H0 a g c C k many H i) (e : Kq a g H H4) (hL : LS H4 a g c (k + 20 * (i + 1))) (hq : H q = none) (hq4 : H4 q = some (.lst (nis col))) (hl : col.length = many) (hlt : ∀ x ∈ col, x < many) :
    ∃ xs, H4 C = some (.lst xs) ∧ xs.length = i ∧ DI H0 a g c C k many (upd H4 C (.lst (xs ++ [.ref q]))) (i + 1) := by
  obtain ⟨cas, cols, h1, h2, h3, h4, h5⟩ := d.ex
  obtain ⟨q1, q2, q3⟩ := d.ls.na hq
  have qC : q ≠ C := fun z => by rw [z, h1] at hq; cases hq
  refine ⟨cas.map .ref, e _ _ h1 d.n1 d.n2, by rw [List.length_map, h2], ⟨cas ++ [q], cols ++ [col], by rw [upd_same]; simp, by simp [h2], by simp [h3], fun j b cl hb hc => ?_, fun x hx => ?_⟩, hL.mut d.n1 d.n2 d.n3, (d.kq.trans e).mut d.c0, d.c0, d.n1, d.n2, d.n3⟩
  · rw [List.getElem?_append] at hb hc
    by_cases hj : j < i
    · rw [if_pos (by rw [h2]; exact hj)] at hb
      rw [if_pos (by rw [h3]; exact hj)] at hc
      obtain ⟨p1, p2, p3, p4⟩ := h4 j b cl hb hc
      exact ⟨by rw [upd_ne p4]; exact e _ _ p1 p2 p3, p2, p3, p4⟩
    · rw [if_neg (by rw [h2]; exact hj), h2] at hb
      rw [if_neg (by rw [h3]; exact hj), h3] at hc
      have hj0 : j - i = 0 := by
        have := (List.getElem?_eq_some_iff.mp hb).1
        simp at this; omega
      rw [hj0] at hb hc
      cases hb; cases hc
      exact ⟨by rw [upd_ne qC]; exact hq4, q1, q2, qC⟩
  · rcases List.mem_append.mp hx with z | z
    · exact h5 x z
    · rw [List.mem_singleton.mp z]; exact ⟨hl, hlt⟩
theorem seqIndex_nat {n m : Nat} (h : m < n) : seqIndex? (m : Nat) n = some m := by
  unfold seqIndex?
  simp
  omega
theorem nis_erase : ∀ (l : List Nat) (m : Nat), (nis l).eraseIdx m = nis (l.eraseIdx m)
  | [], _ => rfl
  | _ :: _, 0 => rfl
  | x :: l, m + 1 => by
    show vi x :: (nis l).eraseIdx m = vi x :: nis (l.eraseIdx m)
    rw [nis_erase l m]
theorem free_kq {a g p : Addr} {H H1 : Hp} (e : Kq a g H H1) (n1 : p ≠ a) (n2 : p ≠ g) (h : H1 p = none) : H p = none := by
  cases z : H p with
  | none => rfl
  | some o => rw [e _ _ z n1 n2] at h; cases h
section
variable {P : Program} {w : World} {K : PySem.W.Frag} {mg : Str → Option Value} {base : Heap} {CM CA CW CG : Addr}
def spDrawn : Sp := fun vs H Q _ => ∃ (a g c : Addr) (k : Nat) (ls : Wd), vs = [.ref a, VS ls] ∧ LS H a g c k ∧ k ≤ 1000 ∧ Abc ls ∧ TableQ H a g c (k + 10) ls Q
theorem ok_q_drawn_table (T : Tx K mg CM CA CW CG) : Pr P w K mg base CX0 5 "_law_drawn_table" P_q_drawn_table [] spDrawn := by
  refine T.d_q_drawn_table.pr sc_q_drawn_table (fun _ _ _ _ _ _ us hl => match us, hl with | [_, _], _ => rfl) (fun vs H Q E h => ?_) (fun f cdv A outer s H vs Q E hr h => ?_)
  · obtain ⟨a, g, c, k, ls, rfl, _⟩ := h; rfl
  · obtain ⟨a, g, c, k, ls, rfl, hL, hk, O, q⟩ := h
    have hlp := O.lpos
    have hll := O.lle
    refine ⟨_, (PSs.nox (pss_cons (ps_asg (pe_tup (pa_cons (pe_callP (ok_q_take T) (hr.mono (by decide)) rfl pass0 (pa_cons (pv 0) (pa_cons pe_int pa_nil))) (pa_cons (pe_op op_add pe_int (pe_callP (ok_q_take T) (hr.mono (by decide)) rfl pass0 (pa_cons (pv 0) (pa_cons pe_int pa_nil)))) (pa_cons (pe_lst pa_nil) pa_nil)))) (pg_tup rfl (pgs_cons (pg_name (i := 2) sc_q_drawn_table.nd rfl (Or.inl rfl) (Or.inl rfl)) (pgs_cons (pg_name (i := 3) sc_q_drawn_table.nd rfl (Or.inr rfl) (Or.inl rfl)) (pgs_cons (pg_name (i := 4) sc_q_drawn_table.nd rfl (Or.inr rfl) (Or.inl rfl)) pgs_nil)))))
 (pss_cons (ps_if (pt_cmpR op_lt (pv 2) pe_int (nomark _))
 (pss_one (ps_ret (pe_callP (ok_q_table T) (hr.mono (by decide)) rfl pass0 (pa_cons (pv 0) (pa_cons (pv 1) (pa_cons pe_int pa_nil))))))
 pss_nil)
 (pss_cons (ps_set (i := 5) sc_q_drawn_table.nd rfl (Or.inr rfl) (pe_callP (ok_q_take T) (hr.mono (by decide)) rfl pass0 (pa_cons (pv 0) (pa_cons (pv 3) pa_nil))))
 (pss_cons (ps_for PassesOwn.never rfl (pi_str (pv 1)) (pg_name (i := 6) sc_q_drawn_table.nd rfl (Or.inl rfl) (Or.inl rfl))
 (pss_cons (ps_asg (pe_tup (pa_cons (pe_listRg rfl rfl T.z_list (prg_1 rfl T.z_range (pv 3))) (pa_cons (pe_callP (ok_q_take T) (hr.mono (by decide)) rfl pass0 (pa_cons (pv 0) (pa_cons (pv 3) pa_nil))) (pa_cons (pe_callP (ok_q_take T) (hr.mono (by decide)) rfl pass0 (pa_cons (pv 0) (pa_cons pe_int pa_nil))) pa_nil)))) (pg_tup rfl (pgs_cons (pg_name (i := 7) sc_q_drawn_table.nd rfl (Or.inr rfl) (Or.inl rfl)) (pgs_cons (pg_name (i := 8) sc_q_drawn_table.nd rfl (Or.inr rfl) (Or.inl rfl)) (pgs_cons (pg_name (i := 9) sc_q_drawn_table.nd rfl (Or.inl rfl) (Or.inl rfl)) pgs_nil)))))
 (pss_one (ps_if (pt_cmpR op_eq (pv 2) pe_int (nomark _))
 (pss_one (ps_expr (pe_bm PySem.F.plainAttrs_list PySem.F.slot_list_append PySem.F.type_list_append mt_append (pv 4) (pa_cons (pe_lc (own := [("_law_k", 11)]) rfl sc_q_drawn_table.nd (pi_range1 rfl T.z_range (pa_cons (pv 3) pa_nil)) (blkOk_by (own := [("_law_k", 11)]) (N := N_q_drawn_table) (sc := defScope s_q_drawn_table) (by decide +kernel)) (fun _ _ _ _ _ => (pg_name (i := 11) sc_q_drawn_table.nd rfl (Or.inl rfl) (Or.inr rfl))) (fun _ _ _ _ _ => pts_nil) (fun _ _ _ _ _ => (pe_bmK K rfl PySem.F.plainAttrs_list PySem.F.slot_list_pop PySem.F.type_list_pop mt_popAt (pv 7) (pa_cons (pe_callP (ok_q_take T) (hr.mono (by decide)) rfl pass0 (pa_cons (pv 0) (pa_cons (pe_callB (len_K K rfl) rfl T.z_len boot_len (pa_cons (pv 7) pa_nil)) pa_nil))) pa_nil)))) pa_nil))))
 (pss_one (ps_if (pt_cmpR op_eq (pv 2) pe_int (nomark _))
 (pss_one (ps_expr (pe_bm PySem.F.plainAttrs_list PySem.F.slot_list_append PySem.F.type_list_append mt_append (pv 4) (pa_cons (pe_lc (own := [("_law_k", 11)]) rfl sc_q_drawn_table.nd (pi_range1 rfl T.z_range (pa_cons (pv 3) pa_nil)) (blkOk_by (own := [("_law_k", 11)]) (N := N_q_drawn_table) (sc := defScope s_q_drawn_table) (by decide +kernel)) (fun _ _ _ _ _ => (pg_name (i := 11) sc_q_drawn_table.nd rfl (Or.inl rfl) (Or.inr rfl))) (fun _ _ _ _ _ => pts_nil) (fun _ _ _ _ _ => (pe_callB (call_min2 rfl) rfl T.z_min (by decide +kernel) (pa_cons (pe_op op_sub (pv 3) pe_int) (pa_cons (pe_op op_add (pv 11) (pe_callP (ok_q_take T) (hr.mono (by decide)) rfl pass0 (pa_cons (pv 0) (pa_cons pe_int pa_nil)))) pa_nil))))) pa_nil))))
 (pss_one (ps_if (pt_cmpR op_eq (pv 2) pe_int (nomark _))
 (pss_one (ps_expr (pe_bm PySem.F.plainAttrs_list PySem.F.slot_list_append PySem.F.type_list_append mt_append (pv 4) (pa_cons (pe_lc (own := [("_law_k", 11)]) rfl sc_q_drawn_table.nd (pi_range1 rfl T.z_range (pa_cons (pv 3) pa_nil)) (blkOk_by (own := [("_law_k", 11)]) (N := N_q_drawn_table) (sc := defScope s_q_drawn_table) (by decide +kernel)) (fun _ _ _ _ _ => (pg_name (i := 11) sc_q_drawn_table.nd rfl (Or.inl rfl) (Or.inr rfl))) (fun _ _ _ _ _ => pts_nil) (fun _ _ _ _ _ => (pe_callP (ok_q_pick T) (hr.mono (by decide)) rfl pass0 (pa_cons (pv 0) (pa_cons (pe_lst (pa_cons (pv 8) (pa_cons (pv 8) (pa_cons (pv 11) pa_nil)))) pa_nil))))) pa_nil))))
 (pss_cons (ps_for PassesOwn.never rfl (pi_range1 rfl T.z_range (pa_cons (pv 9) pa_nil)) (pg_name (i := 10) sc_q_drawn_table.nd rfl (Or.inl rfl) (Or.inl rfl))
 (pss_one (ps_set (i := 7) sc_q_drawn_table.nd rfl (Or.inr rfl) (pe_lc (own := [("_law_stood", 12)]) rfl sc_q_drawn_table.nd (pi_list (pv 7)) (blkOk_by (own := [("_law_stood", 12)]) (N := N_q_drawn_table) (sc := defScope s_q_drawn_table) (by decide +kernel)) (fun _ _ _ _ _ => (pg_name (i := 12) sc_q_drawn_table.nd rfl (Or.inl rfl) (Or.inr rfl))) (fun _ _ _ _ _ => pts_nil) (fun _ _ _ _ _ => (pe_ifExp (pt_cmpR op_eq (pv 12) (pe_op op_sub (pv 3) pe_int) (nomark _)) (pv 5) (pe_op op_add (pv 12) pe_int)))))))
 (pss_one (ps_expr (pe_bm PySem.F.plainAttrs_list PySem.F.slot_list_append PySem.F.type_list_append mt_append (pv 4) (pa_cons (pv 7) pa_nil)))))))))))))
 (pss_one (ps_ret (pe_lc (own := [("_law_k", 11)]) rfl sc_q_drawn_table.nd (pi_range1 rfl T.z_range (pa_cons (pv 3) pa_nil)) (blkOk_by (own := [("_law_k", 11)]) (N := N_q_drawn_table) (sc := defScope s_q_drawn_table) (by decide +kernel)) (fun _ _ _ _ _ => (pg_name (i := 11) sc_q_drawn_table.nd rfl (Or.inr rfl) (Or.inl rfl))) (fun _ _ _ _ _ => pts_nil) (fun _ _ _ _ _ => (pe_tup (pa_cons (pe_cmpR op_eq (pe_callP (ok_q_take T) (hr.mono (by decide)) rfl pass0 (pa_cons (pv 0) (pa_cons pe_int pa_nil))) pe_int (nomark _)) (pa_cons (pe_callTy (tupOf_K K rfl) rfl T.z_tuple (by decide +kernel) (pa_cons (pe_lc (own := [("_law_column", 13)]) rfl sc_q_drawn_table.nd (pi_listK K rfl (pv 4)) (blkOk_by (own := [("_law_column", 13)]) (N := N_q_drawn_table) (by kernel_rfl)) (fun _ _ _ _ _ => (pg_name (i := 13) sc_q_drawn_table.nd rfl (Or.inl rfl) (Or.inr rfl))) (fun _ _ _ _ _ => pts_nil) (fun _ _ _ _ _ => (pe_ix (ixL_K K rfl) (pv 13) (pv 11) (fun _ _ => rfl)))) pa_nil)) pa_nil)))))))))))), ?_⟩
    refine ⟨_, rfl, a, g, c, k, 6, rfl, hL, by omega, by decide, by decide, fun H1 wy hwy hL1 k1 => ?_⟩
    refine ⟨_, rfl, a, g, c, _, 6, rfl, hL1, by omega, by decide, by decide, fun H2 n hn hL2 k2 => ⟨_, _, rfl, rfl, by show 0 ≤ 2 ^ 24; decide, fun C hC => ⟨z3, fun t ht => ⟨t, _, rfl, .inl (.inl upd_same), rfl, _, _, rfl, _, _, rfl, _, _, rfl, rfl, ?_⟩⟩⟩⟩
    obtain ⟨nC1, nC2, nC3⟩ := hL2.na hC
    have k12 := k1.trans k2
    have hC0 : H C = none := free_kq k12 nC1 nC2 hC
    have hL2' : LS (upd H2 C (.lst [])) a g c (k + 2) := hL2.mut nC1 nC2 nC3
    have hC2 : upd H2 C (.lst []) C = some (.lst []) := upd_same
    have k2' : Kq a g H (upd H2 C (.lst [])) := k12.mut hC0
    generalize upd H2 C (.lst []) = H2' at hL2' hC2 k2' ht
    have e3 := same_new (o := .tup [vi wy, V.int (((1 : Nat) : Int) + (n : Nat)), .ref C]) ht
    have hL3 := hL2'.same e3
    have hC3 := e3 _ _ hC2
    have k3 := k2'.trans (.of e3)
    generalize upd H2' t (.tup [vi wy, V.int (((1 : Nat) : Int) + (n : Nat)), .ref C]) = H3 at hL3 hC3 k3
    refine ⟨_, rfl, _, _, rfl, rfl, _, rfl, ?_⟩
    refine ite2 (fun _ => ?_) (fun _ => ?_)
    · refine ⟨_, rfl, _, rfl, a, g, c, _, ls, rfl, hL3, by omega, O, fun H' p rows h1 h2 h3 h4 h5 h6 => q H' p rows h1 h2 h3 h4 (h5.mono (by omega)) (k3.trans h6)⟩
    refine ⟨_, rfl, _, rfl, a, g, c, _, 1 + n, rfl, hL3, by omega, by omega, by omega, fun H4 ho hho hL4 k4 => ?_⟩
    have hC4 := k4 _ _ hC3 nC1 nC2
    have d0 : DI H a g c C (k + 3) (n + 1) H4 0 := ⟨⟨[], [], hC4, rfl, rfl, (fun j b col h => by cases h), fun x h => by cases h⟩, hL4, k3.trans k4, hC0, nC1, nC2, nC3⟩
    refine ⟨_, rfl, S ls, rfl, for_it (walk_str (z := S ls)) (fun i σ H5 => ∃ (v6 v7 v8 v9 v10 v11 v12 v13 : Option V), σ = [some (.ref a), some (VS ls), some (vi wy), some (vi (1 + n)), some (.ref C), some (vi ho), v6, v7, v8, v9, v10, v11, v12, v13] ∧ DI H a g c C (k + 3) (n + 1) H5 i)
      ⟨_, _, _, _, _, _, _, _, rfl, d0⟩ (fun _ _ _ _ _ => trivial) ?_ ?_⟩
    · rintro i x σ H5' H5 hi ⟨v6, v7, v8, v9, v10, v11, v12, v13, rfl, d⟩ ⟨rfl, cc, hcc, rfl⟩
      have hil : i < ls.length := by rw [← S_len]; exact hi
      have hL5 := d.ls
      refine ⟨_, rfl, _, rfl, ⟨by omega, by omega, by omega, by omega, by show (((1 + n : Nat) : Int) - 0).toNat ≤ 2 ^ 24; omega⟩, fun l hl => ?_⟩
      obtain ⟨nl1, nl2, nl3⟩ := hL5.na hl
      have hN : (((1 + n : Nat) : Int) - 0).toNat = n + 1 := by omega
      have hrg : rgV 0 ((1 + n : Nat) : Int) = nis (List.range (n + 1)) := by
        unfold rgV nis
        rw [hN]
        apply List.map_congr_left
        intro i _
        show V.int (0 + (i : Nat)) = V.int (i : Nat)
        rw [Int.zero_add]
      have e6 := same_new (o := .lst (rgV 0 ((1 + n : Nat) : Int))) hl
      have hl6 : upd H5 l (.lst (rgV 0 ((1 + n : Nat) : Int))) l = some (.lst (nis (List.range (n + 1)))) := by rw [upd_same, hrg]
      generalize upd H5 l (.lst (rgV 0 ((1 + n : Nat) : Int))) = H6 at e6 hl6
      refine ⟨_, rfl, _, rfl, a, g, c, _, 1 + n, rfl, hL5.same e6, by omega, by omega, by omega, fun H7 go hgo hL7 k7 => ?_⟩
      refine ⟨_, rfl, a, g, c, _, 3, rfl, hL7, by omega, by omega, by omega, fun H8 fa hfa hL8 k8 => ⟨z3, fun t2 ht2 => ⟨t2, _, rfl, .inl (.inl upd_same), rfl, _, _, rfl, _, _, rfl, _, _, rfl, rfl, ?_⟩⟩⟩
      have e9 := same_new (o := .tup [.ref l, vi go, vi fa]) ht2
      have hL9 := hL8.same e9
      have k59 : Kq a g H5 (upd H8 t2 (.tup [.ref l, vi go, vi fa])) := (Kq.of e6).trans (k7.trans (k8.trans (.of e9)))
      have hl9 := e9 _ _ (k8 _ _ (k7 _ _ hl6 nl1 nl2) nl1 nl2)
      generalize upd H8 t2 (.tup [.ref l, vi go, vi fa]) = H9 at e9 hL9 k59 hl9
      obtain ⟨cas, cols, hC5, hcl, _⟩ := id d.ex
      have hC9 := k59 _ _ hC5 nC1 nC2
      have nlC : l ≠ C := fun e => by rw [e, hC5] at hl; cases hl
      refine ⟨_, rfl, rfl, _, rfl, ?_⟩
      refine ite2 (fun _ => ?_) (fun _ => ⟨_, rfl, rfl, _, rfl, ite2 (fun _ => ?_) (fun _ => ⟨_, rfl, rfl, _, rfl, ite2 (fun _ => ?_) (fun _ => ?_)⟩)⟩)
      · -- way 2
        refine ⟨_, rfl, .inl ⟨rfl, _, .of hC9⟩, _, rfl, _, rfl, by omega, by omega, fun F hF => ?_⟩
        obtain ⟨nF1, nF2, nF3⟩ := hL9.na hF
        have nFl : F ≠ l := fun e => by rw [e, hl9] at hF; cases hF
        have hF5 : H5 F = none := free_kq k59 nF1 nF2 hF
        have hN2 : (((1 + n : Nat) : Int)).toNat = n + 1 := by omega
        refine lc_it (walk_range (lo := 0) (n := (((1 + n : Nat) : Int)).toNat)) (fun j H10 => ∃ rest col : List Nat, H10 l = some (.lst (nis rest)) ∧ rest.length + j = n + 1 ∧ (∀ x ∈ rest, x < n + 1) ∧ H10 F = some (.lst (nis col)) ∧ col.length = j ∧ (∀ x ∈ col, x < n + 1) ∧ LS H10 a g c (k + 3 + 20 * i + 2 + j) ∧ Kq a g H5 H10)
          ⟨List.range (n + 1), [], by rw [upd_ne nFl.symm]; exact hl9, by simp, (fun x hx => List.mem_range.mp hx), upd_same, rfl, (fun x hx => by cases hx), hL9.mut nF1 nF2 nF3, k59.new hF⟩ (fun _ _ _ _ => trivial) (fun j x H10 H10' hj h hY => ?_) (fun H10 h => ?_)
        · obtain ⟨rest, col, hl10, hrl, hr, hF10, hcol, hco, hL10, k10⟩ := h
          obtain ⟨rfl, rfl⟩ := hY
          rw [hN2] at hj
          refine ⟨rfl, _, rfl, .inl ⟨rfl, _, .of hl10⟩, _, rfl, _, rfl, _, rest.length, rfl, .inl ⟨_, .of hl10, (nis_len _).symm⟩, a, g, c, _, rest.length, rfl, hL10, by omega, by omega, by omega, fun H11 m hm hL11 k11 => ?_⟩
          have hl11 := k11 _ _ hl10 nl1 nl2
          have hF11 := k11 _ _ hF10 nF1 nF2
          have hgm : rest[m]? = some (rest[m]'hm) := List.getElem?_eq_getElem hm
          refine ⟨l, _, _, m, vi (rest[m]'hm), rfl, rfl, hl11, by omega, by omega, seqIndex_nat (by rw [nis_len]; exact hm), nis_get hgm, ?_⟩
          have hl12 : upd H11 l (.lst ((nis rest).eraseIdx m)) l = some (.lst (nis (rest.eraseIdx m))) := by rw [upd_same, nis_erase]
          have hF12 : upd H11 l (.lst ((nis rest).eraseIdx m)) F = some (.lst (nis col)) := by rw [upd_ne nFl]; exact hF11
          have hL12 : LS (upd H11 l (.lst ((nis rest).eraseIdx m))) a g c (k + 3 + 20 * i + 2 + j + 1) := hL11.mut nl1 nl2 nl3
          have k12' : Kq a g H5 (upd H11 l (.lst ((nis rest).eraseIdx m))) := (k10.trans k11).mut hl
          generalize upd H11 l (.lst ((nis rest).eraseIdx m)) = H12 at hl12 hF12 hL12 k12'
          refine ⟨_, hF12, by rw [nis_len]; exact slt (by omega), rest.eraseIdx m, col ++ [rest[m]'hm], by rw [upd_ne nFl.symm]; exact hl12, ?_, fun x hx => hr x (List.mem_of_mem_eraseIdx hx), by rw [upd_same]; simp [nis], by rw [List.length_append, hcol]; rfl, fun x hx => ?_, hL12.mut nF1 nF2 nF3, k12'.mut hF5⟩
          · rw [List.length_eraseIdx_of_lt hm]; omega
          · rcases List.mem_append.mp hx with z | z
            · exact hco x z
            · rw [List.mem_singleton.mp z]; exact hr _ (List.getElem_mem hm)
        · obtain ⟨rest, col, hl10, hrl, hr, hF10, hcol, hco, hL10, k10⟩ := h
          rw [hN2] at hcol hL10
          obtain ⟨xs, hC10, hxl, d2⟩ := d.add k10 (hL10.mono (by omega)) hF5 hF10 hcol hco
          exact ⟨C, _, _, rfl, rfl, hC10, by rw [hxl]; exact slt (by omega), _, _, _, _, _, _, _, _, rfl, d2⟩
      · -- way 3
        refine ⟨_, rfl, .inl ⟨rfl, _, .of hC9⟩, _, rfl, _, rfl, by omega, by omega, fun F hF => ?_⟩
        obtain ⟨nF1, nF2, nF3⟩ := hL9.na hF
        have hF5 : H5 F = none := free_kq k59 nF1 nF2 hF
        have hN2 : (((1 + n : Nat) : Int)).toNat = n + 1 := by omega
        refine lc_it (walk_range (lo := 0) (n := (((1 + n : Nat) : Int)).toNat)) (fun j H10 => ∃ col : List Nat, H10 F = some (.lst (nis col)) ∧ col.length = j ∧ (∀ x ∈ col, x < n + 1) ∧ LS H10 a g c (k + 3 + 20 * i + 2 + j) ∧ Kq a g H5 H10)
          ⟨[], upd_same, rfl, (fun x hx => by cases hx), hL9.mut nF1 nF2 nF3, k59.new hF⟩ (fun _ _ _ _ => trivial) (fun j x H10 H10' hj h hY => ?_) (fun H10 h => ?_)
        · obtain ⟨col, hF10, hcol, hco, hL10, k10⟩ := h
          obtain ⟨rfl, rfl⟩ := hY
          rw [hN2] at hj
          refine ⟨rfl, _, rfl, _, _, rfl, rfl, _, rfl, _, rfl, a, g, c, _, 3, rfl, hL10, by omega, by omega, by omega, fun H11 m hm hL11 k11 => ⟨_, _, rfl, rfl, _, _, rfl, ?_⟩⟩
          have hF11 := k11 _ _ hF10 nF1 nF2
          obtain ⟨y, hy, ey⟩ : ∃ y : Nat, y < n + 1 ∧ (if ((0 + (j : Nat) : Int) + (m : Nat)) < (((1 + n : Nat) : Int) - 1) then ((0 + (j : Nat) : Int) + (m : Nat)) else (((1 + n : Nat) : Int) - 1)) = (y : Int) := by
            refine ⟨(if ((0 + (j : Nat) : Int) + (m : Nat)) < (((1 + n : Nat) : Int) - 1) then ((0 + (j : Nat) : Int) + (m : Nat)) else (((1 + n : Nat) : Int) - 1)).toNat, ?_, ?_⟩ <;> split <;> omega
          refine ⟨_, hF11, by rw [nis_len]; exact slt (by omega), col ++ [y], ?_, by rw [List.length_append, hcol]; rfl, fun x hx => ?_, (hL11.mut nF1 nF2 nF3).mono (by omega), (k10.trans k11).mut hF5⟩
          · rw [upd_same, ey]; simp [nis]
          · rcases List.mem_append.mp hx with z | z
            · exact hco x z
            · rw [List.mem_singleton.mp z]; omega
        · obtain ⟨col, hF10, hcol, hco, hL10, k10⟩ := h
          rw [hN2] at hcol hL10
          obtain ⟨xs, hC10, hxl, d2⟩ := d.add k10 (hL10.mono (by omega)) hF5 hF10 hcol hco
          exact ⟨C, _, _, rfl, rfl, hC10, by rw [hxl]; exact slt (by omega), _, _, _, _, _, _, _, _, rfl, d2⟩
      · -- way 4
        refine ⟨_, rfl, .inl ⟨rfl, _, .of hC9⟩, _, rfl, _, rfl, by omega, by omega, fun F hF => ?_⟩
        obtain ⟨nF1, nF2, nF3⟩ := hL9.na hF
        have hF5 : H5 F = none := free_kq k59 nF1 nF2 hF
        have hN2 : (((1 + n : Nat) : Int)).toNat = n + 1 := by omega
        refine lc_it (walk_range (lo := 0) (n := (((1 + n : Nat) : Int)).toNat)) (fun j H10 => ∃ col : List Nat, H10 F = some (.lst (nis col)) ∧ col.length = j ∧ (∀ x ∈ col, x < n + 1) ∧ LS H10 a g c (k + 3 + 20 * i + 2 + j) ∧ Kq a g H5 H10)
          ⟨[], upd_same, rfl, (fun x hx => by cases hx), hL9.mut nF1 nF2 nF3, k59.new hF⟩ (fun _ _ _ _ => trivial) (fun j x H10' H10 hj h hY => ?_) (fun H10 h => ?_)
        · obtain ⟨col, hF10, hcol, hco, hL10, k10⟩ := h
          obtain ⟨rfl, rfl⟩ := hY
          rw [hN2] at hj
          refine ⟨rfl, _, rfl, _, rfl, _, rfl, _, rfl, z3, fun pl hpl => ?_⟩
          obtain ⟨nP1, nP2, nP3⟩ := hL10.na hpl
          have e11 := same_new (o := .lst [vi go, vi go, V.int (0 + (j : Nat))]) hpl
          have hp11 : upd H10 pl (.lst [vi go, vi go, V.int (0 + (j : Nat))]) pl = some (.lst [vi go, vi go, vi j]) := by rw [upd_same, Int.zero_add]
          generalize upd H10 pl (.lst [vi go, vi go, V.int (0 + (j : Nat))]) = H11 at e11 hp11
          refine ⟨a, g, c, _, .ref pl, [vi go, vi go, vi j], rfl, hL10.same e11, by omega, .inr ⟨pl, rfl, hp11, nP1, nP2⟩, by simp, by show 3 ≤ 1000; decide, fun H12 i' v hv hL12 k12' => ?_⟩
          obtain ⟨y, hy, rfl⟩ := pick3 (many := n + 1) (by omega) (by omega) hj hv
          have hF12 : H12 F = some (.lst (nis col)) := k12' _ _ (e11 _ _ hF10) nF1 nF2
          refine ⟨_, hF12, by rw [nis_len]; exact slt (by omega), col ++ [y], by rw [upd_same]; simp [nis], by rw [List.length_append, hcol]; rfl, fun x hx => ?_, (hL12.mut nF1 nF2 nF3).mono (by omega), ((k10.trans (.of e11)).trans k12').mut hF5⟩
          · rcases List.mem_append.mp hx with z | z
            · exact hco x z
            · rw [List.mem_singleton.mp z]; omega
        · obtain ⟨col, hF10, hcol, hco, hL10, k10⟩ := h
          rw [hN2] at hcol hL10
          obtain ⟨xs, hC10, hxl, d2⟩ := d.add k10 (hL10.mono (by omega)) hF5 hF10 hcol hco
          exact ⟨C, _, _, rfl, rfl, hC10, by rw [hxl]; exact slt (by omega), _, _, _, _, _, _, _, _, rfl, d2⟩
      · -- way 5
        refine ⟨_, rfl, _, rfl, by omega, by omega, for_it (walk_range (lo := 0) (n := ((fa : Nat) : Int).toNat)) (fun j σ H10 => ∃ (l' : Addr) (lst : List Nat) (v10 v11 v12 v13 : Option V), σ = [some (.ref a), some (VS ls), some (vi wy), some (vi (1 + n)), some (.ref C), some (vi ho), some (VS [cc]), some (.ref l'), some (vi go), some (vi fa), v10, v11, v12, v13] ∧
            H10 l' = some (.lst (nis lst)) ∧ lst.length = n + 1 ∧ (∀ x ∈ lst, x < n + 1) ∧ H5 l' = none ∧ LS H10 a g c (k + 3 + 20 * i + 2) ∧ Kq a g H5 H10)
          ⟨l, List.range (n + 1), _, _, _, _, rfl, hl9, by simp, (fun x hx => List.mem_range.mp hx), hl, hL9, k59⟩ (fun _ _ _ _ _ => trivial) ?_ ?_⟩
        · rintro j x σ H10' H10 hj ⟨l', lst, v10, v11, v12, v13, rfl, hl10, hll, hlt, hl5, hL10, k10⟩ ⟨rfl, rfl⟩
          refine ⟨_, rfl, l', rfl, ⟨_, .of hl10⟩, fun F hF => ?_⟩
          obtain ⟨nF1, nF2, nF3⟩ := hL10.na hF
          have hF5 : H5 F = none := free_kq k10 nF1 nF2 hF
          refine lc_it (walk_list (xs := nis lst)) (fun j H11 => ∃ col : List Nat, Same H10 H11 ∧ H11 F = some (.lst (nis col)) ∧ col.length = j ∧ ∀ x ∈ col, x < n + 1)
            ⟨[], same_new hF, upd_same, rfl, (fun x hx => by cases hx)⟩ (fun j H11 _ h => by obtain ⟨_, e, _⟩ := h; exact .of (e _ _ hl10)) (fun j x H11 H11' hj h hY => ?_) (fun H11 h => ?_)
          · obtain ⟨col, e11, hF11, hcol, hco⟩ := h
            obtain ⟨rfl, hx⟩ := hY
            obtain ⟨y, hy, rfl⟩ := nis_inv hx
            have hyl := hlt y (List.mem_of_getElem? hy)
            rw [nis_len, hll] at hj
            refine ⟨rfl, _, rfl, _, rfl, _, _, rfl, rfl, rfl, _, rfl, ?_⟩
            refine ite2 (fun _ => ?_) (fun hne => ?_)
            · refine ⟨_, rfl, _, hF11, by rw [nis_len]; exact slt (by omega), col ++ [ho], same_mut e11 hF, by rw [upd_same]; simp [nis], by rw [List.length_append, hcol]; rfl, fun x hx => ?_⟩
              rcases List.mem_append.mp hx with z | z
              · exact hco x z
              · rw [List.mem_singleton.mp z]; omega
            · have hyn : y ≠ n := fun e => hne (by
                subst e
                exact decide_eq_true (by show V.int _ = V.int _; congr 1; omega))
              refine ⟨_, rfl, _, _, rfl, rfl, _, hF11, by rw [nis_len]; exact slt (by omega), col ++ [y + 1], same_mut e11 hF, by rw [upd_same]; simp [nis], by rw [List.length_append, hcol]; rfl, fun x hx => ?_⟩
              rcases List.mem_append.mp hx with z | z
              · exact hco x z
              · rw [List.mem_singleton.mp z]; omega
          · obtain ⟨col, e11, hF11, hcol, hco⟩ := h
            rw [nis_len, hll] at hcol
            exact ⟨F, col, _, _, _, _, rfl, hF11, hcol, hco, hF5, hL10.same e11, k10.trans (.of e11)⟩
        · rintro σ H10 ⟨l', lst, v10, v11, v12, v13, rfl, hl10, hll, hlt, hl5, hL10, k10⟩
          obtain ⟨xs, hC10, hxl, d2⟩ := d.add k10 (hL10.mono (by omega)) hl5 hl10 hll hlt
          exact ⟨_, rfl, .inl ⟨rfl, _, .of hC10⟩, _, rfl, C, _, _, rfl, rfl, hC10, by rw [hxl]; exact slt (by omega), _, _, _, _, _, _, _, _, rfl, d2⟩
    · rintro σ H5 ⟨v6, v7, v8, v9, v10, v11, v12, v13, rfl, d⟩
      have hsz : (S ls).cps.size = ls.length := S_len ls
      rw [hsz] at d
      have hL5 := d.ls
      obtain ⟨cas, cols, hC5, hcl, hcl2, hcols, hgood⟩ := id d.ex
      have hN2 : (((1 + n : Nat) : Int)).toNat = n + 1 := by omega
      refine ⟨_, rfl, _, rfl, by omega, by omega, fun F hF => ?_⟩
      obtain ⟨nF1, nF2, nF3⟩ := hL5.na hF
      refine lc_it (walk_range (lo := 0) (n := (((1 + n : Nat) : Int)).toNat)) (fun j H10 => ∃ (as : List Addr) (rows : List (Bool × List Nat)), H10 F = some (.lst (as.map .ref)) ∧ RowsIn H10 as rows ∧ rows.length = j ∧ GoodR (n + 1) ls.length rows ∧ LS H10 a g c (k + 3 + 20 * ls.length + j) ∧ Kq a g H5 H10)
        ⟨[], [], upd_same, ⟨rfl, fun i b r h => by cases h⟩, rfl, (fun r h => by cases h), hL5.mut nF1 nF2 nF3, Kq.refl.new hF⟩ (fun _ _ _ _ => trivial) (fun j x H10' H10 hj h hY => ?_) (fun H10 h => ?_)
      · obtain ⟨as, rows, hF10, hrs, hrl, hgr, hL10, k10⟩ := h
        obtain ⟨rfl, rfl⟩ := hY
        rw [hN2] at hj
        refine ⟨rfl, _, rfl, a, g, c, _, 2, rfl, hL10, by omega, by omega, by omega, fun H11 m hm hL11 k11 => ⟨rfl, ?_⟩⟩
        have k511 := k10.trans k11
        have hC11 := k511 _ _ hC5 nC1 nC2
        have hF11 := k11 _ _ hF10 nF1 nF2
        have hrs11 := hrs.kq hL10 k11
        have hcm : (cas.map V.ref).length = ls.length := by rw [List.length_map, hcl]
        refine ⟨_, rfl, C, rfl, ⟨_, .of hC11⟩, fun F2 hF2 => lc_map (walk_list (xs := cas.map V.ref)) (Same H11) (fun i => vi ((cols.getD i []).getD j 0)) (by rw [hcm]; exact sl (by omega)) (same_new hF2) (fun i H12 hi r hD => .of (r _ _ hC11)) (fun H12 xs ys r _ => same_mut r hF2) (fun i x H12 H12' Q' hi r12 hD12 hY kk => ?_) (fun H12 r12 hD12 => ?_)⟩
        · obtain ⟨rfl, hx⟩ := hY
          obtain ⟨b, hb, rfl⟩ := refs_inv hx
          obtain ⟨cl, hcl'⟩ : ∃ cl, cols[i]? = some cl := ⟨_, List.getElem?_eq_getElem (by rw [hcl2, ← hcl]; exact (List.getElem?_eq_some_iff.mp hb).1)⟩
          obtain ⟨p1, p2, p3, p4⟩ := hcols i b cl hb hcl'
          obtain ⟨g1, g2⟩ := hgood cl (List.mem_of_getElem? hcl')
          have hge : cl[j]? = some (cl[j]'(by omega)) := List.getElem?_eq_getElem (by omega)
          have kk2 := kk
          rw [getD_ofL hcl', getD_of hge] at kk2
          refine ⟨rfl, _, rfl, _, rfl, b, _, _, _, rfl, rfl, .of (r12 _ _ (k511 _ _ p1 p2 p3)), ?_, kk2 _ hD12 r12⟩
          rw [Int.zero_add]; exact atI_nat (nis_get hge)
        · rw [hcm] at hD12
          have htab : tab (fun i => vi ((cols.getD i []).getD j 0)) ls.length = nis (cols.map fun cl => cl.getD j 0) := by
            refine tab_eq (by simp [nis, hcl2]) fun i x hx => ?_
            obtain ⟨y, hy, rfl⟩ := nis_inv hx
            rw [List.getElem?_map] at hy
            cases e : cols[i]? with
            | none => rw [e] at hy; cases hy
            | some cl => rw [e] at hy; cases hy; rw [getD_ofL e]
          rw [htab] at hD12
          have hF12 := r12 _ _ hF11
          have hrs12 := hrs11.sol (.of r12)
          have hL12 := hL11.same r12
          refine ⟨F2, _, rfl, .inl ⟨.of hD12, fun tl htl => ⟨z2, fun tr htr => ?_⟩⟩⟩
          have e13 := same_new (o := .tup (nis (cols.map fun cl => cl.getD j 0))) htl
          have htl13 : upd H12 tl (.tup (nis (cols.map fun cl => cl.getD j 0))) tl = some (.tup (nis (cols.map fun cl => cl.getD j 0))) := upd_same
          generalize upd H12 tl (.tup (nis (cols.map fun cl => cl.getD j 0))) = H13 at e13 htl13 htr
          have e14 := same_new (o := .tup [.bl (decide (V.int (m : Nat) = .int 0)), .ref tl]) htr
          have htr14 : upd H13 tr (.tup [.bl (decide (V.int (m : Nat) = .int 0)), .ref tl]) tr = some (.tup [.bl (decide (V.int (m : Nat) = .int 0)), .ref tl]) := upd_same
          have hat : RowAt (upd H13 tr (.tup [.bl (decide (V.int (m : Nat) = .int 0)), .ref tl])) tr (decide (V.int (m : Nat) = .int 0), cols.map fun cl => cl.getD j 0) := ⟨tl, htr14, e14 _ _ htl13⟩
          generalize upd H13 tr (.tup [.bl (decide (V.int (m : Nat) = .int 0)), .ref tl]) = H14 at e14 htr14 hat
          have e1214 : Same H12 H14 := fun b o z => e14 b o (e13 b o z)
          have hF14 := e1214 _ _ hF12
          have nt := lstNT hF14
          have hF50 : H5 F = none := hF
          refine ⟨_, hF14, by rw [List.length_map, hrs.1]; exact slt (by omega), as ++ [tr], rows ++ [_], by rw [upd_same]; simp, ((hrs12.sol (.of e1214)).mut nt).add (hat.mut nt), by rw [List.length_append, hrl]; rfl, hgr.add (by rw [List.length_map, hcl2]) (fun y hy => ?_), ((hL12.same e1214).mut nF1 nF2 nF3).mono (by omega), (k511.trans ((Kq.of r12).trans (.of e1214))).mut hF50⟩
          obtain ⟨cl, hcl', rfl⟩ := List.mem_map.mp hy
          obtain ⟨g1, g2⟩ := hgood cl hcl'
          have hge : cl[j]? = some (cl[j]'(by omega)) := List.getElem?_eq_getElem (by omega)
          rw [getD_of hge]
          exact g2 _ (List.getElem_mem _)
      · obtain ⟨as, rows, hF10, hrs, hrl, hgr, hL10, k10⟩ := h
        rw [hN2] at hrl hL10
        exact q H10 F rows ⟨as, hF10, hrs⟩ (by omega) (by omega) (by rw [hrl]; exact hgr) (hL10.mono (by omega)) (d.kq.trans k10)
end
end Sw
/-! The law's own: asked. -/
namespace Sw
open PySem PySem.Spec PyProof.Rows L2 LamX NdefX
section
variable {P : Program} {w : World} {K : PySem.W.Frag} {mg : Str → Option Value} {base : Heap} {CM CA CW CG SA : Addr} {D : Cds}
def spAsked (CM : Addr) (D : Cds) : Sp := fun vs H Q _ => ∃ (m : Addr) (M0 : Mc) (k : Kd), vs = [.str (kdN k), .ref m] ∧ TabsN (Tb D) H ∧ MachAt CM H m M0 ∧ M0.Ok ∧
  (∀ H', Gr (Tb D) H H' → (Mayg k → ¬ Great M0.ls M0.lang) → ¬ Cond M0.ls M0.lang k → Q .non H') ∧
  (∀ H' p g, Gr (Tb D) H H' → (Mayg k → ¬ Great M0.ls M0.lang) → Fnd M0.ls M0.lang k g → H' p = some (.tup (sgV g)) → Q (.ref p) H') ∧
  (∀ H', Gr (Tb D) H H' → Mayg k → Great M0.ls M0.lang → Q (.str "great") H')
theorem ok_q_asked (T : Tx K mg CM CA CW CG) (Y : Ty K mg base CW D) (G : Tg K mg CG) (Z : Tsh K mg SA) : Pr P w K mg base CX0 11 "_law_asked" P_q_asked [] (spAsked CM D) := by
  obtain ⟨f1, fd1, ds1, g1, kp1, bb1, vv1, F1⟩ := (ok_swing (P := P) (w := w) T Y G Z).ex
  cases vv1
  refine T.d_q_asked.pr sc_q_asked (fun _ _ _ _ _ _ us hl => match us, hl with | [_, _], _ => rfl) (fun vs H Q E h => ?_) (fun f cdv A outer s H vs Q E hr h => ?_)
  · obtain ⟨m, M0, k, rfl, _⟩ := h; rfl
  · obtain ⟨m, M0, k, rfl, hT, hM, O, q1, q2, q3⟩ := h
    refine ⟨_, (PSs.nox (pss_cons (ps_set (i := 2) sc_q_asked.nd rfl (Or.inl rfl) pe_str)
 (pss_cons (ps_try_only rfl rfl ⟨rfl, by decide +kernel, .inl G.g⟩ L2.takes0 (fun W pn xe tk _ => (pss_one (ps_set (i := 2) sc_q_asked.nd rfl (Or.inl rfl) (pe_callS F1 hr rfl g1 kp1 bb1 (fun σ => L2.passAt tk σ) (pa_cons (pv 0) (pa_cons (pv 1) pa_nil)))))) (fun a oe cls d pn _ _ => (pss_one (ps_set (i := 2) sc_q_asked.nd rfl (Or.inl rfl) pe_str))))
 (pss_one (ps_ret (pv 2)))))), ?_⟩
    refine ⟨_, rfl, _, rfl, m, M0, k, rfl, hT, hM, O, fun H' g hg hc => ?_, fun H' p x g hg hf hp => ?_, fun H' g hk hg => ⟨true, G.m, fun _ a ha => ?_, fun q => nomatch q⟩⟩
    · exact ⟨_, rfl, q1 H' g hg hc⟩
    · exact ⟨_, rfl, q2 H' p x g hg hf hp⟩
    · exact ⟨_, rfl, q3 H' g hk hg⟩
end
end Sw
/-! The law's own: turned, ahead. -/
namespace Sw
open PySem PySem.Spec PyProof.Rows L2 LamX NdefX
theorem tl2 {a b : Nat} (h : a ≤ 100 := by decide) (h2 : b ≤ 100 := by decide) : a + b ≤ sizeLine := Nat.le_trans (Nat.add_le_add h h2) (by show 200 ≤ 2 ^ 24; decide)
section
variable {P : Program} {w : World} {K : PySem.W.Frag} {mg : Str → Option Value} {base : Heap} {CM CA CW CG : Addr}
def spTurned : Sp := fun vs H Q _ => ∃ (p : Addr) (g : Sg), vs = [.ref p] ∧ H p = some (.tup (sgV g)) ∧ g.kd ≠ .starfree ∧ ∀ H' q, Same H H' → H' q = some (.tup (sgV g.turn)) → Q (.ref q) H'
theorem ok_q_turned (T : Tx K mg CM CA CW CG) : Pr P w K mg base CX0 1 "_law_turned" P_q_turned [] spTurned := by
  refine T.d_q_turned.pr sc_q_turned (fun _ _ _ _ _ _ us hl => match us, hl with | [_], _ => rfl) (fun vs H Q E h => ?_) (fun f cdv A outer s H vs Q E hr h => ?_)
  · obtain ⟨p, g, rfl, _⟩ := h; rfl
  · obtain ⟨p, g, rfl, hp, hk, q⟩ := h
    refine ⟨_, (PSs.nox (pss_cons (ps_set (i := 1) sc_q_turned.nd rfl (Or.inl rfl) (pe_ix ix_tup (pv 0) pe_int (fun _ _ => rfl)))
 (pss_cons (ps_if (pt_cmpR op_eq (pv 1) pe_str (nomark _))
 (pss_one (ps_ret (pe_op op_catA (pe_op op_catA (pe_tup (pa_cons pe_str pa_nil)) (pe_slice sl_tup (pv 0) (po_some pe_int) po_none)) (pe_slice sl_tup (pv 0) (po_some pe_int) (po_some pe_int)))))
 pss_nil)
 (pss_cons (ps_if (pt_cmpR op_eq (pv 1) pe_str (nomark _))
 (pss_one (ps_ret (pe_op op_catA (pe_slice sl_tup (pv 0) po_none (po_some pe_int)) (pe_tup (pa_cons (pe_ix ix_tup (pv 0) pe_int (fun _ _ => rfl)) (pa_cons (pe_ix ix_tup (pv 0) pe_int (fun _ _ => rfl)) pa_nil))))))
 pss_nil)
 (pss_cons (ps_if (pt_cmpR op_eq (pv 1) pe_str (nomark _))
 (pss_one (ps_ret (pe_op op_catA (pe_tup (pa_cons pe_str (pa_cons (pe_ix ix_tup (pv 0) pe_int (fun _ _ => rfl)) (pa_cons (pe_ix ix_tup (pv 0) pe_int (fun _ _ => rfl)) pa_nil)))) (pe_slice sl_tup (pv 0) (po_some pe_int) po_none))))
 pss_nil)
 (pss_cons (ps_if (pt_cmpR op_eq (pv 1) pe_str (nomark _))
 (pss_one (ps_ret (pe_op op_catA (pe_slice sl_tup (pv 0) po_none (po_some pe_int)) (pe_tup (pa_cons (pe_ix ix_tup (pv 0) pe_int (fun _ _ => rfl)) (pa_cons (pe_ix ix_tup (pv 0) pe_int (fun _ _ => rfl)) (pa_cons (pe_ix ix_tup (pv 0) pe_int (fun _ _ => rfl)) pa_nil)))))))
 pss_nil)
 (pss_cons (ps_set (i := 2) sc_q_turned.nd rfl (Or.inl rfl) (pe_ifExp (pt_cmpR op_eq (pv 1) pe_str (nomark _)) pe_int pe_int))
 (pss_one (ps_ret (pe_op op_catA (pe_op op_catA (pe_slice sl_tup (pv 0) po_none (po_some (pv 2))) (pe_tup (pa_cons (pe_not (pe_ix ix_tup (pv 0) (pv 2) (fun _ _ => rfl))) pa_nil))) (pe_slice sl_tup (pv 0) (po_some (pe_op op_add (pv 2) pe_int)) po_none))))))))))), ?_⟩
    refine ⟨_, rfl, p, _, 0, _, rfl, rfl, .inl (.inl hp), atI_nat (j := 0) (sgV_head g), ?_⟩
    cases g with
    | starfree u y v pp => exact absurd rfl hk
    | few u y v s z t =>
      refine ⟨_, rfl, rfl, _, rfl, ?_⟩
      refine itT (by show decide (V.str "few" = V.str "few") = true; decide +kernel) ?_
      refine ⟨by show 1 ≤ 2 ^ 24; decide, fun t1 ht1 => ?_⟩
      have e1 := same_new (o := .tup ([.str "few"])) ht1
      have f1 : upd H t1 (.tup ([.str "few"])) t1 = some (.tup ([.str "few"])) := upd_same
      generalize upd H t1 (.tup ([.str "few"])) = G1 at e1 f1
      have hp_1 := e1 _ _ hp
      have sm1 : Same H G1 := e1
      refine ⟨_, rfl, 4, rfl, p, _, rfl, .inl (.inl hp_1), fun z => (show ¬ (HT.sIx 7 0 (some (4)) = 0) by decide) z.1, fun t2 ht2 => ?_⟩
      have e2 := same_new (o := .tup (cutV (sgV (Sg.few u y v s z t)) (some (4)) none)) ht2
      have f2 : upd G1 t2 (.tup (cutV (sgV (Sg.few u y v s z t)) (some (4)) none)) t2 = some (.tup (cutV (sgV (Sg.few u y v s z t)) (some (4)) none)) := upd_same
      generalize upd G1 t2 (.tup (cutV (sgV (Sg.few u y v s z t)) (some (4)) none)) = G2 at e2 f2
      have hp_2 := e2 _ _ hp_1
      have f1_2 := e2 _ _ f1
      have sm2 : Same H G2 := fun b o z => e2 b o (sm1 b o z)
      refine ⟨t1, t2, _, _, rfl, rfl, .inl (.inl f1_2), .inl (.inl f2), tl2 (show 1 ≤ 100 by decide) (show 3 ≤ 100 by decide), fun z => (by cases z), fun _ z => (by cases z), fun _ _ t3 ht3 => ?_⟩
      have e3 := same_new (o := .tup (([.str "few"]) ++ (cutV (sgV (Sg.few u y v s z t)) (some (4)) none))) ht3
      have f3 : upd G2 t3 (.tup (([.str "few"]) ++ (cutV (sgV (Sg.few u y v s z t)) (some (4)) none))) t3 = some (.tup (([.str "few"]) ++ (cutV (sgV (Sg.few u y v s z t)) (some (4)) none))) := upd_same
      generalize upd G2 t3 (.tup (([.str "few"]) ++ (cutV (sgV (Sg.few u y v s z t)) (some (4)) none))) = G3 at e3 f3
      have hp_3 := e3 _ _ hp_2
      have f1_3 := e3 _ _ f1_2
      have f2_3 := e3 _ _ f2
      have sm3 : Same H G3 := fun b o z => e3 b o (sm2 b o z)
      refine ⟨_, rfl, 1, rfl, 4, rfl, p, _, rfl, .inl (.inl hp_3), fun z => (show ¬ (HT.sIx 7 0 (some (1)) = 0) by decide) z.1, fun t4 ht4 => ?_⟩
      have e4 := same_new (o := .tup (cutV (sgV (Sg.few u y v s z t)) (some (1)) (some (4)))) ht4
      have f4 : upd G3 t4 (.tup (cutV (sgV (Sg.few u y v s z t)) (some (1)) (some (4)))) t4 = some (.tup (cutV (sgV (Sg.few u y v s z t)) (some (1)) (some (4)))) := upd_same
      generalize upd G3 t4 (.tup (cutV (sgV (Sg.few u y v s z t)) (some (1)) (some (4)))) = G4 at e4 f4
      have hp_4 := e4 _ _ hp_3
      have f1_4 := e4 _ _ f1_3
      have f2_4 := e4 _ _ f2_3
      have f3_4 := e4 _ _ f3
      have sm4 : Same H G4 := fun b o z => e4 b o (sm3 b o z)
      refine ⟨t3, t4, _, _, rfl, rfl, .inl (.inl f3_4), .inl (.inl f4), tl2 (show 4 ≤ 100 by decide) (show 3 ≤ 100 by decide), fun z => (by cases z), fun _ z => (by cases z), fun _ _ t5 ht5 => ?_⟩
      have e5 := same_new (o := .tup ((([.str "few"]) ++ (cutV (sgV (Sg.few u y v s z t)) (some (4)) none)) ++ (cutV (sgV (Sg.few u y v s z t)) (some (1)) (some (4))))) ht5
      have f5 : upd G4 t5 (.tup ((([.str "few"]) ++ (cutV (sgV (Sg.few u y v s z t)) (some (4)) none)) ++ (cutV (sgV (Sg.few u y v s z t)) (some (1)) (some (4))))) t5 = some (.tup ((([.str "few"]) ++ (cutV (sgV (Sg.few u y v s z t)) (some (4)) none)) ++ (cutV (sgV (Sg.few u y v s z t)) (some (1)) (some (4))))) := upd_same
      generalize upd G4 t5 (.tup ((([.str "few"]) ++ (cutV (sgV (Sg.few u y v s z t)) (some (4)) none)) ++ (cutV (sgV (Sg.few u y v s z t)) (some (1)) (some (4))))) = G5 at e5 f5
      have hp_5 := e5 _ _ hp_4
      have f1_5 := e5 _ _ f1_4
      have f2_5 := e5 _ _ f2_4
      have f3_5 := e5 _ _ f3_4
      have f4_5 := e5 _ _ f4
      have sm5 : Same H G5 := fun b o z => e5 b o (sm4 b o z)
      exact q _ t5 sm5 (f5.trans (congrArg (fun z => some (HO.tup z)) (show (([.str "few"]) ++ (cutV (sgV (Sg.few u y v s z t)) (some (4)) none)) ++ (cutV (sgV (Sg.few u y v s z t)) (some (1)) (some (4))) = sgV (Sg.few u y v s z t).turn from rfl)))
    | starts u y v w =>
      refine ⟨_, rfl, rfl, _, rfl, ?_⟩
      refine itF (by show decide (V.str "starts" = V.str "few") = false; decide +kernel) ?_
      refine ⟨_, rfl, rfl, _, rfl, ?_⟩
      refine itT (by show decide (V.str "starts" = V.str "starts") = true; decide +kernel) ?_
      refine ⟨_, rfl, 3, rfl, p, _, rfl, .inl (.inl hp), fun z => (show ¬ (HT.sIx 5 5 (some (3)) = 5) by decide) z.2, fun t1 ht1 => ?_⟩
      have e1 := same_new (o := .tup (cutV (sgV (Sg.starts u y v w)) none (some (3)))) ht1
      have f1 : upd H t1 (.tup (cutV (sgV (Sg.starts u y v w)) none (some (3)))) t1 = some (.tup (cutV (sgV (Sg.starts u y v w)) none (some (3)))) := upd_same
      generalize upd H t1 (.tup (cutV (sgV (Sg.starts u y v w)) none (some (3)))) = G1 at e1 f1
      have hp_1 := e1 _ _ hp
      have sm1 : Same H G1 := e1
      refine ⟨_, rfl, p, _, 4, VS w, rfl, rfl, .inl (.inl hp_1), atI_nat (j := 4) rfl, _, rfl, p, _, 3, VS v, rfl, rfl, .inl (.inl hp_1), atI_nat (j := 3) rfl, z2, fun t2 ht2 => ?_⟩
      have e2 := same_new (o := .tup ([VS w, VS v])) ht2
      have f2 : upd G1 t2 (.tup ([VS w, VS v])) t2 = some (.tup ([VS w, VS v])) := upd_same
      generalize upd G1 t2 (.tup ([VS w, VS v])) = G2 at e2 f2
      have hp_2 := e2 _ _ hp_1
      have f1_2 := e2 _ _ f1
      have sm2 : Same H G2 := fun b o z => e2 b o (sm1 b o z)
      refine ⟨t1, t2, _, _, rfl, rfl, .inl (.inl f1_2), .inl (.inl f2), tl2 (show 3 ≤ 100 by decide) (show 2 ≤ 100 by decide), fun z => (by cases z), fun _ z => (by cases z), fun _ _ t3 ht3 => ?_⟩
      have e3 := same_new (o := .tup ((cutV (sgV (Sg.starts u y v w)) none (some (3))) ++ ([VS w, VS v]))) ht3
      have f3 : upd G2 t3 (.tup ((cutV (sgV (Sg.starts u y v w)) none (some (3))) ++ ([VS w, VS v]))) t3 = some (.tup ((cutV (sgV (Sg.starts u y v w)) none (some (3))) ++ ([VS w, VS v]))) := upd_same
      generalize upd G2 t3 (.tup ((cutV (sgV (Sg.starts u y v w)) none (some (3))) ++ ([VS w, VS v]))) = G3 at e3 f3
      have hp_3 := e3 _ _ hp_2
      have f1_3 := e3 _ _ f1_2
      have f2_3 := e3 _ _ f2
      have sm3 : Same H G3 := fun b o z => e3 b o (sm2 b o z)
      exact q _ t3 sm3 (f3.trans (congrArg (fun z => some (HO.tup z)) (show (cutV (sgV (Sg.starts u y v w)) none (some (3))) ++ ([VS w, VS v]) = sgV (Sg.starts u y v w).turn from rfl)))
    | ends u v y w =>
      refine ⟨_, rfl, rfl, _, rfl, ?_⟩
      refine itF (by show decide (V.str "ends" = V.str "few") = false; decide +kernel) ?_
      refine ⟨_, rfl, rfl, _, rfl, ?_⟩
      refine itF (by show decide (V.str "ends" = V.str "starts") = false; decide +kernel) ?_
      refine ⟨_, rfl, rfl, _, rfl, ?_⟩
      refine itT (by show decide (V.str "ends" = V.str "ends") = true; decide +kernel) ?_
      refine ⟨_, rfl, p, _, 2, VS v, rfl, rfl, .inl (.inl hp), atI_nat (j := 2) rfl, _, rfl, p, _, 1, VS u, rfl, rfl, .inl (.inl hp), atI_nat (j := 1) rfl, z3, fun t1 ht1 => ?_⟩
      have e1 := same_new (o := .tup ([.str "ends", VS v, VS u])) ht1
      have f1 : upd H t1 (.tup ([.str "ends", VS v, VS u])) t1 = some (.tup ([.str "ends", VS v, VS u])) := upd_same
      generalize upd H t1 (.tup ([.str "ends", VS v, VS u])) = G1 at e1 f1
      have hp_1 := e1 _ _ hp
      have sm1 : Same H G1 := e1
      refine ⟨_, rfl, 3, rfl, p, _, rfl, .inl (.inl hp_1), fun z => (show ¬ (HT.sIx 5 0 (some (3)) = 0) by decide) z.1, fun t2 ht2 => ?_⟩
      have e2 := same_new (o := .tup (cutV (sgV (Sg.ends u v y w)) (some (3)) none)) ht2
      have f2 : upd G1 t2 (.tup (cutV (sgV (Sg.ends u v y w)) (some (3)) none)) t2 = some (.tup (cutV (sgV (Sg.ends u v y w)) (some (3)) none)) := upd_same
      generalize upd G1 t2 (.tup (cutV (sgV (Sg.ends u v y w)) (some (3)) none)) = G2 at e2 f2
      have hp_2 := e2 _ _ hp_1
      have f1_2 := e2 _ _ f1
      have sm2 : Same H G2 := fun b o z => e2 b o (sm1 b o z)
      refine ⟨t1, t2, _, _, rfl, rfl, .inl (.inl f1_2), .inl (.inl f2), tl2 (show 3 ≤ 100 by decide) (show 2 ≤ 100 by decide), fun z => (by cases z), fun _ z => (by cases z), fun _ _ t3 ht3 => ?_⟩
      have e3 := same_new (o := .tup (([.str "ends", VS v, VS u]) ++ (cutV (sgV (Sg.ends u v y w)) (some (3)) none))) ht3
      have f3 : upd G2 t3 (.tup (([.str "ends", VS v, VS u]) ++ (cutV (sgV (Sg.ends u v y w)) (some (3)) none))) t3 = some (.tup (([.str "ends", VS v, VS u]) ++ (cutV (sgV (Sg.ends u v y w)) (some (3)) none))) := upd_same
      generalize upd G2 t3 (.tup (([.str "ends", VS v, VS u]) ++ (cutV (sgV (Sg.ends u v y w)) (some (3)) none))) = G3 at e3 f3
      have hp_3 := e3 _ _ hp_2
      have f1_3 := e3 _ _ f1_2
      have f2_3 := e3 _ _ f2
      have sm3 : Same H G3 := fun b o z => e3 b o (sm2 b o z)
      exact q _ t3 sm3 (f3.trans (congrArg (fun z => some (HO.tup z)) (show ([.str "ends", VS v, VS u]) ++ (cutV (sgV (Sg.ends u v y w)) (some (3)) none) = sgV (Sg.ends u v y w).turn from rfl)))
    | counts u x y v =>
      refine ⟨_, rfl, rfl, _, rfl, ?_⟩
      refine itF (by show decide (V.str "counts" = V.str "few") = false; decide +kernel) ?_
      refine ⟨_, rfl, rfl, _, rfl, ?_⟩
      refine itF (by show decide (V.str "counts" = V.str "starts") = false; decide +kernel) ?_
      refine ⟨_, rfl, rfl, _, rfl, ?_⟩
      refine itF (by show decide (V.str "counts" = V.str "ends") = false; decide +kernel) ?_
      refine ⟨_, rfl, rfl, _, rfl, ?_⟩
      refine itT (by show decide (V.str "counts" = V.str "counts") = true; decide +kernel) ?_
      refine ⟨_, rfl, 2, rfl, p, _, rfl, .inl (.inl hp), fun z => (show ¬ (HT.sIx 5 5 (some (2)) = 5) by decide) z.2, fun t1 ht1 => ?_⟩
      have e1 := same_new (o := .tup (cutV (sgV (Sg.counts u x y v)) none (some (2)))) ht1
      have f1 : upd H t1 (.tup (cutV (sgV (Sg.counts u x y v)) none (some (2)))) t1 = some (.tup (cutV (sgV (Sg.counts u x y v)) none (some (2)))) := upd_same
      generalize upd H t1 (.tup (cutV (sgV (Sg.counts u x y v)) none (some (2)))) = G1 at e1 f1
      have hp_1 := e1 _ _ hp
      have sm1 : Same H G1 := e1
      refine ⟨_, rfl, p, _, 3, VS y, rfl, rfl, .inl (.inl hp_1), atI_nat (j := 3) rfl, _, rfl, p, _, 2, VS x, rfl, rfl, .inl (.inl hp_1), atI_nat (j := 2) rfl, _, rfl, p, _, 4, VS v, rfl, rfl, .inl (.inl hp_1), atI_nat (j := 4) rfl, z3, fun t2 ht2 => ?_⟩
      have e2 := same_new (o := .tup ([VS y, VS x, VS v])) ht2
      have f2 : upd G1 t2 (.tup ([VS y, VS x, VS v])) t2 = some (.tup ([VS y, VS x, VS v])) := upd_same
      generalize upd G1 t2 (.tup ([VS y, VS x, VS v])) = G2 at e2 f2
      have hp_2 := e2 _ _ hp_1
      have f1_2 := e2 _ _ f1
      have sm2 : Same H G2 := fun b o z => e2 b o (sm1 b o z)
      refine ⟨t1, t2, _, _, rfl, rfl, .inl (.inl f1_2), .inl (.inl f2), tl2 (show 2 ≤ 100 by decide) (show 3 ≤ 100 by decide), fun z => (by cases z), fun _ z => (by cases z), fun _ _ t3 ht3 => ?_⟩
      have e3 := same_new (o := .tup ((cutV (sgV (Sg.counts u x y v)) none (some (2))) ++ ([VS y, VS x, VS v]))) ht3
      have f3 : upd G2 t3 (.tup ((cutV (sgV (Sg.counts u x y v)) none (some (2))) ++ ([VS y, VS x, VS v]))) t3 = some (.tup ((cutV (sgV (Sg.counts u x y v)) none (some (2))) ++ ([VS y, VS x, VS v]))) := upd_same
      generalize upd G2 t3 (.tup ((cutV (sgV (Sg.counts u x y v)) none (some (2))) ++ ([VS y, VS x, VS v]))) = G3 at e3 f3
      have hp_3 := e3 _ _ hp_2
      have f1_3 := e3 _ _ f1_2
      have f2_3 := e3 _ _ f2
      have sm3 : Same H G3 := fun b o z => e3 b o (sm2 b o z)
      exact q _ t3 sm3 (f3.trans (congrArg (fun z => some (HO.tup z)) (show (cutV (sgV (Sg.counts u x y v)) none (some (2))) ++ ([VS y, VS x, VS v]) = sgV (Sg.counts u x y v).turn from rfl)))
    | subwords r f u x y v =>
      refine ⟨_, rfl, rfl, _, rfl, ?_⟩
      refine itF (by show decide (V.str "subwords" = V.str "few") = false; decide +kernel) ?_
      refine ⟨_, rfl, rfl, _, rfl, ?_⟩
      refine itF (by show decide (V.str "subwords" = V.str "starts") = false; decide +kernel) ?_
      refine ⟨_, rfl, rfl, _, rfl, ?_⟩
      refine itF (by show decide (V.str "subwords" = V.str "ends") = false; decide +kernel) ?_
      refine ⟨_, rfl, rfl, _, rfl, ?_⟩
      refine itF (by show decide (V.str "subwords" = V.str "counts") = false; decide +kernel) ?_
      refine ⟨_, rfl, rfl, _, rfl, ?_⟩
      refine itT (by show decide (V.str "subwords" = V.str "subwords") = true; decide +kernel) ?_
      refine ⟨_, rfl, _, rfl, _, rfl, p, _, rfl, .inl (.inl hp), fun z => (show ¬ (HT.sIx 7 7 (some (2)) = 7) by decide) z.2, fun t1 ht1 => ?_⟩
      have e1 := same_new (o := .tup (cutV (sgV (Sg.subwords r f u x y v)) none (some (2)))) ht1
      have f1 : upd H t1 (.tup (cutV (sgV (Sg.subwords r f u x y v)) none (some (2)))) t1 = some (.tup (cutV (sgV (Sg.subwords r f u x y v)) none (some (2)))) := upd_same
      generalize upd H t1 (.tup (cutV (sgV (Sg.subwords r f u x y v)) none (some (2)))) = G1 at e1 f1
      have hp_1 := e1 _ _ hp
      have sm1 : Same H G1 := e1
      refine ⟨_, rfl, _, rfl, p, _, _, .bl f, rfl, rfl, .inl (.inl hp_1), atI_nat (j := 2) rfl, f, rfl, by show 1 ≤ 2 ^ 24; decide, fun t2 ht2 => ?_⟩
      have e2 := same_new (o := .tup ([.bl (!f)])) ht2
      have f2 : upd G1 t2 (.tup ([.bl (!f)])) t2 = some (.tup ([.bl (!f)])) := upd_same
      generalize upd G1 t2 (.tup ([.bl (!f)])) = G2 at e2 f2
      have hp_2 := e2 _ _ hp_1
      have f1_2 := e2 _ _ f1
      have sm2 : Same H G2 := fun b o z => e2 b o (sm1 b o z)
      refine ⟨t1, t2, _, _, rfl, rfl, .inl (.inl f1_2), .inl (.inl f2), tl2 (show 2 ≤ 100 by decide) (show 1 ≤ 100 by decide), fun z => (by cases z), fun _ z => (by cases z), fun _ _ t3 ht3 => ?_⟩
      have e3 := same_new (o := .tup ((cutV (sgV (Sg.subwords r f u x y v)) none (some (2))) ++ ([.bl (!f)]))) ht3
      have f3 : upd G2 t3 (.tup ((cutV (sgV (Sg.subwords r f u x y v)) none (some (2))) ++ ([.bl (!f)]))) t3 = some (.tup ((cutV (sgV (Sg.subwords r f u x y v)) none (some (2))) ++ ([.bl (!f)]))) := upd_same
      generalize upd G2 t3 (.tup ((cutV (sgV (Sg.subwords r f u x y v)) none (some (2))) ++ ([.bl (!f)]))) = G3 at e3 f3
      have hp_3 := e3 _ _ hp_2
      have f1_3 := e3 _ _ f1_2
      have f2_3 := e3 _ _ f2
      have sm3 : Same H G3 := fun b o z => e3 b o (sm2 b o z)
      refine ⟨_, rfl, _, rfl, _, _, rfl, rfl, _, rfl, p, _, rfl, .inl (.inl hp_3), fun z => (show ¬ (HT.sIx 7 0 (some (2 + 1)) = 0) by decide) z.1, fun t4 ht4 => ?_⟩
      have e4 := same_new (o := .tup (cutV (sgV (Sg.subwords r f u x y v)) (some (2 + 1)) none)) ht4
      have f4 : upd G3 t4 (.tup (cutV (sgV (Sg.subwords r f u x y v)) (some (2 + 1)) none)) t4 = some (.tup (cutV (sgV (Sg.subwords r f u x y v)) (some (2 + 1)) none)) := upd_same
      generalize upd G3 t4 (.tup (cutV (sgV (Sg.subwords r f u x y v)) (some (2 + 1)) none)) = G4 at e4 f4
      have hp_4 := e4 _ _ hp_3
      have f1_4 := e4 _ _ f1_3
      have f2_4 := e4 _ _ f2_3
      have f3_4 := e4 _ _ f3
      have sm4 : Same H G4 := fun b o z => e4 b o (sm3 b o z)
      refine ⟨t3, t4, _, _, rfl, rfl, .inl (.inl f3_4), .inl (.inl f4), tl2 (show 3 ≤ 100 by decide) (show 4 ≤ 100 by decide), fun z => (by cases z), fun _ z => (by cases z), fun _ _ t5 ht5 => ?_⟩
      have e5 := same_new (o := .tup (((cutV (sgV (Sg.subwords r f u x y v)) none (some (2))) ++ ([.bl (!f)])) ++ (cutV (sgV (Sg.subwords r f u x y v)) (some (2 + 1)) none))) ht5
      have f5 : upd G4 t5 (.tup (((cutV (sgV (Sg.subwords r f u x y v)) none (some (2))) ++ ([.bl (!f)])) ++ (cutV (sgV (Sg.subwords r f u x y v)) (some (2 + 1)) none))) t5 = some (.tup (((cutV (sgV (Sg.subwords r f u x y v)) none (some (2))) ++ ([.bl (!f)])) ++ (cutV (sgV (Sg.subwords r f u x y v)) (some (2 + 1)) none))) := upd_same
      generalize upd G4 t5 (.tup (((cutV (sgV (Sg.subwords r f u x y v)) none (some (2))) ++ ([.bl (!f)])) ++ (cutV (sgV (Sg.subwords r f u x y v)) (some (2 + 1)) none))) = G5 at e5 f5
      have hp_5 := e5 _ _ hp_4
      have f1_5 := e5 _ _ f1_4
      have f2_5 := e5 _ _ f2_4
      have f3_5 := e5 _ _ f3_4
      have f4_5 := e5 _ _ f4
      have sm5 : Same H G5 := fun b o z => e5 b o (sm4 b o z)
      exact q _ t5 sm5 (f5.trans (congrArg (fun z => some (HO.tup z)) (show ((cutV (sgV (Sg.subwords r f u x y v)) none (some (2))) ++ ([.bl (!f)])) ++ (cutV (sgV (Sg.subwords r f u x y v)) (some (2 + 1)) none) = sgV (Sg.subwords r f u x y v).turn from rfl)))
    | falling f u x y v =>
      refine ⟨_, rfl, rfl, _, rfl, ?_⟩
      refine itF (by show decide (V.str "falling" = V.str "few") = false; decide +kernel) ?_
      refine ⟨_, rfl, rfl, _, rfl, ?_⟩
      refine itF (by show decide (V.str "falling" = V.str "starts") = false; decide +kernel) ?_
      refine ⟨_, rfl, rfl, _, rfl, ?_⟩
      refine itF (by show decide (V.str "falling" = V.str "ends") = false; decide +kernel) ?_
      refine ⟨_, rfl, rfl, _, rfl, ?_⟩
      refine itF (by show decide (V.str "falling" = V.str "counts") = false; decide +kernel) ?_
      refine ⟨_, rfl, rfl, _, rfl, ?_⟩
      refine itF (by show decide (V.str "falling" = V.str "subwords") = false; decide +kernel) ?_
      refine ⟨_, rfl, _, rfl, _, rfl, p, _, rfl, .inl (.inl hp), fun z => (show ¬ (HT.sIx 6 6 (some (1)) = 6) by decide) z.2, fun t1 ht1 => ?_⟩
      have e1 := same_new (o := .tup (cutV (sgV (Sg.falling f u x y v)) none (some (1)))) ht1
      have f1 : upd H t1 (.tup (cutV (sgV (Sg.falling f u x y v)) none (some (1)))) t1 = some (.tup (cutV (sgV (Sg.falling f u x y v)) none (some (1)))) := upd_same
      generalize upd H t1 (.tup (cutV (sgV (Sg.falling f u x y v)) none (some (1)))) = G1 at e1 f1
      have hp_1 := e1 _ _ hp
      have sm1 : Same H G1 := e1
      refine ⟨_, rfl, _, rfl, p, _, _, .bl f, rfl, rfl, .inl (.inl hp_1), atI_nat (j := 1) rfl, f, rfl, by show 1 ≤ 2 ^ 24; decide, fun t2 ht2 => ?_⟩
      have e2 := same_new (o := .tup ([.bl (!f)])) ht2
      have f2 : upd G1 t2 (.tup ([.bl (!f)])) t2 = some (.tup ([.bl (!f)])) := upd_same
      generalize upd G1 t2 (.tup ([.bl (!f)])) = G2 at e2 f2
      have hp_2 := e2 _ _ hp_1
      have f1_2 := e2 _ _ f1
      have sm2 : Same H G2 := fun b o z => e2 b o (sm1 b o z)
      refine ⟨t1, t2, _, _, rfl, rfl, .inl (.inl f1_2), .inl (.inl f2), tl2 (show 1 ≤ 100 by decide) (show 1 ≤ 100 by decide), fun z => (by cases z), fun _ z => (by cases z), fun _ _ t3 ht3 => ?_⟩
      have e3 := same_new (o := .tup ((cutV (sgV (Sg.falling f u x y v)) none (some (1))) ++ ([.bl (!f)]))) ht3
      have f3 : upd G2 t3 (.tup ((cutV (sgV (Sg.falling f u x y v)) none (some (1))) ++ ([.bl (!f)]))) t3 = some (.tup ((cutV (sgV (Sg.falling f u x y v)) none (some (1))) ++ ([.bl (!f)]))) := upd_same
      generalize upd G2 t3 (.tup ((cutV (sgV (Sg.falling f u x y v)) none (some (1))) ++ ([.bl (!f)]))) = G3 at e3 f3
      have hp_3 := e3 _ _ hp_2
      have f1_3 := e3 _ _ f1_2
      have f2_3 := e3 _ _ f2
      have sm3 : Same H G3 := fun b o z => e3 b o (sm2 b o z)
      refine ⟨_, rfl, _, rfl, _, _, rfl, rfl, _, rfl, p, _, rfl, .inl (.inl hp_3), fun z => (show ¬ (HT.sIx 6 0 (some (1 + 1)) = 0) by decide) z.1, fun t4 ht4 => ?_⟩
      have e4 := same_new (o := .tup (cutV (sgV (Sg.falling f u x y v)) (some (1 + 1)) none)) ht4
      have f4 : upd G3 t4 (.tup (cutV (sgV (Sg.falling f u x y v)) (some (1 + 1)) none)) t4 = some (.tup (cutV (sgV (Sg.falling f u x y v)) (some (1 + 1)) none)) := upd_same
      generalize upd G3 t4 (.tup (cutV (sgV (Sg.falling f u x y v)) (some (1 + 1)) none)) = G4 at e4 f4
      have hp_4 := e4 _ _ hp_3
      have f1_4 := e4 _ _ f1_3
      have f2_4 := e4 _ _ f2_3
      have f3_4 := e4 _ _ f3
      have sm4 : Same H G4 := fun b o z => e4 b o (sm3 b o z)
      refine ⟨t3, t4, _, _, rfl, rfl, .inl (.inl f3_4), .inl (.inl f4), tl2 (show 2 ≤ 100 by decide) (show 4 ≤ 100 by decide), fun z => (by cases z), fun _ z => (by cases z), fun _ _ t5 ht5 => ?_⟩
      have e5 := same_new (o := .tup (((cutV (sgV (Sg.falling f u x y v)) none (some (1))) ++ ([.bl (!f)])) ++ (cutV (sgV (Sg.falling f u x y v)) (some (1 + 1)) none))) ht5
      have f5 : upd G4 t5 (.tup (((cutV (sgV (Sg.falling f u x y v)) none (some (1))) ++ ([.bl (!f)])) ++ (cutV (sgV (Sg.falling f u x y v)) (some (1 + 1)) none))) t5 = some (.tup (((cutV (sgV (Sg.falling f u x y v)) none (some (1))) ++ ([.bl (!f)])) ++ (cutV (sgV (Sg.falling f u x y v)) (some (1 + 1)) none))) := upd_same
      generalize upd G4 t5 (.tup (((cutV (sgV (Sg.falling f u x y v)) none (some (1))) ++ ([.bl (!f)])) ++ (cutV (sgV (Sg.falling f u x y v)) (some (1 + 1)) none))) = G5 at e5 f5
      have hp_5 := e5 _ _ hp_4
      have f1_5 := e5 _ _ f1_4
      have f2_5 := e5 _ _ f2_4
      have f3_5 := e5 _ _ f3_4
      have f4_5 := e5 _ _ f4
      have sm5 : Same H G5 := fun b o z => e5 b o (sm4 b o z)
      exact q _ t5 sm5 (f5.trans (congrArg (fun z => some (HO.tup z)) (show ((cutV (sgV (Sg.falling f u x y v)) none (some (1))) ++ ([.bl (!f)])) ++ (cutV (sgV (Sg.falling f u x y v)) (some (1 + 1)) none) = sgV (Sg.falling f u x y v).turn from rfl)))
    | turning f u y v =>
      refine ⟨_, rfl, rfl, _, rfl, ?_⟩
      refine itF (by show decide (V.str "turning" = V.str "few") = false; decide +kernel) ?_
      refine ⟨_, rfl, rfl, _, rfl, ?_⟩
      refine itF (by show decide (V.str "turning" = V.str "starts") = false; decide +kernel) ?_
      refine ⟨_, rfl, rfl, _, rfl, ?_⟩
      refine itF (by show decide (V.str "turning" = V.str "ends") = false; decide +kernel) ?_
      refine ⟨_, rfl, rfl, _, rfl, ?_⟩
      refine itF (by show decide (V.str "turning" = V.str "counts") = false; decide +kernel) ?_
      refine ⟨_, rfl, rfl, _, rfl, ?_⟩
      refine itF (by show decide (V.str "turning" = V.str "subwords") = false; decide +kernel) ?_
      refine ⟨_, rfl, _, rfl, _, rfl, p, _, rfl, .inl (.inl hp), fun z => (show ¬ (HT.sIx 5 5 (some (1)) = 5) by decide) z.2, fun t1 ht1 => ?_⟩
      have e1 := same_new (o := .tup (cutV (sgV (Sg.turning f u y v)) none (some (1)))) ht1
      have f1 : upd H t1 (.tup (cutV (sgV (Sg.turning f u y v)) none (some (1)))) t1 = some (.tup (cutV (sgV (Sg.turning f u y v)) none (some (1)))) := upd_same
      generalize upd H t1 (.tup (cutV (sgV (Sg.turning f u y v)) none (some (1)))) = G1 at e1 f1
      have hp_1 := e1 _ _ hp
      have sm1 : Same H G1 := e1
      refine ⟨_, rfl, _, rfl, p, _, _, .bl f, rfl, rfl, .inl (.inl hp_1), atI_nat (j := 1) rfl, f, rfl, by show 1 ≤ 2 ^ 24; decide, fun t2 ht2 => ?_⟩
      have e2 := same_new (o := .tup ([.bl (!f)])) ht2
      have f2 : upd G1 t2 (.tup ([.bl (!f)])) t2 = some (.tup ([.bl (!f)])) := upd_same
      generalize upd G1 t2 (.tup ([.bl (!f)])) = G2 at e2 f2
      have hp_2 := e2 _ _ hp_1
      have f1_2 := e2 _ _ f1
      have sm2 : Same H G2 := fun b o z => e2 b o (sm1 b o z)
      refine ⟨t1, t2, _, _, rfl, rfl, .inl (.inl f1_2), .inl (.inl f2), tl2 (show 1 ≤ 100 by decide) (show 1 ≤ 100 by decide), fun z => (by cases z), fun _ z => (by cases z), fun _ _ t3 ht3 => ?_⟩
      have e3 := same_new (o := .tup ((cutV (sgV (Sg.turning f u y v)) none (some (1))) ++ ([.bl (!f)]))) ht3
      have f3 : upd G2 t3 (.tup ((cutV (sgV (Sg.turning f u y v)) none (some (1))) ++ ([.bl (!f)]))) t3 = some (.tup ((cutV (sgV (Sg.turning f u y v)) none (some (1))) ++ ([.bl (!f)]))) := upd_same
      generalize upd G2 t3 (.tup ((cutV (sgV (Sg.turning f u y v)) none (some (1))) ++ ([.bl (!f)]))) = G3 at e3 f3
      have hp_3 := e3 _ _ hp_2
      have f1_3 := e3 _ _ f1_2
      have f2_3 := e3 _ _ f2
      have sm3 : Same H G3 := fun b o z => e3 b o (sm2 b o z)
      refine ⟨_, rfl, _, rfl, _, _, rfl, rfl, _, rfl, p, _, rfl, .inl (.inl hp_3), fun z => (show ¬ (HT.sIx 5 0 (some (1 + 1)) = 0) by decide) z.1, fun t4 ht4 => ?_⟩
      have e4 := same_new (o := .tup (cutV (sgV (Sg.turning f u y v)) (some (1 + 1)) none)) ht4
      have f4 : upd G3 t4 (.tup (cutV (sgV (Sg.turning f u y v)) (some (1 + 1)) none)) t4 = some (.tup (cutV (sgV (Sg.turning f u y v)) (some (1 + 1)) none)) := upd_same
      generalize upd G3 t4 (.tup (cutV (sgV (Sg.turning f u y v)) (some (1 + 1)) none)) = G4 at e4 f4
      have hp_4 := e4 _ _ hp_3
      have f1_4 := e4 _ _ f1_3
      have f2_4 := e4 _ _ f2_3
      have f3_4 := e4 _ _ f3
      have sm4 : Same H G4 := fun b o z => e4 b o (sm3 b o z)
      refine ⟨t3, t4, _, _, rfl, rfl, .inl (.inl f3_4), .inl (.inl f4), tl2 (show 2 ≤ 100 by decide) (show 3 ≤ 100 by decide), fun z => (by cases z), fun _ z => (by cases z), fun _ _ t5 ht5 => ?_⟩
      have e5 := same_new (o := .tup (((cutV (sgV (Sg.turning f u y v)) none (some (1))) ++ ([.bl (!f)])) ++ (cutV (sgV (Sg.turning f u y v)) (some (1 + 1)) none))) ht5
      have f5 : upd G4 t5 (.tup (((cutV (sgV (Sg.turning f u y v)) none (some (1))) ++ ([.bl (!f)])) ++ (cutV (sgV (Sg.turning f u y v)) (some (1 + 1)) none))) t5 = some (.tup (((cutV (sgV (Sg.turning f u y v)) none (some (1))) ++ ([.bl (!f)])) ++ (cutV (sgV (Sg.turning f u y v)) (some (1 + 1)) none))) := upd_same
      generalize upd G4 t5 (.tup (((cutV (sgV (Sg.turning f u y v)) none (some (1))) ++ ([.bl (!f)])) ++ (cutV (sgV (Sg.turning f u y v)) (some (1 + 1)) none))) = G5 at e5 f5
      have hp_5 := e5 _ _ hp_4
      have f1_5 := e5 _ _ f1_4
      have f2_5 := e5 _ _ f2_4
      have f3_5 := e5 _ _ f3_4
      have f4_5 := e5 _ _ f4
      have sm5 : Same H G5 := fun b o z => e5 b o (sm4 b o z)
      exact q _ t5 sm5 (f5.trans (congrArg (fun z => some (HO.tup z)) (show ((cutV (sgV (Sg.turning f u y v)) none (some (1))) ++ ([.bl (!f)])) ++ (cutV (sgV (Sg.turning f u y v)) (some (1 + 1)) none) = sgV (Sg.turning f u y v).turn from rfl)))
def spAhead : Sp := fun vs H Q _ => ∃ (ls : Wd) (p : Addr) (b : Wd) (g : Sg), vs = [.ref p, VS b] ∧ H p = some (.tup (sgV g)) ∧ g.ok ls 3900 ∧ b.length ≤ 4 ∧ ∀ H' q, Same H H' → H' q = some (.tup (sgV (g.lead b))) → Q (.ref q) H'
theorem ok_q_ahead (T : Tx K mg CM CA CW CG) : Pr P w K mg base CX0 1 "_law_ahead" P_q_ahead [] spAhead := by
  refine T.d_q_ahead.pr sc_q_ahead (fun _ _ _ _ _ _ us hl => match us, hl with | [_, _], _ => rfl) (fun vs H Q E h => ?_) (fun f cdv A outer s H vs Q E hr h => ?_)
  · obtain ⟨ls, p, b, g, rfl, _⟩ := h; rfl
  · obtain ⟨ls, p, b, g, rfl, hp, hok, hb, q⟩ := h
    refine ⟨_, (PSs.nox (pss_cons (ps_par (i := 2) (j := 3) (by rfl) sc_q_ahead.nd rfl rfl (by decide) rfl rfl (pa_cons (pe_ix ix_tup (pv 0) pe_int (fun _ _ => rfl)) (pa_cons pe_int pa_nil)) (by rfl))
 (pss_cons (ps_if (pt_cmpR op_in_seq (pv 2) (pe_tup (pa_cons pe_str (pa_cons pe_str (pa_cons pe_str pa_nil)))) (by rfl))
 (pss_one (ps_set (i := 3) sc_q_ahead.nd rfl (Or.inl rfl) (pe_ifExp (pt_cmpR op_eq (pv 2) pe_str (nomark _)) pe_int pe_int)))
 pss_nil)
 (pss_cons (ps_set (i := 4) sc_q_ahead.nd rfl (Or.inl rfl) (pe_op op_catA (pe_op op_catA (pe_slice sl_tup (pv 0) po_none (po_some (pv 3))) (pe_tup (pa_cons (pe_op op_add_str (pv 1) (pe_ix ix_tup (pv 0) (pv 3) (fun _ _ => rfl))) pa_nil))) (pe_slice sl_tup (pv 0) (po_some (pe_op op_add (pv 3) pe_int)) po_none)))
 (pss_cons (ps_if (pt_cmpR op_eq (pv 2) pe_str (nomark _))
 (pss_one (ps_set (i := 4) sc_q_ahead.nd rfl (Or.inl rfl) (pe_op op_catA (pe_op op_catA (pe_slice sl_tup (pv 4) po_none (po_some pe_int)) (pe_tup (pa_cons (pe_op op_add_str (pv 1) (pe_ix ix_tup (pv 0) pe_int (fun _ _ => rfl))) pa_nil))) (pe_slice sl_tup (pv 4) (po_some pe_int) po_none))))
 pss_nil)
 (pss_one (ps_ret (pe_ifExp (pt_cmpR op_eq (pv 2) pe_str (nomark _)) (pe_op op_catA (pe_op op_catA (pe_slice sl_tup (pv 4) po_none (po_some pe_int)) (pe_tup (pa_cons (pe_op op_add_str (pv 1) (pe_ix ix_tup (pv 0) pe_int (fun _ _ => rfl))) pa_nil))) (pe_slice sl_tup (pv 4) (po_some pe_int) po_none)) (pv 4))))))))), ?_⟩
    refine ⟨_, rfl, p, _, 0, _, rfl, rfl, .inl (.inl hp), atI_nat (j := 0) (sgV_head g), _, _, rfl, ?_⟩
    cases g with
    | few u y v s z t =>
      obtain ⟨⟨_, h1⟩, ⟨_, h2⟩, _, ⟨_, h3⟩, ⟨_, h4⟩, ⟨_, h5⟩, _, ⟨_, h6⟩⟩ := hok
      refine ⟨_, rfl, z3, fun t0 ht0 => ⟨t0, _, rfl, .inr (.inl (.inl upd_same)), rfl, rfl, _, rfl, ?_⟩⟩
      refine itF (by show inV (V.str "few") [V.str "subwords", V.str "falling", V.str "turning"] = false; decide +kernel) ?_
      have e1 := same_new (o := .tup ([V.str "subwords", V.str "falling", V.str "turning"])) ht0
      have f1 : upd H t0 (.tup ([V.str "subwords", V.str "falling", V.str "turning"])) t0 = some (.tup ([V.str "subwords", V.str "falling", V.str "turning"])) := upd_same
      generalize upd H t0 (.tup ([V.str "subwords", V.str "falling", V.str "turning"])) = G1 at e1 f1
      have hp_1 := e1 _ _ hp
      have sm1 : Same H G1 := e1
      refine ⟨_, rfl, _, rfl, _, rfl, p, _, rfl, .inl (.inl hp_1), fun z => (show ¬ (HT.sIx 7 7 (some (1)) = 7) by decide) z.2, fun t1 ht1 => ?_⟩
      have e2 := same_new (o := .tup (cutV (sgV (Sg.few u y v s z t)) none (some (1)))) ht1
      have f2 : upd G1 t1 (.tup (cutV (sgV (Sg.few u y v s z t)) none (some (1)))) t1 = some (.tup (cutV (sgV (Sg.few u y v s z t)) none (some (1)))) := upd_same
      generalize upd G1 t1 (.tup (cutV (sgV (Sg.few u y v s z t)) none (some (1)))) = G2 at e2 f2
      have hp_2 := e2 _ _ hp_1
      have f1_2 := e2 _ _ f1
      have sm2 : Same H G2 := fun b o z => e2 b o (sm1 b o z)
      refine ⟨_, rfl, _, rfl, _, rfl, p, _, _, VS u, rfl, rfl, .inl (.inl hp_2), atI_nat (j := 1) rfl, _, _, rfl, rfl, s4 (by omega) (by omega), ?_⟩
      rw [S_app]
      refine ⟨by show 1 ≤ 2 ^ 24; decide, fun t2 ht2 => ?_⟩
      have e3 := same_new (o := .tup ([VS (b ++ u)])) ht2
      have f3 : upd G2 t2 (.tup ([VS (b ++ u)])) t2 = some (.tup ([VS (b ++ u)])) := upd_same
      generalize upd G2 t2 (.tup ([VS (b ++ u)])) = G3 at e3 f3
      have hp_3 := e3 _ _ hp_2
      have f1_3 := e3 _ _ f1_2
      have f2_3 := e3 _ _ f2
      have sm3 : Same H G3 := fun b o z => e3 b o (sm2 b o z)
      refine ⟨t1, t2, _, _, rfl, rfl, .inl (.inl f2_3), .inl (.inl f3), tl2 (show 1 ≤ 100 by decide) (show 1 ≤ 100 by decide), fun z => (by cases z), fun _ z => (by cases z), fun _ _ t3 ht3 => ?_⟩
      have e4 := same_new (o := .tup ((cutV (sgV (Sg.few u y v s z t)) none (some (1))) ++ ([VS (b ++ u)]))) ht3
      have f4 : upd G3 t3 (.tup ((cutV (sgV (Sg.few u y v s z t)) none (some (1))) ++ ([VS (b ++ u)]))) t3 = some (.tup ((cutV (sgV (Sg.few u y v s z t)) none (some (1))) ++ ([VS (b ++ u)]))) := upd_same
      generalize upd G3 t3 (.tup ((cutV (sgV (Sg.few u y v s z t)) none (some (1))) ++ ([VS (b ++ u)]))) = G4 at e4 f4
      have hp_4 := e4 _ _ hp_3
      have f1_4 := e4 _ _ f1_3
      have f2_4 := e4 _ _ f2_3
      have f3_4 := e4 _ _ f3
      have sm4 : Same H G4 := fun b o z => e4 b o (sm3 b o z)
      refine ⟨_, rfl, _, rfl, _, _, rfl, rfl, _, rfl, p, _, rfl, .inl (.inl hp_4), fun z => (show ¬ (HT.sIx 7 0 (some (1 + 1)) = 0) by decide) z.1, fun t4 ht4 => ?_⟩
      have e5 := same_new (o := .tup (cutV (sgV (Sg.few u y v s z t)) (some (1 + 1)) none)) ht4
      have f5 : upd G4 t4 (.tup (cutV (sgV (Sg.few u y v s z t)) (some (1 + 1)) none)) t4 = some (.tup (cutV (sgV (Sg.few u y v s z t)) (some (1 + 1)) none)) := upd_same
      generalize upd G4 t4 (.tup (cutV (sgV (Sg.few u y v s z t)) (some (1 + 1)) none)) = G5 at e5 f5
      have hp_5 := e5 _ _ hp_4
      have f1_5 := e5 _ _ f1_4
      have f2_5 := e5 _ _ f2_4
      have f3_5 := e5 _ _ f3_4
      have f4_5 := e5 _ _ f4
      have sm5 : Same H G5 := fun b o z => e5 b o (sm4 b o z)
      refine ⟨t3, t4, _, _, rfl, rfl, .inl (.inl f4_5), .inl (.inl f5), tl2 (show 2 ≤ 100 by decide) (show 5 ≤ 100 by decide), fun z => (by cases z), fun _ z => (by cases z), fun _ _ t5 ht5 => ?_⟩
      have e6 := same_new (o := .tup (((cutV (sgV (Sg.few u y v s z t)) none (some (1))) ++ ([VS (b ++ u)])) ++ (cutV (sgV (Sg.few u y v s z t)) (some (1 + 1)) none))) ht5
      have f6 : upd G5 t5 (.tup (((cutV (sgV (Sg.few u y v s z t)) none (some (1))) ++ ([VS (b ++ u)])) ++ (cutV (sgV (Sg.few u y v s z t)) (some (1 + 1)) none))) t5 = some (.tup (((cutV (sgV (Sg.few u y v s z t)) none (some (1))) ++ ([VS (b ++ u)])) ++ (cutV (sgV (Sg.few u y v s z t)) (some (1 + 1)) none))) := upd_same
      generalize upd G5 t5 (.tup (((cutV (sgV (Sg.few u y v s z t)) none (some (1))) ++ ([VS (b ++ u)])) ++ (cutV (sgV (Sg.few u y v s z t)) (some (1 + 1)) none))) = G6 at e6 f6
      have hp_6 := e6 _ _ hp_5
      have f1_6 := e6 _ _ f1_5
      have f2_6 := e6 _ _ f2_5
      have f3_6 := e6 _ _ f3_5
      have f4_6 := e6 _ _ f4_5
      have f5_6 := e6 _ _ f5
      have sm6 : Same H G6 := fun b o z => e6 b o (sm5 b o z)
      refine ⟨_, rfl, rfl, _, rfl, ?_⟩
      refine itT (by show decide (V.str "few" = V.str "few") = true; decide +kernel) ?_
      refine ⟨_, rfl, 4, rfl, t5, _, rfl, .inl (.inl f6), fun z => (show ¬ (HT.sIx 7 7 (some (4)) = 7) by decide) z.2, fun t6 ht6 => ?_⟩
      have e7 := same_new (o := .tup (cutV (((cutV (sgV (Sg.few u y v s z t)) none (some (1))) ++ ([VS (b ++ u)])) ++ (cutV (sgV (Sg.few u y v s z t)) (some (1 + 1)) none)) none (some (4)))) ht6
      have f7 : upd G6 t6 (.tup (cutV (((cutV (sgV (Sg.few u y v s z t)) none (some (1))) ++ ([VS (b ++ u)])) ++ (cutV (sgV (Sg.few u y v s z t)) (some (1 + 1)) none)) none (some (4)))) t6 = some (.tup (cutV (((cutV (sgV (Sg.few u y v s z t)) none (some (1))) ++ ([VS (b ++ u)])) ++ (cutV (sgV (Sg.few u y v s z t)) (some (1 + 1)) none)) none (some (4)))) := upd_same
      generalize upd G6 t6 (.tup (cutV (((cutV (sgV (Sg.few u y v s z t)) none (some (1))) ++ ([VS (b ++ u)])) ++ (cutV (sgV (Sg.few u y v s z t)) (some (1 + 1)) none)) none (some (4)))) = G7 at e7 f7
      have hp_7 := e7 _ _ hp_6
      have f1_7 := e7 _ _ f1_6
      have f2_7 := e7 _ _ f2_6
      have f3_7 := e7 _ _ f3_6
      have f4_7 := e7 _ _ f4_6
      have f5_7 := e7 _ _ f5_6
      have f6_7 := e7 _ _ f6
      have sm7 : Same H G7 := fun b o z => e7 b o (sm6 b o z)
      refine ⟨_, rfl, _, rfl, p, _, 4, VS s, rfl, rfl, .inl (.inl hp_7), atI_nat (j := 4) rfl, _, _, rfl, rfl, s4 (by omega) (by omega), ?_⟩
      rw [S_app]
      refine ⟨by show 1 ≤ 2 ^ 24; decide, fun t7 ht7 => ?_⟩
      have e8 := same_new (o := .tup ([VS (b ++ s)])) ht7
      have f8 : upd G7 t7 (.tup ([VS (b ++ s)])) t7 = some (.tup ([VS (b ++ s)])) := upd_same
      generalize upd G7 t7 (.tup ([VS (b ++ s)])) = G8 at e8 f8
      have hp_8 := e8 _ _ hp_7
      have f1_8 := e8 _ _ f1_7
      have f2_8 := e8 _ _ f2_7
      have f3_8 := e8 _ _ f3_7
      have f4_8 := e8 _ _ f4_7
      have f5_8 := e8 _ _ f5_7
      have f6_8 := e8 _ _ f6_7
      have f7_8 := e8 _ _ f7
      have sm8 : Same H G8 := fun b o z => e8 b o (sm7 b o z)
      refine ⟨t6, t7, _, _, rfl, rfl, .inl (.inl f7_8), .inl (.inl f8), tl2 (show 4 ≤ 100 by decide) (show 1 ≤ 100 by decide), fun z => (by cases z), fun _ z => (by cases z), fun _ _ t8 ht8 => ?_⟩
      have e9 := same_new (o := .tup ((cutV (((cutV (sgV (Sg.few u y v s z t)) none (some (1))) ++ ([VS (b ++ u)])) ++ (cutV (sgV (Sg.few u y v s z t)) (some (1 + 1)) none)) none (some (4))) ++ ([VS (b ++ s)]))) ht8
      have f9 : upd G8 t8 (.tup ((cutV (((cutV (sgV (Sg.few u y v s z t)) none (some (1))) ++ ([VS (b ++ u)])) ++ (cutV (sgV (Sg.few u y v s z t)) (some (1 + 1)) none)) none (some (4))) ++ ([VS (b ++ s)]))) t8 = some (.tup ((cutV (((cutV (sgV (Sg.few u y v s z t)) none (some (1))) ++ ([VS (b ++ u)])) ++ (cutV (sgV (Sg.few u y v s z t)) (some (1 + 1)) none)) none (some (4))) ++ ([VS (b ++ s)]))) := upd_same
      generalize upd G8 t8 (.tup ((cutV (((cutV (sgV (Sg.few u y v s z t)) none (some (1))) ++ ([VS (b ++ u)])) ++ (cutV (sgV (Sg.few u y v s z t)) (some (1 + 1)) none)) none (some (4))) ++ ([VS (b ++ s)]))) = G9 at e9 f9
      have hp_9 := e9 _ _ hp_8
      have f1_9 := e9 _ _ f1_8
      have f2_9 := e9 _ _ f2_8
      have f3_9 := e9 _ _ f3_8
      have f4_9 := e9 _ _ f4_8
      have f5_9 := e9 _ _ f5_8
      have f6_9 := e9 _ _ f6_8
      have f7_9 := e9 _ _ f7_8
      have f8_9 := e9 _ _ f8
      have sm9 : Same H G9 := fun b o z => e9 b o (sm8 b o z)
      refine ⟨_, rfl, 5, rfl, t5, _, rfl, .inl (.inl f6_9), fun z => (show ¬ (HT.sIx 7 0 (some (5)) = 0) by decide) z.1, fun t9 ht9 => ?_⟩
      have e10 := same_new (o := .tup (cutV (((cutV (sgV (Sg.few u y v s z t)) none (some (1))) ++ ([VS (b ++ u)])) ++ (cutV (sgV (Sg.few u y v s z t)) (some (1 + 1)) none)) (some (5)) none)) ht9
      have f10 : upd G9 t9 (.tup (cutV (((cutV (sgV (Sg.few u y v s z t)) none (some (1))) ++ ([VS (b ++ u)])) ++ (cutV (sgV (Sg.few u y v s z t)) (some (1 + 1)) none)) (some (5)) none)) t9 = some (.tup (cutV (((cutV (sgV (Sg.few u y v s z t)) none (some (1))) ++ ([VS (b ++ u)])) ++ (cutV (sgV (Sg.few u y v s z t)) (some (1 + 1)) none)) (some (5)) none)) := upd_same
      generalize upd G9 t9 (.tup (cutV (((cutV (sgV (Sg.few u y v s z t)) none (some (1))) ++ ([VS (b ++ u)])) ++ (cutV (sgV (Sg.few u y v s z t)) (some (1 + 1)) none)) (some (5)) none)) = G10 at e10 f10
      have hp_10 := e10 _ _ hp_9
      have f1_10 := e10 _ _ f1_9
      have f2_10 := e10 _ _ f2_9
      have f3_10 := e10 _ _ f3_9
      have f4_10 := e10 _ _ f4_9
      have f5_10 := e10 _ _ f5_9
      have f6_10 := e10 _ _ f6_9
      have f7_10 := e10 _ _ f7_9
      have f8_10 := e10 _ _ f8_9
      have f9_10 := e10 _ _ f9
      have sm10 : Same H G10 := fun b o z => e10 b o (sm9 b o z)
      refine ⟨t8, t9, _, _, rfl, rfl, .inl (.inl f9_10), .inl (.inl f10), tl2 (show 5 ≤ 100 by decide) (show 2 ≤ 100 by decide), fun z => (by cases z), fun _ z => (by cases z), fun _ _ t10 ht10 => ?_⟩
      have e11 := same_new (o := .tup (((cutV (((cutV (sgV (Sg.few u y v s z t)) none (some (1))) ++ ([VS (b ++ u)])) ++ (cutV (sgV (Sg.few u y v s z t)) (some (1 + 1)) none)) none (some (4))) ++ ([VS (b ++ s)])) ++ (cutV (((cutV (sgV (Sg.few u y v s z t)) none (some (1))) ++ ([VS (b ++ u)])) ++ (cutV (sgV (Sg.few u y v s z t)) (some (1 + 1)) none)) (some (5)) none))) ht10
      have f11 : upd G10 t10 (.tup (((cutV (((cutV (sgV (Sg.few u y v s z t)) none (some (1))) ++ ([VS (b ++ u)])) ++ (cutV (sgV (Sg.few u y v s z t)) (some (1 + 1)) none)) none (some (4))) ++ ([VS (b ++ s)])) ++ (cutV (((cutV (sgV (Sg.few u y v s z t)) none (some (1))) ++ ([VS (b ++ u)])) ++ (cutV (sgV (Sg.few u y v s z t)) (some (1 + 1)) none)) (some (5)) none))) t10 = some (.tup (((cutV (((cutV (sgV (Sg.few u y v s z t)) none (some (1))) ++ ([VS (b ++ u)])) ++ (cutV (sgV (Sg.few u y v s z t)) (some (1 + 1)) none)) none (some (4))) ++ ([VS (b ++ s)])) ++ (cutV (((cutV (sgV (Sg.few u y v s z t)) none (some (1))) ++ ([VS (b ++ u)])) ++ (cutV (sgV (Sg.few u y v s z t)) (some (1 + 1)) none)) (some (5)) none))) := upd_same
      generalize upd G10 t10 (.tup (((cutV (((cutV (sgV (Sg.few u y v s z t)) none (some (1))) ++ ([VS (b ++ u)])) ++ (cutV (sgV (Sg.few u y v s z t)) (some (1 + 1)) none)) none (some (4))) ++ ([VS (b ++ s)])) ++ (cutV (((cutV (sgV (Sg.few u y v s z t)) none (some (1))) ++ ([VS (b ++ u)])) ++ (cutV (sgV (Sg.few u y v s z t)) (some (1 + 1)) none)) (some (5)) none))) = G11 at e11 f11
      have hp_11 := e11 _ _ hp_10
      have f1_11 := e11 _ _ f1_10
      have f2_11 := e11 _ _ f2_10
      have f3_11 := e11 _ _ f3_10
      have f4_11 := e11 _ _ f4_10
      have f5_11 := e11 _ _ f5_10
      have f6_11 := e11 _ _ f6_10
      have f7_11 := e11 _ _ f7_10
      have f8_11 := e11 _ _ f8_10
      have f9_11 := e11 _ _ f9_10
      have f10_11 := e11 _ _ f10
      have sm11 : Same H G11 := fun b o z => e11 b o (sm10 b o z)
      refine ⟨_, rfl, rfl, _, rfl, ?_⟩
      refine itF (by show decide (V.str "few" = V.str "ends") = false; decide +kernel) ?_
      exact ⟨_, rfl, q _ t10 sm11 (f11.trans (congrArg (fun z => some (HO.tup z)) (show ((cutV (((cutV (sgV (Sg.few u y v s z t)) none (some (1))) ++ ([VS (b ++ u)])) ++ (cutV (sgV (Sg.few u y v s z t)) (some (1 + 1)) none)) none (some (4))) ++ ([VS (b ++ s)])) ++ (cutV (((cutV (sgV (Sg.few u y v s z t)) none (some (1))) ++ ([VS (b ++ u)])) ++ (cutV (sgV (Sg.few u y v s z t)) (some (1 + 1)) none)) (some (5)) none) = sgV ((Sg.few u y v s z t).lead b) from rfl)))⟩
    | starts u y v w =>
      obtain ⟨⟨_, h1⟩, _⟩ := hok
      refine ⟨_, rfl, z3, fun t0 ht0 => ⟨t0, _, rfl, .inr (.inl (.inl upd_same)), rfl, rfl, _, rfl, ?_⟩⟩
      refine itF (by show inV (V.str "starts") [V.str "subwords", V.str "falling", V.str "turning"] = false; decide +kernel) ?_
      have e1 := same_new (o := .tup ([V.str "subwords", V.str "falling", V.str "turning"])) ht0
      have f1 : upd H t0 (.tup ([V.str "subwords", V.str "falling", V.str "turning"])) t0 = some (.tup ([V.str "subwords", V.str "falling", V.str "turning"])) := upd_same
      generalize upd H t0 (.tup ([V.str "subwords", V.str "falling", V.str "turning"])) = G1 at e1 f1
      have hp_1 := e1 _ _ hp
      have sm1 : Same H G1 := e1
      refine ⟨_, rfl, _, rfl, _, rfl, p, _, rfl, .inl (.inl hp_1), fun z => (show ¬ (HT.sIx 5 5 (some (1)) = 5) by decide) z.2, fun t1 ht1 => ?_⟩
      have e2 := same_new (o := .tup (cutV (sgV (Sg.starts u y v w)) none (some (1)))) ht1
      have f2 : upd G1 t1 (.tup (cutV (sgV (Sg.starts u y v w)) none (some (1)))) t1 = some (.tup (cutV (sgV (Sg.starts u y v w)) none (some (1)))) := upd_same
      generalize upd G1 t1 (.tup (cutV (sgV (Sg.starts u y v w)) none (some (1)))) = G2 at e2 f2
      have hp_2 := e2 _ _ hp_1
      have f1_2 := e2 _ _ f1
      have sm2 : Same H G2 := fun b o z => e2 b o (sm1 b o z)
      refine ⟨_, rfl, _, rfl, _, rfl, p, _, _, VS u, rfl, rfl, .inl (.inl hp_2), atI_nat (j := 1) rfl, _, _, rfl, rfl, s4 (by omega) (by omega), ?_⟩
      rw [S_app]
      refine ⟨by show 1 ≤ 2 ^ 24; decide, fun t2 ht2 => ?_⟩
      have e3 := same_new (o := .tup ([VS (b ++ u)])) ht2
      have f3 : upd G2 t2 (.tup ([VS (b ++ u)])) t2 = some (.tup ([VS (b ++ u)])) := upd_same
      generalize upd G2 t2 (.tup ([VS (b ++ u)])) = G3 at e3 f3
      have hp_3 := e3 _ _ hp_2
      have f1_3 := e3 _ _ f1_2
      have f2_3 := e3 _ _ f2
      have sm3 : Same H G3 := fun b o z => e3 b o (sm2 b o z)
      refine ⟨t1, t2, _, _, rfl, rfl, .inl (.inl f2_3), .inl (.inl f3), tl2 (show 1 ≤ 100 by decide) (show 1 ≤ 100 by decide), fun z => (by cases z), fun _ z => (by cases z), fun _ _ t3 ht3 => ?_⟩
      have e4 := same_new (o := .tup ((cutV (sgV (Sg.starts u y v w)) none (some (1))) ++ ([VS (b ++ u)]))) ht3
      have f4 : upd G3 t3 (.tup ((cutV (sgV (Sg.starts u y v w)) none (some (1))) ++ ([VS (b ++ u)]))) t3 = some (.tup ((cutV (sgV (Sg.starts u y v w)) none (some (1))) ++ ([VS (b ++ u)]))) := upd_same
      generalize upd G3 t3 (.tup ((cutV (sgV (Sg.starts u y v w)) none (some (1))) ++ ([VS (b ++ u)]))) = G4 at e4 f4
      have hp_4 := e4 _ _ hp_3
      have f1_4 := e4 _ _ f1_3
      have f2_4 := e4 _ _ f2_3
      have f3_4 := e4 _ _ f3
      have sm4 : Same H G4 := fun b o z => e4 b o (sm3 b o z)
      refine ⟨_, rfl, _, rfl, _, _, rfl, rfl, _, rfl, p, _, rfl, .inl (.inl hp_4), fun z => (show ¬ (HT.sIx 5 0 (some (1 + 1)) = 0) by decide) z.1, fun t4 ht4 => ?_⟩
      have e5 := same_new (o := .tup (cutV (sgV (Sg.starts u y v w)) (some (1 + 1)) none)) ht4
      have f5 : upd G4 t4 (.tup (cutV (sgV (Sg.starts u y v w)) (some (1 + 1)) none)) t4 = some (.tup (cutV (sgV (Sg.starts u y v w)) (some (1 + 1)) none)) := upd_same
      generalize upd G4 t4 (.tup (cutV (sgV (Sg.starts u y v w)) (some (1 + 1)) none)) = G5 at e5 f5
      have hp_5 := e5 _ _ hp_4
      have f1_5 := e5 _ _ f1_4
      have f2_5 := e5 _ _ f2_4
      have f3_5 := e5 _ _ f3_4
      have f4_5 := e5 _ _ f4
      have sm5 : Same H G5 := fun b o z => e5 b o (sm4 b o z)
      refine ⟨t3, t4, _, _, rfl, rfl, .inl (.inl f4_5), .inl (.inl f5), tl2 (show 2 ≤ 100 by decide) (show 3 ≤ 100 by decide), fun z => (by cases z), fun _ z => (by cases z), fun _ _ t5 ht5 => ?_⟩
      have e6 := same_new (o := .tup (((cutV (sgV (Sg.starts u y v w)) none (some (1))) ++ ([VS (b ++ u)])) ++ (cutV (sgV (Sg.starts u y v w)) (some (1 + 1)) none))) ht5
      have f6 : upd G5 t5 (.tup (((cutV (sgV (Sg.starts u y v w)) none (some (1))) ++ ([VS (b ++ u)])) ++ (cutV (sgV (Sg.starts u y v w)) (some (1 + 1)) none))) t5 = some (.tup (((cutV (sgV (Sg.starts u y v w)) none (some (1))) ++ ([VS (b ++ u)])) ++ (cutV (sgV (Sg.starts u y v w)) (some (1 + 1)) none))) := upd_same
      generalize upd G5 t5 (.tup (((cutV (sgV (Sg.starts u y v w)) none (some (1))) ++ ([VS (b ++ u)])) ++ (cutV (sgV (Sg.starts u y v w)) (some (1 + 1)) none))) = G6 at e6 f6
      have hp_6 := e6 _ _ hp_5
      have f1_6 := e6 _ _ f1_5
      have f2_6 := e6 _ _ f2_5
      have f3_6 := e6 _ _ f3_5
      have f4_6 := e6 _ _ f4_5
      have f5_6 := e6 _ _ f5
      have sm6 : Same H G6 := fun b o z => e6 b o (sm5 b o z)
      refine ⟨_, rfl, rfl, _, rfl, ?_⟩
      refine itF (by show decide (V.str "starts" = V.str "few") = false; decide +kernel) ?_
      refine ⟨_, rfl, rfl, _, rfl, ?_⟩
      refine itF (by show decide (V.str "starts" = V.str "ends") = false; decide +kernel) ?_
      exact ⟨_, rfl, q _ t5 sm6 (f6.trans (congrArg (fun z => some (HO.tup z)) (show ((cutV (sgV (Sg.starts u y v w)) none (some (1))) ++ ([VS (b ++ u)])) ++ (cutV (sgV (Sg.starts u y v w)) (some (1 + 1)) none) = sgV ((Sg.starts u y v w).lead b) from rfl)))⟩
    | ends u v y w =>
      obtain ⟨⟨_, h1⟩, ⟨_, h2⟩, _⟩ := hok
      refine ⟨_, rfl, z3, fun t0 ht0 => ⟨t0, _, rfl, .inr (.inl (.inl upd_same)), rfl, rfl, _, rfl, ?_⟩⟩
      refine itF (by show inV (V.str "ends") [V.str "subwords", V.str "falling", V.str "turning"] = false; decide +kernel) ?_
      have e1 := same_new (o := .tup ([V.str "subwords", V.str "falling", V.str "turning"])) ht0
      have f1 : upd H t0 (.tup ([V.str "subwords", V.str "falling", V.str "turning"])) t0 = some (.tup ([V.str "subwords", V.str "falling", V.str "turning"])) := upd_same
      generalize upd H t0 (.tup ([V.str "subwords", V.str "falling", V.str "turning"])) = G1 at e1 f1
      have hp_1 := e1 _ _ hp
      have sm1 : Same H G1 := e1
      refine ⟨_, rfl, _, rfl, _, rfl, p, _, rfl, .inl (.inl hp_1), fun z => (show ¬ (HT.sIx 5 5 (some (1)) = 5) by decide) z.2, fun t1 ht1 => ?_⟩
      have e2 := same_new (o := .tup (cutV (sgV (Sg.ends u v y w)) none (some (1)))) ht1
      have f2 : upd G1 t1 (.tup (cutV (sgV (Sg.ends u v y w)) none (some (1)))) t1 = some (.tup (cutV (sgV (Sg.ends u v y w)) none (some (1)))) := upd_same
      generalize upd G1 t1 (.tup (cutV (sgV (Sg.ends u v y w)) none (some (1)))) = G2 at e2 f2
      have hp_2 := e2 _ _ hp_1
      have f1_2 := e2 _ _ f1
      have sm2 : Same H G2 := fun b o z => e2 b o (sm1 b o z)
      refine ⟨_, rfl, _, rfl, _, rfl, p, _, _, VS u, rfl, rfl, .inl (.inl hp_2), atI_nat (j := 1) rfl, _, _, rfl, rfl, s4 (by omega) (by omega), ?_⟩
      rw [S_app]
      refine ⟨by show 1 ≤ 2 ^ 24; decide, fun t2 ht2 => ?_⟩
      have e3 := same_new (o := .tup ([VS (b ++ u)])) ht2
      have f3 : upd G2 t2 (.tup ([VS (b ++ u)])) t2 = some (.tup ([VS (b ++ u)])) := upd_same
      generalize upd G2 t2 (.tup ([VS (b ++ u)])) = G3 at e3 f3
      have hp_3 := e3 _ _ hp_2
      have f1_3 := e3 _ _ f1_2
      have f2_3 := e3 _ _ f2
      have sm3 : Same H G3 := fun b o z => e3 b o (sm2 b o z)
      refine ⟨t1, t2, _, _, rfl, rfl, .inl (.inl f2_3), .inl (.inl f3), tl2 (show 1 ≤ 100 by decide) (show 1 ≤ 100 by decide), fun z => (by cases z), fun _ z => (by cases z), fun _ _ t3 ht3 => ?_⟩
      have e4 := same_new (o := .tup ((cutV (sgV (Sg.ends u v y w)) none (some (1))) ++ ([VS (b ++ u)]))) ht3
      have f4 : upd G3 t3 (.tup ((cutV (sgV (Sg.ends u v y w)) none (some (1))) ++ ([VS (b ++ u)]))) t3 = some (.tup ((cutV (sgV (Sg.ends u v y w)) none (some (1))) ++ ([VS (b ++ u)]))) := upd_same
      generalize upd G3 t3 (.tup ((cutV (sgV (Sg.ends u v y w)) none (some (1))) ++ ([VS (b ++ u)]))) = G4 at e4 f4
      have hp_4 := e4 _ _ hp_3
      have f1_4 := e4 _ _ f1_3
      have f2_4 := e4 _ _ f2_3
      have f3_4 := e4 _ _ f3
      have sm4 : Same H G4 := fun b o z => e4 b o (sm3 b o z)
      refine ⟨_, rfl, _, rfl, _, _, rfl, rfl, _, rfl, p, _, rfl, .inl (.inl hp_4), fun z => (show ¬ (HT.sIx 5 0 (some (1 + 1)) = 0) by decide) z.1, fun t4 ht4 => ?_⟩
      have e5 := same_new (o := .tup (cutV (sgV (Sg.ends u v y w)) (some (1 + 1)) none)) ht4
      have f5 : upd G4 t4 (.tup (cutV (sgV (Sg.ends u v y w)) (some (1 + 1)) none)) t4 = some (.tup (cutV (sgV (Sg.ends u v y w)) (some (1 + 1)) none)) := upd_same
      generalize upd G4 t4 (.tup (cutV (sgV (Sg.ends u v y w)) (some (1 + 1)) none)) = G5 at e5 f5
      have hp_5 := e5 _ _ hp_4
      have f1_5 := e5 _ _ f1_4
      have f2_5 := e5 _ _ f2_4
      have f3_5 := e5 _ _ f3_4
      have f4_5 := e5 _ _ f4
      have sm5 : Same H G5 := fun b o z => e5 b o (sm4 b o z)
      refine ⟨t3, t4, _, _, rfl, rfl, .inl (.inl f4_5), .inl (.inl f5), tl2 (show 2 ≤ 100 by decide) (show 3 ≤ 100 by decide), fun z => (by cases z), fun _ z => (by cases z), fun _ _ t5 ht5 => ?_⟩
      have e6 := same_new (o := .tup (((cutV (sgV (Sg.ends u v y w)) none (some (1))) ++ ([VS (b ++ u)])) ++ (cutV (sgV (Sg.ends u v y w)) (some (1 + 1)) none))) ht5
      have f6 : upd G5 t5 (.tup (((cutV (sgV (Sg.ends u v y w)) none (some (1))) ++ ([VS (b ++ u)])) ++ (cutV (sgV (Sg.ends u v y w)) (some (1 + 1)) none))) t5 = some (.tup (((cutV (sgV (Sg.ends u v y w)) none (some (1))) ++ ([VS (b ++ u)])) ++ (cutV (sgV (Sg.ends u v y w)) (some (1 + 1)) none))) := upd_same
      generalize upd G5 t5 (.tup (((cutV (sgV (Sg.ends u v y w)) none (some (1))) ++ ([VS (b ++ u)])) ++ (cutV (sgV (Sg.ends u v y w)) (some (1 + 1)) none))) = G6 at e6 f6
      have hp_6 := e6 _ _ hp_5
      have f1_6 := e6 _ _ f1_5
      have f2_6 := e6 _ _ f2_5
      have f3_6 := e6 _ _ f3_5
      have f4_6 := e6 _ _ f4_5
      have f5_6 := e6 _ _ f5
      have sm6 : Same H G6 := fun b o z => e6 b o (sm5 b o z)
      refine ⟨_, rfl, rfl, _, rfl, ?_⟩
      refine itF (by show decide (V.str "ends" = V.str "few") = false; decide +kernel) ?_
      refine ⟨_, rfl, rfl, _, rfl, ?_⟩
      refine itT (by show decide (V.str "ends" = V.str "ends") = true; decide +kernel) ?_
      refine ⟨_, rfl, 2, rfl, t5, _, rfl, .inl (.inl f6), fun z => (show ¬ (HT.sIx 5 5 (some (2)) = 5) by decide) z.2, fun t6 ht6 => ?_⟩
      have e7 := same_new (o := .tup (cutV (((cutV (sgV (Sg.ends u v y w)) none (some (1))) ++ ([VS (b ++ u)])) ++ (cutV (sgV (Sg.ends u v y w)) (some (1 + 1)) none)) none (some (2)))) ht6
      have f7 : upd G6 t6 (.tup (cutV (((cutV (sgV (Sg.ends u v y w)) none (some (1))) ++ ([VS (b ++ u)])) ++ (cutV (sgV (Sg.ends u v y w)) (some (1 + 1)) none)) none (some (2)))) t6 = some (.tup (cutV (((cutV (sgV (Sg.ends u v y w)) none (some (1))) ++ ([VS (b ++ u)])) ++ (cutV (sgV (Sg.ends u v y w)) (some (1 + 1)) none)) none (some (2)))) := upd_same
      generalize upd G6 t6 (.tup (cutV (((cutV (sgV (Sg.ends u v y w)) none (some (1))) ++ ([VS (b ++ u)])) ++ (cutV (sgV (Sg.ends u v y w)) (some (1 + 1)) none)) none (some (2)))) = G7 at e7 f7
      have hp_7 := e7 _ _ hp_6
      have f1_7 := e7 _ _ f1_6
      have f2_7 := e7 _ _ f2_6
      have f3_7 := e7 _ _ f3_6
      have f4_7 := e7 _ _ f4_6
      have f5_7 := e7 _ _ f5_6
      have f6_7 := e7 _ _ f6
      have sm7 : Same H G7 := fun b o z => e7 b o (sm6 b o z)
      refine ⟨_, rfl, _, rfl, p, _, 2, VS v, rfl, rfl, .inl (.inl hp_7), atI_nat (j := 2) rfl, _, _, rfl, rfl, s4 (by omega) (by omega), ?_⟩
      rw [S_app]
      refine ⟨by show 1 ≤ 2 ^ 24; decide, fun t7 ht7 => ?_⟩
      have e8 := same_new (o := .tup ([VS (b ++ v)])) ht7
      have f8 : upd G7 t7 (.tup ([VS (b ++ v)])) t7 = some (.tup ([VS (b ++ v)])) := upd_same
      generalize upd G7 t7 (.tup ([VS (b ++ v)])) = G8 at e8 f8
      have hp_8 := e8 _ _ hp_7
      have f1_8 := e8 _ _ f1_7
      have f2_8 := e8 _ _ f2_7
      have f3_8 := e8 _ _ f3_7
      have f4_8 := e8 _ _ f4_7
      have f5_8 := e8 _ _ f5_7
      have f6_8 := e8 _ _ f6_7
      have f7_8 := e8 _ _ f7
      have sm8 : Same H G8 := fun b o z => e8 b o (sm7 b o z)
      refine ⟨t6, t7, _, _, rfl, rfl, .inl (.inl f7_8), .inl (.inl f8), tl2 (show 2 ≤ 100 by decide) (show 1 ≤ 100 by decide), fun z => (by cases z), fun _ z => (by cases z), fun _ _ t8 ht8 => ?_⟩
      have e9 := same_new (o := .tup ((cutV (((cutV (sgV (Sg.ends u v y w)) none (some (1))) ++ ([VS (b ++ u)])) ++ (cutV (sgV (Sg.ends u v y w)) (some (1 + 1)) none)) none (some (2))) ++ ([VS (b ++ v)]))) ht8
      have f9 : upd G8 t8 (.tup ((cutV (((cutV (sgV (Sg.ends u v y w)) none (some (1))) ++ ([VS (b ++ u)])) ++ (cutV (sgV (Sg.ends u v y w)) (some (1 + 1)) none)) none (some (2))) ++ ([VS (b ++ v)]))) t8 = some (.tup ((cutV (((cutV (sgV (Sg.ends u v y w)) none (some (1))) ++ ([VS (b ++ u)])) ++ (cutV (sgV (Sg.ends u v y w)) (some (1 + 1)) none)) none (some (2))) ++ ([VS (b ++ v)]))) := upd_same
      generalize upd G8 t8 (.tup ((cutV (((cutV (sgV (Sg.ends u v y w)) none (some (1))) ++ ([VS (b ++ u)])) ++ (cutV (sgV (Sg.ends u v y w)) (some (1 + 1)) none)) none (some (2))) ++ ([VS (b ++ v)]))) = G9 at e9 f9
      have hp_9 := e9 _ _ hp_8
      have f1_9 := e9 _ _ f1_8
      have f2_9 := e9 _ _ f2_8
      have f3_9 := e9 _ _ f3_8
      have f4_9 := e9 _ _ f4_8
      have f5_9 := e9 _ _ f5_8
      have f6_9 := e9 _ _ f6_8
      have f7_9 := e9 _ _ f7_8
      have f8_9 := e9 _ _ f8
      have sm9 : Same H G9 := fun b o z => e9 b o (sm8 b o z)
      refine ⟨_, rfl, 3, rfl, t5, _, rfl, .inl (.inl f6_9), fun z => (show ¬ (HT.sIx 5 0 (some (3)) = 0) by decide) z.1, fun t9 ht9 => ?_⟩
      have e10 := same_new (o := .tup (cutV (((cutV (sgV (Sg.ends u v y w)) none (some (1))) ++ ([VS (b ++ u)])) ++ (cutV (sgV (Sg.ends u v y w)) (some (1 + 1)) none)) (some (3)) none)) ht9
      have f10 : upd G9 t9 (.tup (cutV (((cutV (sgV (Sg.ends u v y w)) none (some (1))) ++ ([VS (b ++ u)])) ++ (cutV (sgV (Sg.ends u v y w)) (some (1 + 1)) none)) (some (3)) none)) t9 = some (.tup (cutV (((cutV (sgV (Sg.ends u v y w)) none (some (1))) ++ ([VS (b ++ u)])) ++ (cutV (sgV (Sg.ends u v y w)) (some (1 + 1)) none)) (some (3)) none)) := upd_same
      generalize upd G9 t9 (.tup (cutV (((cutV (sgV (Sg.ends u v y w)) none (some (1))) ++ ([VS (b ++ u)])) ++ (cutV (sgV (Sg.ends u v y w)) (some (1 + 1)) none)) (some (3)) none)) = G10 at e10 f10
      have hp_10 := e10 _ _ hp_9
      have f1_10 := e10 _ _ f1_9
      have f2_10 := e10 _ _ f2_9
      have f3_10 := e10 _ _ f3_9
      have f4_10 := e10 _ _ f4_9
      have f5_10 := e10 _ _ f5_9
      have f6_10 := e10 _ _ f6_9
      have f7_10 := e10 _ _ f7_9
      have f8_10 := e10 _ _ f8_9
      have f9_10 := e10 _ _ f9
      have sm10 : Same H G10 := fun b o z => e10 b o (sm9 b o z)
      refine ⟨t8, t9, _, _, rfl, rfl, .inl (.inl f9_10), .inl (.inl f10), tl2 (show 3 ≤ 100 by decide) (show 2 ≤ 100 by decide), fun z => (by cases z), fun _ z => (by cases z), fun _ _ t10 ht10 => ?_⟩
      have e11 := same_new (o := .tup (((cutV (((cutV (sgV (Sg.ends u v y w)) none (some (1))) ++ ([VS (b ++ u)])) ++ (cutV (sgV (Sg.ends u v y w)) (some (1 + 1)) none)) none (some (2))) ++ ([VS (b ++ v)])) ++ (cutV (((cutV (sgV (Sg.ends u v y w)) none (some (1))) ++ ([VS (b ++ u)])) ++ (cutV (sgV (Sg.ends u v y w)) (some (1 + 1)) none)) (some (3)) none))) ht10
      have f11 : upd G10 t10 (.tup (((cutV (((cutV (sgV (Sg.ends u v y w)) none (some (1))) ++ ([VS (b ++ u)])) ++ (cutV (sgV (Sg.ends u v y w)) (some (1 + 1)) none)) none (some (2))) ++ ([VS (b ++ v)])) ++ (cutV (((cutV (sgV (Sg.ends u v y w)) none (some (1))) ++ ([VS (b ++ u)])) ++ (cutV (sgV (Sg.ends u v y w)) (some (1 + 1)) none)) (some (3)) none))) t10 = some (.tup (((cutV (((cutV (sgV (Sg.ends u v y w)) none (some (1))) ++ ([VS (b ++ u)])) ++ (cutV (sgV (Sg.ends u v y w)) (some (1 + 1)) none)) none (some (2))) ++ ([VS (b ++ v)])) ++ (cutV (((cutV (sgV (Sg.ends u v y w)) none (some (1))) ++ ([VS (b ++ u)])) ++ (cutV (sgV (Sg.ends u v y w)) (some (1 + 1)) none)) (some (3)) none))) := upd_same
      generalize upd G10 t10 (.tup (((cutV (((cutV (sgV (Sg.ends u v y w)) none (some (1))) ++ ([VS (b ++ u)])) ++ (cutV (sgV (Sg.ends u v y w)) (some (1 + 1)) none)) none (some (2))) ++ ([VS (b ++ v)])) ++ (cutV (((cutV (sgV (Sg.ends u v y w)) none (some (1))) ++ ([VS (b ++ u)])) ++ (cutV (sgV (Sg.ends u v y w)) (some (1 + 1)) none)) (some (3)) none))) = G11 at e11 f11
      have hp_11 := e11 _ _ hp_10
      have f1_11 := e11 _ _ f1_10
      have f2_11 := e11 _ _ f2_10
      have f3_11 := e11 _ _ f3_10
      have f4_11 := e11 _ _ f4_10
      have f5_11 := e11 _ _ f5_10
      have f6_11 := e11 _ _ f6_10
      have f7_11 := e11 _ _ f7_10
      have f8_11 := e11 _ _ f8_10
      have f9_11 := e11 _ _ f9_10
      have f10_11 := e11 _ _ f10
      have sm11 : Same H G11 := fun b o z => e11 b o (sm10 b o z)
      exact q _ t10 sm11 (f11.trans (congrArg (fun z => some (HO.tup z)) (show ((cutV (((cutV (sgV (Sg.ends u v y w)) none (some (1))) ++ ([VS (b ++ u)])) ++ (cutV (sgV (Sg.ends u v y w)) (some (1 + 1)) none)) none (some (2))) ++ ([VS (b ++ v)])) ++ (cutV (((cutV (sgV (Sg.ends u v y w)) none (some (1))) ++ ([VS (b ++ u)])) ++ (cutV (sgV (Sg.ends u v y w)) (some (1 + 1)) none)) (some (3)) none) = sgV ((Sg.ends u v y w).lead b) from rfl)))
    | counts u x y v =>
      obtain ⟨⟨_, h1⟩, _⟩ := hok
      refine ⟨_, rfl, z3, fun t0 ht0 => ⟨t0, _, rfl, .inr (.inl (.inl upd_same)), rfl, rfl, _, rfl, ?_⟩⟩
      refine itF (by show inV (V.str "counts") [V.str "subwords", V.str "falling", V.str "turning"] = false; decide +kernel) ?_
      have e1 := same_new (o := .tup ([V.str "subwords", V.str "falling", V.str "turning"])) ht0
      have f1 : upd H t0 (.tup ([V.str "subwords", V.str "falling", V.str "turning"])) t0 = some (.tup ([V.str "subwords", V.str "falling", V.str "turning"])) := upd_same
      generalize upd H t0 (.tup ([V.str "subwords", V.str "falling", V.str "turning"])) = G1 at e1 f1
      have hp_1 := e1 _ _ hp
      have sm1 : Same H G1 := e1
      refine ⟨_, rfl, _, rfl, _, rfl, p, _, rfl, .inl (.inl hp_1), fun z => (show ¬ (HT.sIx 5 5 (some (1)) = 5) by decide) z.2, fun t1 ht1 => ?_⟩
      have e2 := same_new (o := .tup (cutV (sgV (Sg.counts u x y v)) none (some (1)))) ht1
      have f2 : upd G1 t1 (.tup (cutV (sgV (Sg.counts u x y v)) none (some (1)))) t1 = some (.tup (cutV (sgV (Sg.counts u x y v)) none (some (1)))) := upd_same
      generalize upd G1 t1 (.tup (cutV (sgV (Sg.counts u x y v)) none (some (1)))) = G2 at e2 f2
      have hp_2 := e2 _ _ hp_1
      have f1_2 := e2 _ _ f1
      have sm2 : Same H G2 := fun b o z => e2 b o (sm1 b o z)
      refine ⟨_, rfl, _, rfl, _, rfl, p, _, _, VS u, rfl, rfl, .inl (.inl hp_2), atI_nat (j := 1) rfl, _, _, rfl, rfl, s4 (by omega) (by omega), ?_⟩
      rw [S_app]
      refine ⟨by show 1 ≤ 2 ^ 24; decide, fun t2 ht2 => ?_⟩
      have e3 := same_new (o := .tup ([VS (b ++ u)])) ht2
      have f3 : upd G2 t2 (.tup ([VS (b ++ u)])) t2 = some (.tup ([VS (b ++ u)])) := upd_same
      generalize upd G2 t2 (.tup ([VS (b ++ u)])) = G3 at e3 f3
      have hp_3 := e3 _ _ hp_2
      have f1_3 := e3 _ _ f1_2
      have f2_3 := e3 _ _ f2
      have sm3 : Same H G3 := fun b o z => e3 b o (sm2 b o z)
      refine ⟨t1, t2, _, _, rfl, rfl, .inl (.inl f2_3), .inl (.inl f3), tl2 (show 1 ≤ 100 by decide) (show 1 ≤ 100 by decide), fun z => (by cases z), fun _ z => (by cases z), fun _ _ t3 ht3 => ?_⟩
      have e4 := same_new (o := .tup ((cutV (sgV (Sg.counts u x y v)) none (some (1))) ++ ([VS (b ++ u)]))) ht3
      have f4 : upd G3 t3 (.tup ((cutV (sgV (Sg.counts u x y v)) none (some (1))) ++ ([VS (b ++ u)]))) t3 = some (.tup ((cutV (sgV (Sg.counts u x y v)) none (some (1))) ++ ([VS (b ++ u)]))) := upd_same
      generalize upd G3 t3 (.tup ((cutV (sgV (Sg.counts u x y v)) none (some (1))) ++ ([VS (b ++ u)]))) = G4 at e4 f4
      have hp_4 := e4 _ _ hp_3
      have f1_4 := e4 _ _ f1_3
      have f2_4 := e4 _ _ f2_3
      have f3_4 := e4 _ _ f3
      have sm4 : Same H G4 := fun b o z => e4 b o (sm3 b o z)
      refine ⟨_, rfl, _, rfl, _, _, rfl, rfl, _, rfl, p, _, rfl, .inl (.inl hp_4), fun z => (show ¬ (HT.sIx 5 0 (some (1 + 1)) = 0) by decide) z.1, fun t4 ht4 => ?_⟩
      have e5 := same_new (o := .tup (cutV (sgV (Sg.counts u x y v)) (some (1 + 1)) none)) ht4
      have f5 : upd G4 t4 (.tup (cutV (sgV (Sg.counts u x y v)) (some (1 + 1)) none)) t4 = some (.tup (cutV (sgV (Sg.counts u x y v)) (some (1 + 1)) none)) := upd_same
      generalize upd G4 t4 (.tup (cutV (sgV (Sg.counts u x y v)) (some (1 + 1)) none)) = G5 at e5 f5
      have hp_5 := e5 _ _ hp_4
      have f1_5 := e5 _ _ f1_4
      have f2_5 := e5 _ _ f2_4
      have f3_5 := e5 _ _ f3_4
      have f4_5 := e5 _ _ f4
      have sm5 : Same H G5 := fun b o z => e5 b o (sm4 b o z)
      refine ⟨t3, t4, _, _, rfl, rfl, .inl (.inl f4_5), .inl (.inl f5), tl2 (show 2 ≤ 100 by decide) (show 3 ≤ 100 by decide), fun z => (by cases z), fun _ z => (by cases z), fun _ _ t5 ht5 => ?_⟩
      have e6 := same_new (o := .tup (((cutV (sgV (Sg.counts u x y v)) none (some (1))) ++ ([VS (b ++ u)])) ++ (cutV (sgV (Sg.counts u x y v)) (some (1 + 1)) none))) ht5
      have f6 : upd G5 t5 (.tup (((cutV (sgV (Sg.counts u x y v)) none (some (1))) ++ ([VS (b ++ u)])) ++ (cutV (sgV (Sg.counts u x y v)) (some (1 + 1)) none))) t5 = some (.tup (((cutV (sgV (Sg.counts u x y v)) none (some (1))) ++ ([VS (b ++ u)])) ++ (cutV (sgV (Sg.counts u x y v)) (some (1 + 1)) none))) := upd_same
      generalize upd G5 t5 (.tup (((cutV (sgV (Sg.counts u x y v)) none (some (1))) ++ ([VS (b ++ u)])) ++ (cutV (sgV (Sg.counts u x y v)) (some (1 + 1)) none))) = G6 at e6 f6
      have hp_6 := e6 _ _ hp_5
      have f1_6 := e6 _ _ f1_5
      have f2_6 := e6 _ _ f2_5
      have f3_6 := e6 _ _ f3_5
      have f4_6 := e6 _ _ f4_5
      have f5_6 := e6 _ _ f5
      have sm6 : Same H G6 := fun b o z => e6 b o (sm5 b o z)
      refine ⟨_, rfl, rfl, _, rfl, ?_⟩
      refine itF (by show decide (V.str "counts" = V.str "few") = false; decide +kernel) ?_
      refine ⟨_, rfl, rfl, _, rfl, ?_⟩
      refine itF (by show decide (V.str "counts" = V.str "ends") = false; decide +kernel) ?_
      exact ⟨_, rfl, q _ t5 sm6 (f6.trans (congrArg (fun z => some (HO.tup z)) (show ((cutV (sgV (Sg.counts u x y v)) none (some (1))) ++ ([VS (b ++ u)])) ++ (cutV (sgV (Sg.counts u x y v)) (some (1 + 1)) none) = sgV ((Sg.counts u x y v).lead b) from rfl)))⟩
    | subwords r f u x y v =>
      obtain ⟨⟨_, h1⟩, _⟩ := hok
      refine ⟨_, rfl, z3, fun t0 ht0 => ⟨t0, _, rfl, .inr (.inl (.inl upd_same)), rfl, rfl, _, rfl, ?_⟩⟩
      refine itT (by show inV (V.str "subwords") [V.str "subwords", V.str "falling", V.str "turning"] = true; decide +kernel) ?_
      have e1 := same_new (o := .tup ([V.str "subwords", V.str "falling", V.str "turning"])) ht0
      have f1 : upd H t0 (.tup ([V.str "subwords", V.str "falling", V.str "turning"])) t0 = some (.tup ([V.str "subwords", V.str "falling", V.str "turning"])) := upd_same
      generalize upd H t0 (.tup ([V.str "subwords", V.str "falling", V.str "turning"])) = G1 at e1 f1
      have hp_1 := e1 _ _ hp
      have sm1 : Same H G1 := e1
      refine ⟨_, rfl, rfl, _, rfl, ?_⟩
      refine itT (by show decide (V.str "subwords" = V.str "subwords") = true; decide +kernel) ?_
      refine ⟨_, rfl, _, rfl, _, rfl, p, _, rfl, .inl (.inl hp_1), fun z => (show ¬ (HT.sIx 7 7 (some (3)) = 7) by decide) z.2, fun t1 ht1 => ?_⟩
      have e2 := same_new (o := .tup (cutV (sgV (Sg.subwords r f u x y v)) none (some (3)))) ht1
      have f2 : upd G1 t1 (.tup (cutV (sgV (Sg.subwords r f u x y v)) none (some (3)))) t1 = some (.tup (cutV (sgV (Sg.subwords r f u x y v)) none (some (3)))) := upd_same
      generalize upd G1 t1 (.tup (cutV (sgV (Sg.subwords r f u x y v)) none (some (3)))) = G2 at e2 f2
      have hp_2 := e2 _ _ hp_1
      have f1_2 := e2 _ _ f1
      have sm2 : Same H G2 := fun b o z => e2 b o (sm1 b o z)
      refine ⟨_, rfl, _, rfl, _, rfl, p, _, _, VS u, rfl, rfl, .inl (.inl hp_2), atI_nat (j := 3) rfl, _, _, rfl, rfl, s4 (by omega) (by omega), ?_⟩
      rw [S_app]
      refine ⟨by show 1 ≤ 2 ^ 24; decide, fun t2 ht2 => ?_⟩
      have e3 := same_new (o := .tup ([VS (b ++ u)])) ht2
      have f3 : upd G2 t2 (.tup ([VS (b ++ u)])) t2 = some (.tup ([VS (b ++ u)])) := upd_same
      generalize upd G2 t2 (.tup ([VS (b ++ u)])) = G3 at e3 f3
      have hp_3 := e3 _ _ hp_2
      have f1_3 := e3 _ _ f1_2
      have f2_3 := e3 _ _ f2
      have sm3 : Same H G3 := fun b o z => e3 b o (sm2 b o z)
      refine ⟨t1, t2, _, _, rfl, rfl, .inl (.inl f2_3), .inl (.inl f3), tl2 (show 3 ≤ 100 by decide) (show 1 ≤ 100 by decide), fun z => (by cases z), fun _ z => (by cases z), fun _ _ t3 ht3 => ?_⟩
      have e4 := same_new (o := .tup ((cutV (sgV (Sg.subwords r f u x y v)) none (some (3))) ++ ([VS (b ++ u)]))) ht3
      have f4 : upd G3 t3 (.tup ((cutV (sgV (Sg.subwords r f u x y v)) none (some (3))) ++ ([VS (b ++ u)]))) t3 = some (.tup ((cutV (sgV (Sg.subwords r f u x y v)) none (some (3))) ++ ([VS (b ++ u)]))) := upd_same
      generalize upd G3 t3 (.tup ((cutV (sgV (Sg.subwords r f u x y v)) none (some (3))) ++ ([VS (b ++ u)]))) = G4 at e4 f4
      have hp_4 := e4 _ _ hp_3
      have f1_4 := e4 _ _ f1_3
      have f2_4 := e4 _ _ f2_3
      have f3_4 := e4 _ _ f3
      have sm4 : Same H G4 := fun b o z => e4 b o (sm3 b o z)
      refine ⟨_, rfl, _, rfl, _, _, rfl, rfl, _, rfl, p, _, rfl, .inl (.inl hp_4), fun z => (show ¬ (HT.sIx 7 0 (some (3 + 1)) = 0) by decide) z.1, fun t4 ht4 => ?_⟩
      have e5 := same_new (o := .tup (cutV (sgV (Sg.subwords r f u x y v)) (some (3 + 1)) none)) ht4
      have f5 : upd G4 t4 (.tup (cutV (sgV (Sg.subwords r f u x y v)) (some (3 + 1)) none)) t4 = some (.tup (cutV (sgV (Sg.subwords r f u x y v)) (some (3 + 1)) none)) := upd_same
      generalize upd G4 t4 (.tup (cutV (sgV (Sg.subwords r f u x y v)) (some (3 + 1)) none)) = G5 at e5 f5
      have hp_5 := e5 _ _ hp_4
      have f1_5 := e5 _ _ f1_4
      have f2_5 := e5 _ _ f2_4
      have f3_5 := e5 _ _ f3_4
      have f4_5 := e5 _ _ f4
      have sm5 : Same H G5 := fun b o z => e5 b o (sm4 b o z)
      refine ⟨t3, t4, _, _, rfl, rfl, .inl (.inl f4_5), .inl (.inl f5), tl2 (show 4 ≤ 100 by decide) (show 3 ≤ 100 by decide), fun z => (by cases z), fun _ z => (by cases z), fun _ _ t5 ht5 => ?_⟩
      have e6 := same_new (o := .tup (((cutV (sgV (Sg.subwords r f u x y v)) none (some (3))) ++ ([VS (b ++ u)])) ++ (cutV (sgV (Sg.subwords r f u x y v)) (some (3 + 1)) none))) ht5
      have f6 : upd G5 t5 (.tup (((cutV (sgV (Sg.subwords r f u x y v)) none (some (3))) ++ ([VS (b ++ u)])) ++ (cutV (sgV (Sg.subwords r f u x y v)) (some (3 + 1)) none))) t5 = some (.tup (((cutV (sgV (Sg.subwords r f u x y v)) none (some (3))) ++ ([VS (b ++ u)])) ++ (cutV (sgV (Sg.subwords r f u x y v)) (some (3 + 1)) none))) := upd_same
      generalize upd G5 t5 (.tup (((cutV (sgV (Sg.subwords r f u x y v)) none (some (3))) ++ ([VS (b ++ u)])) ++ (cutV (sgV (Sg.subwords r f u x y v)) (some (3 + 1)) none))) = G6 at e6 f6
      have hp_6 := e6 _ _ hp_5
      have f1_6 := e6 _ _ f1_5
      have f2_6 := e6 _ _ f2_5
      have f3_6 := e6 _ _ f3_5
      have f4_6 := e6 _ _ f4_5
      have f5_6 := e6 _ _ f5
      have sm6 : Same H G6 := fun b o z => e6 b o (sm5 b o z)
      refine ⟨_, rfl, rfl, _, rfl, ?_⟩
      refine itF (by show decide (V.str "subwords" = V.str "few") = false; decide +kernel) ?_
      refine ⟨_, rfl, rfl, _, rfl, ?_⟩
      refine itF (by show decide (V.str "subwords" = V.str "ends") = false; decide +kernel) ?_
      exact ⟨_, rfl, q _ t5 sm6 (f6.trans (congrArg (fun z => some (HO.tup z)) (show ((cutV (sgV (Sg.subwords r f u x y v)) none (some (3))) ++ ([VS (b ++ u)])) ++ (cutV (sgV (Sg.subwords r f u x y v)) (some (3 + 1)) none) = sgV ((Sg.subwords r f u x y v).lead b) from rfl)))⟩
    | falling f u x y v =>
      obtain ⟨⟨_, h1⟩, _⟩ := hok
      refine ⟨_, rfl, z3, fun t0 ht0 => ⟨t0, _, rfl, .inr (.inl (.inl upd_same)), rfl, rfl, _, rfl, ?_⟩⟩
      refine itT (by show inV (V.str "falling") [V.str "subwords", V.str "falling", V.str "turning"] = true; decide +kernel) ?_
      have e1 := same_new (o := .tup ([V.str "subwords", V.str "falling", V.str "turning"])) ht0
      have f1 : upd H t0 (.tup ([V.str "subwords", V.str "falling", V.str "turning"])) t0 = some (.tup ([V.str "subwords", V.str "falling", V.str "turning"])) := upd_same
      generalize upd H t0 (.tup ([V.str "subwords", V.str "falling", V.str "turning"])) = G1 at e1 f1
      have hp_1 := e1 _ _ hp
      have sm1 : Same H G1 := e1
      refine ⟨_, rfl, rfl, _, rfl, ?_⟩
      refine itF (by show decide (V.str "falling" = V.str "subwords") = false; decide +kernel) ?_
      refine ⟨_, rfl, _, rfl, _, rfl, p, _, rfl, .inl (.inl hp_1), fun z => (show ¬ (HT.sIx 6 6 (some (2)) = 6) by decide) z.2, fun t1 ht1 => ?_⟩
      have e2 := same_new (o := .tup (cutV (sgV (Sg.falling f u x y v)) none (some (2)))) ht1
      have f2 : upd G1 t1 (.tup (cutV (sgV (Sg.falling f u x y v)) none (some (2)))) t1 = some (.tup (cutV (sgV (Sg.falling f u x y v)) none (some (2)))) := upd_same
      generalize upd G1 t1 (.tup (cutV (sgV (Sg.falling f u x y v)) none (some (2)))) = G2 at e2 f2
      have hp_2 := e2 _ _ hp_1
      have f1_2 := e2 _ _ f1
      have sm2 : Same H G2 := fun b o z => e2 b o (sm1 b o z)
      refine ⟨_, rfl, _, rfl, _, rfl, p, _, _, VS u, rfl, rfl, .inl (.inl hp_2), atI_nat (j := 2) rfl, _, _, rfl, rfl, s4 (by omega) (by omega), ?_⟩
      rw [S_app]
      refine ⟨by show 1 ≤ 2 ^ 24; decide, fun t2 ht2 => ?_⟩
      have e3 := same_new (o := .tup ([VS (b ++ u)])) ht2
      have f3 : upd G2 t2 (.tup ([VS (b ++ u)])) t2 = some (.tup ([VS (b ++ u)])) := upd_same
      generalize upd G2 t2 (.tup ([VS (b ++ u)])) = G3 at e3 f3
      have hp_3 := e3 _ _ hp_2
      have f1_3 := e3 _ _ f1_2
      have f2_3 := e3 _ _ f2
      have sm3 : Same H G3 := fun b o z => e3 b o (sm2 b o z)
      refine ⟨t1, t2, _, _, rfl, rfl, .inl (.inl f2_3), .inl (.inl f3), tl2 (show 2 ≤ 100 by decide) (show 1 ≤ 100 by decide), fun z => (by cases z), fun _ z => (by cases z), fun _ _ t3 ht3 => ?_⟩
      have e4 := same_new (o := .tup ((cutV (sgV (Sg.falling f u x y v)) none (some (2))) ++ ([VS (b ++ u)]))) ht3
      have f4 : upd G3 t3 (.tup ((cutV (sgV (Sg.falling f u x y v)) none (some (2))) ++ ([VS (b ++ u)]))) t3 = some (.tup ((cutV (sgV (Sg.falling f u x y v)) none (some (2))) ++ ([VS (b ++ u)]))) := upd_same
      generalize upd G3 t3 (.tup ((cutV (sgV (Sg.falling f u x y v)) none (some (2))) ++ ([VS (b ++ u)]))) = G4 at e4 f4
      have hp_4 := e4 _ _ hp_3
      have f1_4 := e4 _ _ f1_3
      have f2_4 := e4 _ _ f2_3
      have f3_4 := e4 _ _ f3
      have sm4 : Same H G4 := fun b o z => e4 b o (sm3 b o z)
      refine ⟨_, rfl, _, rfl, _, _, rfl, rfl, _, rfl, p, _, rfl, .inl (.inl hp_4), fun z => (show ¬ (HT.sIx 6 0 (some (2 + 1)) = 0) by decide) z.1, fun t4 ht4 => ?_⟩
      have e5 := same_new (o := .tup (cutV (sgV (Sg.falling f u x y v)) (some (2 + 1)) none)) ht4
      have f5 : upd G4 t4 (.tup (cutV (sgV (Sg.falling f u x y v)) (some (2 + 1)) none)) t4 = some (.tup (cutV (sgV (Sg.falling f u x y v)) (some (2 + 1)) none)) := upd_same
      generalize upd G4 t4 (.tup (cutV (sgV (Sg.falling f u x y v)) (some (2 + 1)) none)) = G5 at e5 f5
      have hp_5 := e5 _ _ hp_4
      have f1_5 := e5 _ _ f1_4
      have f2_5 := e5 _ _ f2_4
      have f3_5 := e5 _ _ f3_4
      have f4_5 := e5 _ _ f4
      have sm5 : Same H G5 := fun b o z => e5 b o (sm4 b o z)
      refine ⟨t3, t4, _, _, rfl, rfl, .inl (.inl f4_5), .inl (.inl f5), tl2 (show 3 ≤ 100 by decide) (show 3 ≤ 100 by decide), fun z => (by cases z), fun _ z => (by cases z), fun _ _ t5 ht5 => ?_⟩
      have e6 := same_new (o := .tup (((cutV (sgV (Sg.falling f u x y v)) none (some (2))) ++ ([VS (b ++ u)])) ++ (cutV (sgV (Sg.falling f u x y v)) (some (2 + 1)) none))) ht5
      have f6 : upd G5 t5 (.tup (((cutV (sgV (Sg.falling f u x y v)) none (some (2))) ++ ([VS (b ++ u)])) ++ (cutV (sgV (Sg.falling f u x y v)) (some (2 + 1)) none))) t5 = some (.tup (((cutV (sgV (Sg.falling f u x y v)) none (some (2))) ++ ([VS (b ++ u)])) ++ (cutV (sgV (Sg.falling f u x y v)) (some (2 + 1)) none))) := upd_same
      generalize upd G5 t5 (.tup (((cutV (sgV (Sg.falling f u x y v)) none (some (2))) ++ ([VS (b ++ u)])) ++ (cutV (sgV (Sg.falling f u x y v)) (some (2 + 1)) none))) = G6 at e6 f6
      have hp_6 := e6 _ _ hp_5
      have f1_6 := e6 _ _ f1_5
      have f2_6 := e6 _ _ f2_5
      have f3_6 := e6 _ _ f3_5
      have f4_6 := e6 _ _ f4_5
      have f5_6 := e6 _ _ f5
      have sm6 : Same H G6 := fun b o z => e6 b o (sm5 b o z)
      refine ⟨_, rfl, rfl, _, rfl, ?_⟩
      refine itF (by show decide (V.str "falling" = V.str "few") = false; decide +kernel) ?_
      refine ⟨_, rfl, rfl, _, rfl, ?_⟩
      refine itF (by show decide (V.str "falling" = V.str "ends") = false; decide +kernel) ?_
      exact ⟨_, rfl, q _ t5 sm6 (f6.trans (congrArg (fun z => some (HO.tup z)) (show ((cutV (sgV (Sg.falling f u x y v)) none (some (2))) ++ ([VS (b ++ u)])) ++ (cutV (sgV (Sg.falling f u x y v)) (some (2 + 1)) none) = sgV ((Sg.falling f u x y v).lead b) from rfl)))⟩
    | starfree u y v pp =>
      obtain ⟨⟨_, h1⟩, _⟩ := hok
      refine ⟨_, rfl, z3, fun t0 ht0 => ⟨t0, _, rfl, .inr (.inl (.inl upd_same)), rfl, rfl, _, rfl, ?_⟩⟩
      refine itF (by show inV (V.str "starfree") [V.str "subwords", V.str "falling", V.str "turning"] = false; decide +kernel) ?_
      have e1 := same_new (o := .tup ([V.str "subwords", V.str "falling", V.str "turning"])) ht0
      have f1 : upd H t0 (.tup ([V.str "subwords", V.str "falling", V.str "turning"])) t0 = some (.tup ([V.str "subwords", V.str "falling", V.str "turning"])) := upd_same
      generalize upd H t0 (.tup ([V.str "subwords", V.str "falling", V.str "turning"])) = G1 at e1 f1
      have hp_1 := e1 _ _ hp
      have sm1 : Same H G1 := e1
      refine ⟨_, rfl, _, rfl, _, rfl, p, _, rfl, .inl (.inl hp_1), fun z => (show ¬ (HT.sIx 5 5 (some (1)) = 5) by decide) z.2, fun t1 ht1 => ?_⟩
      have e2 := same_new (o := .tup (cutV (sgV (Sg.starfree u y v pp)) none (some (1)))) ht1
      have f2 : upd G1 t1 (.tup (cutV (sgV (Sg.starfree u y v pp)) none (some (1)))) t1 = some (.tup (cutV (sgV (Sg.starfree u y v pp)) none (some (1)))) := upd_same
      generalize upd G1 t1 (.tup (cutV (sgV (Sg.starfree u y v pp)) none (some (1)))) = G2 at e2 f2
      have hp_2 := e2 _ _ hp_1
      have f1_2 := e2 _ _ f1
      have sm2 : Same H G2 := fun b o z => e2 b o (sm1 b o z)
      refine ⟨_, rfl, _, rfl, _, rfl, p, _, _, VS u, rfl, rfl, .inl (.inl hp_2), atI_nat (j := 1) rfl, _, _, rfl, rfl, s4 (by omega) (by omega), ?_⟩
      rw [S_app]
      refine ⟨by show 1 ≤ 2 ^ 24; decide, fun t2 ht2 => ?_⟩
      have e3 := same_new (o := .tup ([VS (b ++ u)])) ht2
      have f3 : upd G2 t2 (.tup ([VS (b ++ u)])) t2 = some (.tup ([VS (b ++ u)])) := upd_same
      generalize upd G2 t2 (.tup ([VS (b ++ u)])) = G3 at e3 f3
      have hp_3 := e3 _ _ hp_2
      have f1_3 := e3 _ _ f1_2
      have f2_3 := e3 _ _ f2
      have sm3 : Same H G3 := fun b o z => e3 b o (sm2 b o z)
      refine ⟨t1, t2, _, _, rfl, rfl, .inl (.inl f2_3), .inl (.inl f3), tl2 (show 1 ≤ 100 by decide) (show 1 ≤ 100 by decide), fun z => (by cases z), fun _ z => (by cases z), fun _ _ t3 ht3 => ?_⟩
      have e4 := same_new (o := .tup ((cutV (sgV (Sg.starfree u y v pp)) none (some (1))) ++ ([VS (b ++ u)]))) ht3
      have f4 : upd G3 t3 (.tup ((cutV (sgV (Sg.starfree u y v pp)) none (some (1))) ++ ([VS (b ++ u)]))) t3 = some (.tup ((cutV (sgV (Sg.starfree u y v pp)) none (some (1))) ++ ([VS (b ++ u)]))) := upd_same
      generalize upd G3 t3 (.tup ((cutV (sgV (Sg.starfree u y v pp)) none (some (1))) ++ ([VS (b ++ u)]))) = G4 at e4 f4
      have hp_4 := e4 _ _ hp_3
      have f1_4 := e4 _ _ f1_3
      have f2_4 := e4 _ _ f2_3
      have f3_4 := e4 _ _ f3
      have sm4 : Same H G4 := fun b o z => e4 b o (sm3 b o z)
      refine ⟨_, rfl, _, rfl, _, _, rfl, rfl, _, rfl, p, _, rfl, .inl (.inl hp_4), fun z => (show ¬ (HT.sIx 5 0 (some (1 + 1)) = 0) by decide) z.1, fun t4 ht4 => ?_⟩
      have e5 := same_new (o := .tup (cutV (sgV (Sg.starfree u y v pp)) (some (1 + 1)) none)) ht4
      have f5 : upd G4 t4 (.tup (cutV (sgV (Sg.starfree u y v pp)) (some (1 + 1)) none)) t4 = some (.tup (cutV (sgV (Sg.starfree u y v pp)) (some (1 + 1)) none)) := upd_same
      generalize upd G4 t4 (.tup (cutV (sgV (Sg.starfree u y v pp)) (some (1 + 1)) none)) = G5 at e5 f5
      have hp_5 := e5 _ _ hp_4
      have f1_5 := e5 _ _ f1_4
      have f2_5 := e5 _ _ f2_4
      have f3_5 := e5 _ _ f3_4
      have f4_5 := e5 _ _ f4
      have sm5 : Same H G5 := fun b o z => e5 b o (sm4 b o z)
      refine ⟨t3, t4, _, _, rfl, rfl, .inl (.inl f4_5), .inl (.inl f5), tl2 (show 2 ≤ 100 by decide) (show 3 ≤ 100 by decide), fun z => (by cases z), fun _ z => (by cases z), fun _ _ t5 ht5 => ?_⟩
      have e6 := same_new (o := .tup (((cutV (sgV (Sg.starfree u y v pp)) none (some (1))) ++ ([VS (b ++ u)])) ++ (cutV (sgV (Sg.starfree u y v pp)) (some (1 + 1)) none))) ht5
      have f6 : upd G5 t5 (.tup (((cutV (sgV (Sg.starfree u y v pp)) none (some (1))) ++ ([VS (b ++ u)])) ++ (cutV (sgV (Sg.starfree u y v pp)) (some (1 + 1)) none))) t5 = some (.tup (((cutV (sgV (Sg.starfree u y v pp)) none (some (1))) ++ ([VS (b ++ u)])) ++ (cutV (sgV (Sg.starfree u y v pp)) (some (1 + 1)) none))) := upd_same
      generalize upd G5 t5 (.tup (((cutV (sgV (Sg.starfree u y v pp)) none (some (1))) ++ ([VS (b ++ u)])) ++ (cutV (sgV (Sg.starfree u y v pp)) (some (1 + 1)) none))) = G6 at e6 f6
      have hp_6 := e6 _ _ hp_5
      have f1_6 := e6 _ _ f1_5
      have f2_6 := e6 _ _ f2_5
      have f3_6 := e6 _ _ f3_5
      have f4_6 := e6 _ _ f4_5
      have f5_6 := e6 _ _ f5
      have sm6 : Same H G6 := fun b o z => e6 b o (sm5 b o z)
      refine ⟨_, rfl, rfl, _, rfl, ?_⟩
      refine itF (by show decide (V.str "starfree" = V.str "few") = false; decide +kernel) ?_
      refine ⟨_, rfl, rfl, _, rfl, ?_⟩
      refine itF (by show decide (V.str "starfree" = V.str "ends") = false; decide +kernel) ?_
      exact ⟨_, rfl, q _ t5 sm6 (f6.trans (congrArg (fun z => some (HO.tup z)) (show ((cutV (sgV (Sg.starfree u y v pp)) none (some (1))) ++ ([VS (b ++ u)])) ++ (cutV (sgV (Sg.starfree u y v pp)) (some (1 + 1)) none) = sgV ((Sg.starfree u y v pp).lead b) from rfl)))⟩
    | turning f u y v =>
      obtain ⟨⟨_, h1⟩, _⟩ := hok
      refine ⟨_, rfl, z3, fun t0 ht0 => ⟨t0, _, rfl, .inr (.inl (.inl upd_same)), rfl, rfl, _, rfl, ?_⟩⟩
      refine itT (by show inV (V.str "turning") [V.str "subwords", V.str "falling", V.str "turning"] = true; decide +kernel) ?_
      have e1 := same_new (o := .tup ([V.str "subwords", V.str "falling", V.str "turning"])) ht0
      have f1 : upd H t0 (.tup ([V.str "subwords", V.str "falling", V.str "turning"])) t0 = some (.tup ([V.str "subwords", V.str "falling", V.str "turning"])) := upd_same
      generalize upd H t0 (.tup ([V.str "subwords", V.str "falling", V.str "turning"])) = G1 at e1 f1
      have hp_1 := e1 _ _ hp
      have sm1 : Same H G1 := e1
      refine ⟨_, rfl, rfl, _, rfl, ?_⟩
      refine itF (by show decide (V.str "turning" = V.str "subwords") = false; decide +kernel) ?_
      refine ⟨_, rfl, _, rfl, _, rfl, p, _, rfl, .inl (.inl hp_1), fun z => (show ¬ (HT.sIx 5 5 (some (2)) = 5) by decide) z.2, fun t1 ht1 => ?_⟩
      have e2 := same_new (o := .tup (cutV (sgV (Sg.turning f u y v)) none (some (2)))) ht1
      have f2 : upd G1 t1 (.tup (cutV (sgV (Sg.turning f u y v)) none (some (2)))) t1 = some (.tup (cutV (sgV (Sg.turning f u y v)) none (some (2)))) := upd_same
      generalize upd G1 t1 (.tup (cutV (sgV (Sg.turning f u y v)) none (some (2)))) = G2 at e2 f2
      have hp_2 := e2 _ _ hp_1
      have f1_2 := e2 _ _ f1
      have sm2 : Same H G2 := fun b o z => e2 b o (sm1 b o z)
      refine ⟨_, rfl, _, rfl, _, rfl, p, _, _, VS u, rfl, rfl, .inl (.inl hp_2), atI_nat (j := 2) rfl, _, _, rfl, rfl, s4 (by omega) (by omega), ?_⟩
      rw [S_app]
      refine ⟨by show 1 ≤ 2 ^ 24; decide, fun t2 ht2 => ?_⟩
      have e3 := same_new (o := .tup ([VS (b ++ u)])) ht2
      have f3 : upd G2 t2 (.tup ([VS (b ++ u)])) t2 = some (.tup ([VS (b ++ u)])) := upd_same
      generalize upd G2 t2 (.tup ([VS (b ++ u)])) = G3 at e3 f3
      have hp_3 := e3 _ _ hp_2
      have f1_3 := e3 _ _ f1_2
      have f2_3 := e3 _ _ f2
      have sm3 : Same H G3 := fun b o z => e3 b o (sm2 b o z)
      refine ⟨t1, t2, _, _, rfl, rfl, .inl (.inl f2_3), .inl (.inl f3), tl2 (show 2 ≤ 100 by decide) (show 1 ≤ 100 by decide), fun z => (by cases z), fun _ z => (by cases z), fun _ _ t3 ht3 => ?_⟩
      have e4 := same_new (o := .tup ((cutV (sgV (Sg.turning f u y v)) none (some (2))) ++ ([VS (b ++ u)]))) ht3
      have f4 : upd G3 t3 (.tup ((cutV (sgV (Sg.turning f u y v)) none (some (2))) ++ ([VS (b ++ u)]))) t3 = some (.tup ((cutV (sgV (Sg.turning f u y v)) none (some (2))) ++ ([VS (b ++ u)]))) := upd_same
      generalize upd G3 t3 (.tup ((cutV (sgV (Sg.turning f u y v)) none (some (2))) ++ ([VS (b ++ u)]))) = G4 at e4 f4
      have hp_4 := e4 _ _ hp_3
      have f1_4 := e4 _ _ f1_3
      have f2_4 := e4 _ _ f2_3
      have f3_4 := e4 _ _ f3
      have sm4 : Same H G4 := fun b o z => e4 b o (sm3 b o z)
      refine ⟨_, rfl, _, rfl, _, _, rfl, rfl, _, rfl, p, _, rfl, .inl (.inl hp_4), fun z => (show ¬ (HT.sIx 5 0 (some (2 + 1)) = 0) by decide) z.1, fun t4 ht4 => ?_⟩
      have e5 := same_new (o := .tup (cutV (sgV (Sg.turning f u y v)) (some (2 + 1)) none)) ht4
      have f5 : upd G4 t4 (.tup (cutV (sgV (Sg.turning f u y v)) (some (2 + 1)) none)) t4 = some (.tup (cutV (sgV (Sg.turning f u y v)) (some (2 + 1)) none)) := upd_same
      generalize upd G4 t4 (.tup (cutV (sgV (Sg.turning f u y v)) (some (2 + 1)) none)) = G5 at e5 f5
      have hp_5 := e5 _ _ hp_4
      have f1_5 := e5 _ _ f1_4
      have f2_5 := e5 _ _ f2_4
      have f3_5 := e5 _ _ f3_4
      have f4_5 := e5 _ _ f4
      have sm5 : Same H G5 := fun b o z => e5 b o (sm4 b o z)
      refine ⟨t3, t4, _, _, rfl, rfl, .inl (.inl f4_5), .inl (.inl f5), tl2 (show 3 ≤ 100 by decide) (show 2 ≤ 100 by decide), fun z => (by cases z), fun _ z => (by cases z), fun _ _ t5 ht5 => ?_⟩
      have e6 := same_new (o := .tup (((cutV (sgV (Sg.turning f u y v)) none (some (2))) ++ ([VS (b ++ u)])) ++ (cutV (sgV (Sg.turning f u y v)) (some (2 + 1)) none))) ht5
      have f6 : upd G5 t5 (.tup (((cutV (sgV (Sg.turning f u y v)) none (some (2))) ++ ([VS (b ++ u)])) ++ (cutV (sgV (Sg.turning f u y v)) (some (2 + 1)) none))) t5 = some (.tup (((cutV (sgV (Sg.turning f u y v)) none (some (2))) ++ ([VS (b ++ u)])) ++ (cutV (sgV (Sg.turning f u y v)) (some (2 + 1)) none))) := upd_same
      generalize upd G5 t5 (.tup (((cutV (sgV (Sg.turning f u y v)) none (some (2))) ++ ([VS (b ++ u)])) ++ (cutV (sgV (Sg.turning f u y v)) (some (2 + 1)) none))) = G6 at e6 f6
      have hp_6 := e6 _ _ hp_5
      have f1_6 := e6 _ _ f1_5
      have f2_6 := e6 _ _ f2_5
      have f3_6 := e6 _ _ f3_5
      have f4_6 := e6 _ _ f4_5
      have f5_6 := e6 _ _ f5
      have sm6 : Same H G6 := fun b o z => e6 b o (sm5 b o z)
      refine ⟨_, rfl, rfl, _, rfl, ?_⟩
      refine itF (by show decide (V.str "turning" = V.str "few") = false; decide +kernel) ?_
      refine ⟨_, rfl, rfl, _, rfl, ?_⟩
      refine itF (by show decide (V.str "turning" = V.str "ends") = false; decide +kernel) ?_
      exact ⟨_, rfl, q _ t5 sm6 (f6.trans (congrArg (fun z => some (HO.tup z)) (show ((cutV (sgV (Sg.turning f u y v)) none (some (2))) ++ ([VS (b ++ u)])) ++ (cutV (sgV (Sg.turning f u y v)) (some (2 + 1)) none) = sgV ((Sg.turning f u y v).lead b) from rfl)))⟩
end
end Sw
/-! What the law holds together: answers of sets, of all other words, of what is left behind. -/
namespace Sw
open PySem PySem.Spec PyProof.Rows L2 LamX NdefX
theorem tabs_kq {T : List NTab} {a g c : Addr} {H H' : Hp} {k : Nat} (hL : LS H a g c k) (e : Kq a g H H') (t : TabsN T H) : TabsN T H' := fun p hp => by
  obtain ⟨gs, cs, r, tt, h1, h2, _⟩ := hL
  obtain ⟨ps, q1, q2, q3⟩ := t p hp
  refine ⟨ps, e _ _ q1 (ne_of q1 h1 (by intro z; cases z)) (ne_of q1 h2 (by intro z; cases z)), q2, fun pos cv hc => ?_⟩
  obtain ⟨c0, e1, e2⟩ := q3 pos cv hc
  exact ⟨c0, e1, e _ _ e2 (ne_of e2 h1 (by intro z; unfold CodeO at z; cases z)) (ne_of e2 h2 (by intro z; unfold CodeO at z; cases z))⟩
/-- what asked tells of a set -/
inductive AnsV (ls : Wd) (L : Lang) (k : Kd) (H : Hp) : V → Prop
  | great (h1 : Mayg k) (h2 : Great ls L) : AnsV ls L k H (.str "great")
  | none (h1 : Mayg k → ¬ Great ls L) (h2 : ¬ Cond ls L k) : AnsV ls L k H .non
  | some (p : Addr) (g : Sg) (h1 : Mayg k → ¬ Great ls L) (h2 : Fnd ls L k g) (h3 : H p = some (.tup (sgV g))) : AnsV ls L k H (.ref p)
theorem AnsV.sol {ls : Wd} {L : Lang} {k : Kd} {H H' : Hp} {x : V} (h : AnsV ls L k H x) (e : Sol H H') : AnsV ls L k H' x := by
  cases h with
  | great h1 h2 => exact .great h1 h2
  | none h1 h2 => exact .none h1 h2
  | some p g h1 h2 h3 => exact .some p g h1 h2 (e _ _ h3 trivial)
theorem ok4 {ls : Wd} {L : Lang} {k : Kd} {g : Sg} (h : Fnd ls L k g) : g.ok ls 4000 := Sg.ok_mono h.2.2.1 (by decide)
theorem ans_eq {K : PySem.W.Frag} {ls : Wd} {L : Lang} {k : Kd} {H : Hp} {x : V} (A : ∀ c ∈ ls, 97 ≤ c ∧ c ≤ 122) (h : AnsV ls L k H x) : ∃ d, Dp K H x d ∧ SeqAt.shaped d = true ∧ PyData.eqv d (.str "great") = decide (x = .str "great") := by
  cases h with
  | great h1 h2 => exact ⟨_, .str _, sh_of (okd_str (by decide +kernel)) (by omega), by rw [decide_eq_true rfl]; simp [PyData.eqv]⟩
  | none h1 h2 => exact ⟨_, .non, sh_of (k := 1) ⟨by simp [PyData.canLay0], by simp [PyData.depth]⟩ (by omega), by rw [decide_eq_false (by intro z; cases z)]; simp [PyData.eqv]⟩
  | some p g h1 h2 h3 =>
    obtain ⟨ds, q1, q2, _⟩ := sg_dp (K := K) (H := H) A (ok4 h2)
    exact ⟨_, .tup (.inl (.inl h3)) q1, sh_of (okd_tup q2) (by omega), by rw [decide_eq_false (by intro z; cases z)]; simp [PyData.eqv]⟩
theorem ans_twin {ls : Wd} {L L2 : Lang} {c : Bool} {k : Kd} {H H2 : Hp} {x y : V} (tw : Twin ls c L L2) (h1 : AnsV ls L k H x) (h2 : AnsV ls L2 k H2 y) : decide (x = .str "great") = decide (y = .str "great") ∧ decide (x = .non) = decide (y = .non) := by
  cases h1 with
  | great a1 a2 =>
    cases h2 with
    | great b1 b2 => exact ⟨rfl, rfl⟩
    | none b1 b2 => exact absurd (tw.great a2) (b1 a1)
    | some p g b1 b2 b3 => exact absurd (tw.great a2) (b1 a1)
  | none a1 a2 =>
    cases h2 with
    | great b1 b2 => exact absurd (tw.symm.great b2) (a1 b1)
    | none b1 b2 => exact ⟨rfl, rfl⟩
    | some p g b1 b2 b3 => exact absurd (tw.symm.cond k b2.1) a2
  | some p g a1 a2 a3 =>
    cases h2 with
    | great b1 b2 => exact absurd (tw.symm.great b2) (a1 b1)
    | none b1 b2 => exact absurd (tw.cond k a2.1) b2
    | some p g b1 b2 b3 => exact ⟨by rw [decide_eq_false (by intro z; cases z), decide_eq_false (by intro z; cases z)], by rw [decide_eq_false (by intro z; cases z), decide_eq_false (by intro z; cases z)]⟩
end Sw
/-! The law. -/
namespace Sw
open PySem PySem.Spec PyProof.Rows L2 LamX NdefX
section
variable {P : Program} {w : World} {K : PySem.W.Frag} {mg : Str → Option Value} {base : Heap} {CM CA CW CG SA FA : Addr} {D : Cds}
theorem mach_kq {H H' : Hp} {b a g c : Addr} {k : Nat} {M : Mc} (h : MachAt CM H b M) (hn : 1 ≤ M.n) (hL : LS H a g c k) (e : Kq a g H H') : MachAt CM H' b M := by
  obtain ⟨dy, pr, q1, as, q2, q3⟩ := h
  obtain ⟨gs, cs, r, t, h1, h2, _⟩ := id hL
  have hne : pr ≠ g := fun z => by
    rw [z, h2] at q2
    have e1 : gs.map V.int = as.map V.ref := by have := Option.some.inj q2; injection this
    have hal : as.length = M.n := q3.1
    cases as with
    | nil => simp at hal; omega
    | cons a0 as =>
      cases gs with
      | nil => cases e1
      | cons g0 gs => rw [List.map_cons, List.map_cons] at e1; injection e1 with e2 _; cases e2
  exact ⟨dy, pr, e _ _ q1 (ne_of q1 h1 (by intro z; cases z)) (ne_of q1 h2 (by intro z; cases z)), as, e _ _ q2 (ne_of q2 h1 (by intro z; cases z)) hne, q3.kq hL e⟩
def spLaw (K : PySem.W.Frag) (D : Cds) : Sp := fun vs H Q _ => ∃ (sc : Addr) (ns : List Int), vs = [.ref sc] ∧ SqL K H sc (ns.map V.int) ∧ ns.length ≤ 63 ∧ TabsN (Tb D) H ∧ ∀ H', Q (.bl true) H'
theorem ok_law (T : Tx K mg CM CA CW CG) (Y : Ty K mg base CW D) (G : Tg K mg CG) (Z : Tsh K mg SA) (F0 : Tfo K w mg FA) {f : Addr} {fd : FuncData} (FL : FunD K "law" "law" (defArgs s_law) (defBody s_law) (defScope s_law) [] [] f fd) : FnOk P w K mg base CX0 12 f fd P_law (spLaw K D) := by
  refine FL.ok sc_law (fun vs H Q E h => ?_) (fun cdv A outer s H vs Q E hr h => ?_)
  · obtain ⟨sc, ns, rfl, _⟩ := h; rfl
  · obtain ⟨sc, ns, rfl, hs, hl, hT, q⟩ := h
    refine ⟨_, (PSs.nox (pss_cons (ps_set (i := 1) sc_law.nd rfl (Or.inl rfl) (pe_callP (ok_q_begun T) (hr.mono (by decide)) rfl pass0 (pa_cons (pv 0) pa_nil)))
 (pss_cons (ps_set (i := 2) sc_law.nd rfl (Or.inl rfl) (pe_callP (ok_q_abc T) (hr.mono (by decide)) rfl pass0 (pa_cons (pv 1) (pa_cons pe_int (pa_cons pe_int pa_nil)))))
 (pss_cons (ps_set (i := 3) sc_law.nd rfl (Or.inl rfl) (pe_makeP T.mkCM T.kpCM (ok_Machine_init T) (hr.mono (by decide)) rfl T.mgCM pass0 (pa_cons (pv 2) (pa_cons (pe_callP (ok_q_drawn_table T) (hr.mono (by decide)) rfl pass0 (pa_cons (pv 1) (pa_cons (pv 2) pa_nil))) pa_nil))))
 (pss_cons (ps_par3 (i := 4) (j := 5) (l := 6) (by rfl) sc_law.nd rfl rfl rfl (by decide) (by decide) (by decide) rfl rfl rfl (pa_cons (pe_callP (ok_q_token T) (hr.mono (by decide)) rfl pass0 (pa_cons (pv 1) (pa_cons (pv 2) (pa_cons pe_int pa_nil)))) (pa_cons (pe_callP (ok_least T Y) (hr.mono (by decide)) rfl pass0 (pa_cons (pv 3) pa_nil)) (pa_cons (pe_callP (ok_all_but T Y) (hr.mono (by decide)) rfl pass0 (pa_cons (pv 3) pa_nil)) pa_nil))) (by rfl))
 (pss_cons (ps_set (i := 7) sc_law.nd rfl (Or.inl rfl) (pe_callP (ok_left_behind T Y) (hr.mono (by decide)) rfl pass0 (pa_cons (pv 3) (pa_cons (pv 4) pa_nil))))
 (pss_cons (ps_for PassesOwn.never rfl (pi_tup (pe_glob (v := .ref SA) rfl Z.g rfl)) (pg_name (i := 8) sc_law.nd rfl (Or.inr rfl) (Or.inl rfl))
 (pss_cons (ps_asg (pe_lc (own := [("_law_one", 12)]) rfl sc_law.nd (pi_list (pe_lst (pa_cons (pv 3) (pa_cons (pv 6) (pa_cons (pv 7) pa_nil))))) (blkOk_by (own := [("_law_one", 12)]) (N := N_law) (sc := defScope s_law) (by decide +kernel)) (fun _ _ _ _ _ => (pg_name (i := 12) sc_law.nd rfl (Or.inl rfl) (Or.inr rfl))) (fun _ _ _ _ _ => pts_nil) (fun _ _ _ _ _ => (pe_callP (ok_q_asked T Y G Z) (hr.mono (by decide)) rfl pass0 (pa_cons (pv 8) (pa_cons (pv 12) pa_nil))))) (pg_lst rfl (pgs_cons (pg_name (i := 9) sc_law.nd rfl (Or.inl rfl) (Or.inl rfl)) (pgs_cons (pg_name (i := 10) sc_law.nd rfl (Or.inl rfl) (Or.inl rfl)) (pgs_cons (pg_name (i := 11) sc_law.nd rfl (Or.inl rfl) (Or.inl rfl)) pgs_nil)))))
 (pss_cons (ps_if (PW.pt (pw_or (pt_cmpR op_ne (pe_cmpR (op_eqD hr.units) (pv 9) pe_str (nomark _)) (pe_cmpR (op_eqD hr.units) (pv 10) pe_str (nomark _)) (nomark _)) (pw_or1 (pt_cmpR op_ne (pe_cmpR op_isN (pv 9) pe_non (nomark _)) (pe_cmpR op_isN (pv 10) pe_non (nomark _)) (nomark _)))))
 (pss_one (ps_ret pe_bl))
 pss_nil)
 (pss_cons (ps_if (pt_cmpR (op_eqD hr.units) (pv 9) pe_str (nomark _))
 (pss_one ps_continue)
 pss_nil)
 (pss_cons (ps_if (PW.pt (pw_or (PW.pt (pw_and (pt_cmpR op_isN (pv 9) pe_non (nomark _)) (pw_and1 (pt_cmpR op_notN (pv 11) pe_non (nomark _))))) (pw_or1 (pt_cmpR op_ne (pe_cmpR op_isN (pe_callP (ok_q_asked T Y G Z) (hr.mono (by decide)) rfl pass0 (pa_cons (pv 8) (pa_cons (pv 5) pa_nil))) pe_non (nomark _)) (pe_cmpR op_isN (pv 9) pe_non (nomark _)) (nomark _)))))
 (pss_one (ps_ret pe_bl))
 pss_nil)
 (pss_cons (ps_if (pt_cmpR op_notN (pv 9) pe_non (nomark _))
 (pss_cons (ps_if (PW.pt (pw_or (pt_not (pt_val (pe_callP (ok_shows T F0) (hr.mono (by decide)) rfl pass0 (pa_cons (pv 5) (pa_cons (pv 9) pa_nil))))) (pw_or1 (pt_not (pt_val (pe_callP (ok_shows T F0) (hr.mono (by decide)) rfl pass0 (pa_cons (pv 3) (pa_cons (pv 9) pa_nil))))))))
 (pss_one (ps_ret pe_bl))
 pss_nil)
 (pss_one (ps_if (PW.pt (pw_and (pt_cmpR op_ne (pv 8) pe_str (nomark _)) (pw_and1 (PW.pt (pw_or (pt_not (pt_val (pe_callP (ok_shows T F0) (hr.mono (by decide)) rfl pass0 (pa_cons (pv 6) (pa_cons (pe_callP (ok_q_turned T) (hr.mono (by decide)) rfl pass0 (pa_cons (pv 9) pa_nil)) pa_nil))))) (pw_or1 (pt_val (pe_callP (ok_shows T F0) (hr.mono (by decide)) rfl pass0 (pa_cons (pv 6) (pa_cons (pv 9) pa_nil))))))))))
 (pss_one (ps_ret pe_bl))
 pss_nil)))
 pss_nil)
 (pss_one (ps_if (PW.pt (pw_and (pt_cmpR op_notN (pv 11) pe_non (nomark _)) (pw_and1 (pt_not (pt_val (pe_callP (ok_shows T F0) (hr.mono (by decide)) rfl pass0 (pa_cons (pv 3) (pa_cons (pe_callP (ok_q_ahead T) (hr.mono (by decide)) rfl pass0 (pa_cons (pv 11) (pa_cons (pv 4) pa_nil))) pa_nil))))))))
 (pss_one (ps_ret pe_bl))
 pss_nil))))))))
 (pss_one (ps_ret pe_bl))))))))), ?_⟩
    refine ⟨_, rfl, sc, ns, rfl, hs, hl, fun H1 a g c e1 _ _ hL1 => ?_⟩
    have hT1 := hT.ext e1
    refine ⟨_, rfl, a, g, c, 0, rfl, hL1, by decide, fun H2 ls Ab hl3 hL2 k2 => ?_⟩
    have hT2 := tabs_kq hL1 k2 hT1
    refine ⟨_, rfl, _, rfl, _, rfl, a, g, c, _, ls, rfl, hL2, by decide, Ab, fun H3 p rows hat r1 r6 hgr hL3 k3 => ?_⟩
    have hT3 := tabs_kq hL2 k3 hT2
    obtain ⟨M, hMl, hMr⟩ : ∃ M : Mc, M.ls = ls ∧ M.rows = rows := ⟨⟨ls, rows⟩, rfl, rfl⟩
    have hMn : M.n = rows.length := by unfold Mc.n; rw [hMr]
    have O : M.Ok := ⟨by rw [hMl]; exact Ab.lpos, by rw [hMl]; exact Ab.lle, by rw [hMl]; exact Ab.abc, by rw [hMl]; exact Ab.asc, by omega, by omega, fun r hr => by rw [hMl]; exact (hgr r (hMr ▸ hr)).1, fun r hr t ht => by rw [hMn]; exact (hgr r (hMr ▸ hr)).2 t ht⟩
    refine fun bx dx hbx hdx hne => ?_
    have eB : Same H3 (upd (upd H3 dx (.own bx)) bx (.ins CM dx [])) := fun b o z => by
      rw [upd_ne (ne_of_none z hbx), upd_ne (ne_of_none z hdx)]; exact z
    have hB : upd (upd H3 dx (.own bx)) bx (.ins CM dx []) bx = some (.ins CM dx []) := upd_same
    generalize upd (upd H3 dx (.own bx)) bx (.ins CM dx []) = HB at eB hB
    refine ⟨bx, p, dx, M, by rw [hMl]; rfl, hB, by rw [hMr]; exact hat.sol (.of eB), O, fun H4 hMb kB => ⟨rfl, ?_⟩⟩
    have e34 : Same H3 H4 := fun b o z => kB b o (eB b o z) (ne_of_none z hbx)
    have hT4 := hT3.ext e34
    have hL4 := hL3.same e34
    refine ⟨_, rfl, _, rfl, a, g, c, _, ls, rfl, hL4, by decide, Ab, fun H5 b ob hb hL5 k5 => ?_⟩
    rw [← hMl] at ob
    have hT5 := tabs_kq hL4 k5 hT4
    have hMb5 := mach_kq hMb (by omega) hL4 k5
    refine ⟨_, rfl, bx, M, rfl, hT5, hMb5, O, fun H6 sm Ms m1 m2 m3 m4 g6 hMs => ?_⟩
    refine ⟨_, rfl, bx, M, rfl, g6.tab hT5, hMb5.sol g6.sol, O, fun H7 ot Mo o1 o2 o3 o4 g7 hMo => ⟨_, _, _, rfl, ?_⟩⟩
    have g57 := g6.trans g7
    refine ⟨_, rfl, _, rfl, bx, M, b, rfl, g57.tab hT5, hMb5.sol g57.sol, O, ob, by omega, fun H8 lf Ml l1 l2 l3 l4 g8 hMl8 => ?_⟩
    have g58 := g57.trans g8
    have hT8 := g58.tab hT5
    have hMb8 := hMb5.sol g58.sol
    have hMs8 := hMs.sol (g7.trans g8).sol
    have hMo8 := hMo.sol g8.sol
    refine ⟨SA, rfl, ⟨_, Z.t _⟩, for_it (walk_tup (xs := (kds.map kdN).map V.str)) (fun i σ H9 => ∃ v8 v9 v10 v11 v12, σ = [some (.ref sc), some (.ref a), some (VS ls), some (.ref bx), some (VS b), some (.ref sm), some (.ref ot), some (.ref lf), v8, v9, v10, v11, v12] ∧ Gr (Tb D) H8 H9)
      ⟨_, _, _, _, _, rfl, Gr.refl⟩ (fun _ _ _ _ _ => Z.t _) ?_ ?_⟩
    · rintro i x σ H9' H9 hi ⟨v8, v9, v10, v11, v12, rfl, g9⟩ ⟨rfl, hx⟩
      obtain ⟨k, rfl⟩ : ∃ k : Kd, x = .str (kdN k) := by
        have := List.mem_of_getElem? hx
        obtain ⟨z, h1, h2⟩ := List.mem_map.mp this
        obtain ⟨k, _, h3⟩ := List.mem_map.mp h1
        exact ⟨k, by rw [← h2, ← h3]⟩
      have g89 := g9
      have hT9 := g9.tab hT8
      have tw1 : Twin M.ls true M.lang Mo.lang := fun u hu => by rw [o4 u hu]; cases M.lang u <;> rfl
      have tw0 : Twin M.ls false M.lang Ms.lang := twin_of m4
      have qu : Quo M.ls b M.lang Ml.lang := fun u hu => l4 u hu
      -- the three answers
      let Lf : Nat → Lang := fun i => if i = 0 then M.lang else if i = 1 then Mo.lang else Ml.lang
      refine ⟨_, rfl, _, rfl, _, rfl, z3, fun R hR => ?_⟩
      have eR : Same H9 (upd H9 R (.lst [.ref bx, .ref ot, .ref lf])) := same_new hR
      have hR1 : upd H9 R (.lst [.ref bx, .ref ot, .ref lf]) R = some (.lst ([bx, ot, lf].map V.ref)) := upd_same
      generalize upd H9 R (.lst [.ref bx, .ref ot, .ref lf]) = H10 at eR hR1
      refine ⟨R, rfl, ⟨_, .of hR1⟩, fun F hF => ?_⟩
      have hF9 : H9 F = none := eR.free hF
      have hAns : ∀ (j : Nat) (x : V), ([bx, ot, lf].map V.ref)[j]? = some x → ∃ (m : Addr) (Mj : Mc), x = .ref m ∧ (∀ H', Gr (Tb D) H9 H' → MachAt CM H' m Mj) ∧ Mj.Ok ∧ Mj.ls = M.ls ∧ Mj.lang = Lf j := fun j x hx => by
        match j, hx with
        | 0, hx => cases hx; exact ⟨bx, M, rfl, fun H' e => hMb8.sol (g9.trans e).sol, O, rfl, rfl⟩
        | 1, hx => cases hx; exact ⟨ot, Mo, rfl, fun H' e => hMo8.sol (g9.trans e).sol, o1.toOk, o2, rfl⟩
        | 2, hx => cases hx; exact ⟨lf, Ml, rfl, fun H' e => hMl8.sol (g9.trans e).sol, l1.toOk, l2, rfl⟩
      refine lc_it (walk_list (xs := [bx, ot, lf].map V.ref)) (fun j H11 => ∃ xs : List V, xs.length = j ∧ Gr (Tb D) H9 H11 ∧ H11 R = some (.lst ([bx, ot, lf].map V.ref)) ∧ H11 F = some (.lst xs) ∧ ∀ (i : Nat) (y : V), xs[i]? = some y → AnsV M.ls (Lf i) k H11 y)
        ⟨[], rfl, (Gr.of eR).trans (Gr.of (same_new hF)), (same_new hF) _ _ hR1, upd_same, fun i y h => by cases h⟩ (fun j H11 _ h => by obtain ⟨_, _, _, h, _⟩ := h; exact .of h) (fun j x H11' H11 hj h hY => ?_) (fun H11 h => ?_)
      · obtain ⟨xs, hxl, g11, hR11, hF11, hxs⟩ := h
        obtain ⟨rfl, hx⟩ := hY
        obtain ⟨m, Mj, rfl, hMj, Oj, lsj, Lj⟩ := hAns j x hx
        have fin : ∀ H12 y, Gr (Tb D) H11 H12 → AnsV M.ls (Lf j) k H12 y → ∃ acc, H12 F = some (.lst acc) ∧ acc.length < sizeLine ∧ ∃ xs : List V, xs.length = j + 1 ∧ Gr (Tb D) H9 (upd H12 F (.lst (acc ++ [y]))) ∧ upd H12 F (.lst (acc ++ [y])) R = some (.lst ([bx, ot, lf].map V.ref)) ∧ upd H12 F (.lst (acc ++ [y])) F = some (.lst xs) ∧ ∀ (i : Nat) (y' : V), xs[i]? = some y' → AnsV M.ls (Lf i) k (upd H12 F (.lst (acc ++ [y]))) y' := fun H12 y g12 hy => by
          have hF12 := g12.sol _ _ hF11 trivial
          have hj3 : j < 3 := hj
          have nRF : R ≠ F := ne_of_none hR1 hF
          refine ⟨xs, hF12, slt (by omega), xs ++ [y], by rw [List.length_append, hxl]; rfl, gr_mut (g11.trans g12) hF9 hF12 lst_ne, by rw [upd_ne nRF]; exact g12.sol _ _ hR11 trivial, upd_same, fun i y' h => ?_⟩
          have mv : ∀ {L : Lang} {z : V}, AnsV M.ls L k H12 z → AnsV M.ls L k (upd H12 F (.lst (xs ++ [y]))) z := fun {L z} h => by
            cases h with
            | great h1 h2 => exact .great h1 h2
            | none h1 h2 => exact .none h1 h2
            | some p g h1 h2 h3 => exact .some p g h1 h2 (by rw [upd_ne (ne_of h3 hF12 (by intro z; cases z))]; exact h3)
          rw [List.getElem?_append] at h
          by_cases hi2 : i < xs.length
          · rw [if_pos hi2] at h
            exact mv ((hxs i y' h).sol g12.sol)
          · rw [if_neg hi2] at h
            have h0 : i - xs.length = 0 := by
              have := (List.getElem?_eq_some_iff.mp h).1
              simp at this; omega
            rw [h0] at h; cases h
            rw [show i = j by omega]
            exact mv hy
        refine ⟨rfl, _, rfl, _, rfl, m, Mj, k, rfl, g11.tab hT9, hMj _ g11, Oj, fun H' g hg hc => ?_, fun H' p x g hg hf hp => ?_, fun H' g hk hg => ?_⟩
        · exact fin H' .non g (.none (by rw [← Lj, ← lsj]; exact hg) (by rw [← Lj, ← lsj]; exact hc))
        · exact fin H' (.ref p) g (.some p x (by rw [← Lj, ← lsj]; exact hg) (by rw [← Lj, ← lsj]; exact hf) hp)
        · exact fin H' (.str "great") g (.great hk (by rw [← Lj, ← lsj]; exact hg))
      · obtain ⟨xs, hxl, g11, hR11, hF11, hxs⟩ := h
        match xs, hxl with
        | [x1, x2, x3], _ =>
          have a1 : AnsV M.ls M.lang k H11 x1 := hxs 0 x1 rfl
          have a2 : AnsV M.ls Mo.lang k H11 x2 := hxs 1 x2 rfl
          have a3 : AnsV M.ls Ml.lang k H11 x3 := hxs 2 x3 rfl
          refine ⟨F, _, rfl, .of hF11, rfl, _, _, rfl, _, _, rfl, _, _, rfl, rfl, ?_⟩
          have sg : SeqAt.shaped (.str "great") = true := sh_of (okd_str (by decide +kernel)) (by decide)
          obtain ⟨d1, p1, s1, e1⟩ := ans_eq (K := K) O.abc a1
          obtain ⟨d2, p2, s2, e2⟩ := ans_eq (K := K) O.abc a2
          obtain ⟨t1, t2⟩ := ans_twin tw1 a1 a2
          refine ⟨_, rfl, d1, _, p1, .str _, s1, sg, _, rfl, d2, _, p2, .str _, s2, sg, rfl, _, rfl, ?_⟩
          refine itF (by show (!decide (V.bl (PyData.eqv d1 (.str "great")) = V.bl (PyData.eqv d2 (.str "great")))) = false; rw [e1, e2, t1]; simp) ?_
          refine ⟨_, rfl, rfl, _, rfl, rfl, rfl, _, rfl, ?_⟩
          refine itF (by show (!decide (V.bl (decide (x1 = .non)) = V.bl (decide (x2 = .non)))) = false; rw [t2]; simp) ?_
          refine ⟨_, rfl, d1, _, p1, .str _, s1, sg, _, rfl, ?_⟩
          have g911 := g9.trans g11
          have hT11 := g11.tab hT9
          cases a1 with
          | great h1 h2 =>
            refine itT (by rw [e1]; exact decide_eq_true rfl) ?_
            exact ⟨_, _, _, _, _, rfl, g911⟩
          | none h1 h2 =>
            refine itF (by rw [e1]; exact decide_eq_false (by intro z; cases z)) ?_
            cases a3 with
            | great b1 b2 => exact absurd (qu.great ob b2) (h1 b1)
            | some pl gl b1 b2 b3 => exact absurd (qu.cond ob O.fin_sy k b2.1) h2
            | none b1 b2 =>
              refine ⟨_, rfl, rfl, _, rfl, ?_⟩
              refine itT (decide_eq_true rfl) ?_
              refine ⟨_, rfl, rfl, _, rfl, ?_⟩
              refine itF (by show (!decide (V.non = V.non)) = false; rw [decide_eq_true rfl]; rfl) ?_
              have g8_11 := g911
              refine ⟨_, rfl, _, rfl, sm, Ms, k, rfl, hT11, hMs8.sol g8_11.sol, m1.toOk, fun H' g hg hc => ?_, fun H' p x g hg hf hp => ?_, fun H' g hk hg => ?_⟩
              · refine ⟨rfl, _, rfl, rfl, rfl, _, rfl, ?_⟩
                refine itF (by show (!decide (V.bl (decide (V.non = V.non)) = V.bl (decide (V.non = V.non)))) = false; simp) ?_
                refine ⟨_, rfl, rfl, _, rfl, ?_⟩
                refine itF (by show (!decide (V.non = V.non)) = false; rw [decide_eq_true rfl]; rfl) ?_
                refine ⟨_, rfl, rfl, _, rfl, ?_⟩
                refine itF (by show (!decide (V.non = V.non)) = false; rw [decide_eq_true rfl]; rfl) ?_
                exact ⟨_, _, _, _, _, rfl, g911.trans g⟩
              · exact absurd (tw0.symm.cond k (m2 ▸ hf.1)) h2
              · exact absurd (tw0.symm.great (m2 ▸ hg)) (h1 hk)
          | some pt gt h1 h2 h3 =>
            refine itF (by rw [e1]; exact decide_eq_false (by intro z; cases z)) ?_
            refine ⟨_, rfl, rfl, _, rfl, ?_⟩
            refine itF (decide_eq_false (by intro z; cases z)) ?_
            refine ⟨_, rfl, _, rfl, sm, Ms, k, rfl, hT11, hMs8.sol g911.sol, m1.toOk, fun H' g hg hc => ?_, fun H' p x g hg hf hp => ?_, fun H' g hk hg => ?_⟩
            · exact absurd (m2 ▸ tw0.cond k h2.1) hc
            · refine ⟨rfl, _, rfl, rfl, rfl, _, rfl, ?_⟩
              refine itF (by show (!decide (V.bl (decide (V.ref p = V.non)) = V.bl (decide (V.ref pt = V.non)))) = false; simp) ?_
              refine ⟨_, rfl, rfl, _, rfl, ?_⟩
              refine itT (by show (!decide (V.ref pt = V.non)) = true; rw [decide_eq_false (by intro z; cases z)]; rfl) ?_
              obtain ⟨c1, c2, c3, c4⟩ := h2
              have ok4t := Sg.ok_mono c3 (show 3900 ≤ 4000 by decide)
              refine ⟨_, rfl, _, rfl, sm, pt, Ms, gt, rfl, hMs8.sol (g911.trans g).sol, m1.toOk, g.sol _ _ h3 trivial, by rw [m2]; exact ok4t, fun H12 e12 _ => ⟨_, rfl, ?_⟩, fun H12 e12 hn => absurd (shows_same tw0 c3 c4) hn⟩
              have g12 := g.trans (.of e12)
              refine ⟨_, rfl, _, rfl, bx, pt, M, gt, rfl, hMb8.sol (g911.trans g12).sol, O, g12.sol _ _ h3 trivial, ok4t, fun H13 e13 _ => ⟨_, rfl, ?_⟩, fun H13 e13 hn => absurd c4 hn⟩
              have g13 := g12.trans (.of e13)
              refine ⟨_, rfl, rfl, _, rfl, ?_⟩
              by_cases hks : k = .starfree
              · refine itF (by subst hks; show (!decide (V.str "starfree" = V.str "starfree")) = false; rw [decide_eq_true rfl]; rfl) ?_
                cases a3 with
                | great b1 b2 => exact absurd (qu.great ob b2) (h1 b1)
                | none b1 b2 =>
                  refine ⟨_, rfl, rfl, _, rfl, ?_⟩
                  refine itF (by show (!decide (V.non = V.non)) = false; rw [decide_eq_true rfl]; rfl) ?_
                  exact ⟨_, _, _, _, _, rfl, g911.trans g13⟩
                | some pl gl b1 b2 b3 =>
                  refine ⟨_, rfl, rfl, _, rfl, ?_⟩
                  refine itT (by show (!decide (V.ref pl = V.non)) = true; rw [decide_eq_false (by intro z; cases z)]; rfl) ?_
                  refine ⟨_, rfl, _, rfl, _, rfl, M.ls, pl, b, gl, rfl, Gr.sol g13 _ _ b3 trivial, b2.2.2.1, hb, fun H20 p20 e20 hp20 => ?_⟩
                  refine ⟨bx, p20, M, gl.lead b, rfl, (hMb8.sol (g911.trans g13).sol).sol (.of e20), O, hp20, Sg.ok_mono (lead_ok ob b2.2.2.1) (by omega), fun H21 e21 _ => ⟨_, rfl, ?_⟩, fun H21 e21 hn => absurd (shows_lead qu b2.2.2.1 b2.2.2.2) hn⟩
                  exact ⟨_, _, _, _, _, rfl, (g911.trans g13).trans ((Gr.of e20).trans (.of e21))⟩
              · refine itT (by show (!decide (V.str (kdN k) = V.str "starfree")) = true; cases k <;> first | exact absurd rfl hks | decide +kernel) ?_
                have hgs : gt.kd ≠ .starfree := by rw [c2]; exact hks
                refine ⟨_, rfl, _, rfl, pt, gt, rfl, g13.sol _ _ h3 trivial, hgs, fun H14 q14 e14 hq14 => ?_⟩
                have g14 := g13.trans (.of e14)
                refine ⟨ot, q14, Mo, gt.turn, rfl, hMo8.sol (g911.trans g14).sol, o1.toOk, hq14, by rw [o2]; exact turn_ok ok4t, fun H15 e15 _ => ⟨_, rfl, ?_⟩, fun H15 e15 hn => absurd (shows_turn tw1 c3 hgs c4) hn⟩
                have g15 := g14.trans (.of e15)
                refine ⟨_, rfl, _, rfl, ot, pt, Mo, gt, rfl, hMo8.sol (g911.trans g15).sol, o1.toOk, g15.sol _ _ h3 trivial, by rw [o2]; exact ok4t, fun H16 e16 hy => absurd hy (shows_not tw1 c3 c4), fun H16 e16 _ => ⟨_, rfl, ?_⟩⟩
                have g16 := g15.trans (.of e16)
                cases a3 with
                | great b1 b2 => exact absurd (qu.great ob b2) (h1 b1)
                | none b1 b2 =>
                  refine ⟨_, rfl, rfl, _, rfl, ?_⟩
                  refine itF (by show (!decide (V.non = V.non)) = false; rw [decide_eq_true rfl]; rfl) ?_
                  exact ⟨_, _, _, _, _, rfl, g911.trans g16⟩
                | some pl gl b1 b2 b3 =>
                  refine ⟨_, rfl, rfl, _, rfl, ?_⟩
                  refine itT (by show (!decide (V.ref pl = V.non)) = true; rw [decide_eq_false (by intro z; cases z)]; rfl) ?_
                  refine ⟨_, rfl, _, rfl, _, rfl, M.ls, pl, b, gl, rfl, Gr.sol g16 _ _ b3 trivial, b2.2.2.1, hb, fun H20 p20 e20 hp20 => ?_⟩
                  refine ⟨bx, p20, M, gl.lead b, rfl, (hMb8.sol (g911.trans g16).sol).sol (.of e20), O, hp20, Sg.ok_mono (lead_ok ob b2.2.2.1) (by omega), fun H21 e21 _ => ⟨_, rfl, ?_⟩, fun H21 e21 hn => absurd (shows_lead qu b2.2.2.1 b2.2.2.2) hn⟩
                  exact ⟨_, _, _, _, _, rfl, (g911.trans g16).trans ((Gr.of e20).trans (.of e21))⟩
            · exact absurd (tw0.symm.great (m2 ▸ hg)) (h1 hk)
    · rintro σ H9 ⟨v8, v9, v10, v11, v12, rfl, g9⟩
      exact q _
end
end Sw
/-! The law's promise out of what the head tells. -/
namespace Sw
open PySem PySem.Spec PyProof.Rows L2 LamX NdefX
theorem relAll_len : ∀ {vs : List V} {us : List Value}, He.relAll vs us = true → us.length = vs.length
  | [], [], _ => rfl
  | [], _ :: _, h => by cases h
  | _ :: _, [], h => by cases h
  | v :: vs, u :: us, h => by
    have := relAll_len (He.ba (show (He.relB v u && He.relAll vs us) = true from h)).2
    simp [this]
theorem tupB_ok {K : PySem.W.Frag} {a : Addr} {xs : List V} (h : tupB K a xs = true) (hl : xs.length ≤ 1000) : (∀ H, SqT K H a xs) ∧ ∃ o, K.lookup a = some o ∧ o.cls = .type "tuple" ∧ o.dict = none := by
  unfold tupB at h
  cases q : K.lookup a with
  | none => rw [q] at h; cases h
  | some o =>
    obtain ⟨oc, od, dt, osl⟩ := o
    rw [q] at h
    cases oc with
    | type c =>
      cases od with
      | none =>
        cases dt with
        | seq its n =>
          obtain ⟨h1, h2⟩ := He.ba h
          have e : c = "tuple" := of_decide_eq_true h1
          subst e
          have hlen := relAll_len h2
          exact ⟨fun H => .inr ⟨_, its, n, q, rfl, rfl, by rw [← Array.length_toList, hlen]; exact sl (by omega), He.relAll_ok h2⟩, _, rfl, rfl, rfl⟩
        | _ => cases h
      | some d => cases dt <;> cases h
    | _ => cases od <;> cases dt <;> cases h
section
variable {K : PySem.W.Frag} {h : Heap} {mg : Str → Option Value} {w : World} {base : Heap}
theorem defF_of {d : He.DefD} {fd : FuncData} {x : Str} {st : Stmt} {kws : List (Str × V)} (F : FunD K d.name d.qual d.params d.body d.scope (d.dvs K) (d.kws K) (He.fAd K d.at_) fd) (h1 : d.at_ = (x, none)) (g : mg x = some (.ref (He.ga K x)))
    (e : FunD K d.name d.qual d.params d.body d.scope (d.dvs K) (d.kws K) (He.fAd K d.at_) fd = FunD K x x (defArgs st) (defBody st) (defScope st) [] kws (He.fAd K d.at_) fd) : DefF K mg x st kws := by
  refine ⟨_, fd, e ▸ F, ?_⟩
  rw [h1]; exact g
theorem funC_of {p : He.Defn} {x q : Str} {st : Stmt} {fd : FuncData} (F : FunD K x q (defArgs st) (defBody st) (defScope st) [] [] (He.fAd K p) fd) : FunC K x q st (He.fAd K p) (He.codeOf K p) fd := by
  obtain ⟨oc, od, dV, kV, doc, pm, an, cdv, ct, osl, e, lk, hc, hd, _⟩ := F.ex
  have hd' : dV = .none := by
    rcases hd with ⟨_, e⟩ | ⟨e, _⟩
    · exact e
    · exact absurd rfl e
  obtain ⟨c, rfl⟩ := He.codeIn_ref hc
  have hcd := He.codeOf_eq (K := K) (p := p) (c := c) lk (by rw [e])
  rw [hcd]
  subst hd'
  exact ⟨oc, od, kV, doc, pm, ct, an, osl, e, lk, hc⟩
abbrev cds (K : PySem.W.Frag) : Cds := ⟨He.cT K ("least", none), He.cT K ("walked", none), He.cT K ("all_but", none), He.cT K ("left_behind", none), He.cT K ("Walks", some "round_of"), He.cT K ("Walks", some "to_end"), He.cT K ("Walks", some "parting"), He.cT K ("falling_swing", none)⟩
theorem facts_T (X : K.In h) (G : h.Ns mainGlobals mg) (c : He.SaysD faL fnL K) : Tx K mg (He.ga K "Machine") (He.ga K "Algebra") (He.ga K "Walks") (He.ga K "TooGreat") := by
  exact {
    z_len := He.free_ok X G (c.fact 0 rfl)
    z_isinstance := He.free_ok X G (c.fact 1 rfl)
    z_int := He.free_ok X G (c.fact 2 rfl)
    z_bool := He.free_ok X G (c.fact 3 rfl)
    z_str := He.free_ok X G (c.fact 4 rfl)
    z_list := He.free_ok X G (c.fact 5 rfl)
    z_tuple := He.free_ok X G (c.fact 6 rfl)
    z_all := He.free_ok X G (c.fact 7 rfl)
    z_any := He.free_ok X G (c.fact 8 rfl)
    z_zip := He.free_ok X G (c.fact 9 rfl)
    z_range := He.free_ok X G (c.fact 10 rfl)
    z_enumerate := He.free_ok X G (c.fact 11 rfl)
    z_sorted := He.free_ok X G (c.fact 12 rfl)
    z_min := He.free_ok X G (c.fact 13 rfl)
    i_MOST_LETTERS := He.int_ok X G (c.fact 14 rfl)
    i_MOST_IN_WORD := He.int_ok X G (c.fact 15 rfl)
    i_MOST_STANDS := He.int_ok X G (c.fact 16 rfl)
    i_MOST_ELEMENTS := He.int_ok X G (c.fact 17 rfl)
    i_MOST_SIGNS := He.int_ok X G (c.fact 18 rfl)
    i_MOST_ROUND := He.int_ok X G (c.fact 19 rfl)
    i_PIECE := He.int_ok X G (c.fact 20 rfl)
    s_SMALL := He.str_ok X G (c.fact 21 rfl)
    clCM := He.cls_ok (c.fact 22 rfl)
    mgCM := He.glo_ok X G (c.fact 23 rfl)
    mkCM := (He.mkr_ok (c.fact 24 rfl)).1
    kpCM := (He.mkr_ok (c.fact 24 rfl)).4
    nCM_letters_told := He.noat_ok (c.fact 25 rfl)
    nCM_stand_rows := He.noat_ok (c.fact 26 rfl)
    clCA := He.cls_ok (c.fact 27 rfl)
    mgCA := He.glo_ok X G (c.fact 28 rfl)
    mkCA := (He.mkr_ok (c.fact 29 rfl)).1
    kpCA := (He.mkr_ok (c.fact 29 rfl)).4
    nCA_base := He.noat_ok (c.fact 30 rfl)
    nCA_doings := He.noat_ok (c.fact 31 rfl)
    nCA_word_list := He.noat_ok (c.fact 32 rfl)
    nCA_numbers_by := He.noat_ok (c.fact 33 rfl)
    nCA_table := He.noat_ok (c.fact 34 rfl)
    clCW := He.cls_ok (c.fact 35 rfl)
    mgCW := He.glo_ok X G (c.fact 36 rfl)
    mkCW := (He.mkr_ok (c.fact 37 rfl)).1
    kpCW := (He.mkr_ok (c.fact 37 rfl)).4
    nCW_base := He.noat_ok (c.fact 38 rfl)
    nCW_first_words := He.noat_ok (c.fact 39 rfl)
    nCW_stands := He.noat_ok (c.fact 40 rfl)
    nCW_signs := He.noat_ok (c.fact 41 rfl)
    d_is_number := by
      obtain ⟨fd, F⟩ := c.def_ 0 (d := D_is_number) rfl
      exact ⟨_, fd, F, He.glo_ok X G (c.fact 47 rfl)⟩
    d_is_letters := by
      obtain ⟨fd, F⟩ := c.def_ 1 (d := D_is_letters) rfl
      exact ⟨_, fd, F, He.glo_ok X G (c.fact 48 rfl)⟩
    d_need_letters := by
      obtain ⟨fd, F⟩ := c.def_ 2 (d := D_need_letters) rfl
      exact ⟨_, fd, F, He.glo_ok X G (c.fact 49 rfl)⟩
    d_is_word_to := by
      obtain ⟨fd, F⟩ := c.def_ 3 (d := D_is_word_to) rfl
      exact ⟨_, fd, F, He.glo_ok X G (c.fact 50 rfl)⟩
    d_is_word := by
      obtain ⟨fd, F⟩ := c.def_ 4 (d := D_is_word) rfl
      exact ⟨_, fd, F, He.glo_ok X G (c.fact 51 rfl)⟩
    d_need_word := by
      obtain ⟨fd, F⟩ := c.def_ 5 (d := D_need_word) rfl
      exact ⟨_, fd, F, He.glo_ok X G (c.fact 52 rfl)⟩
    d_is_stand := by
      obtain ⟨fd, F⟩ := c.def_ 6 (d := D_is_stand) rfl
      exact ⟨_, fd, F, He.glo_ok X G (c.fact 53 rfl)⟩
    d_Machine_init := by
      obtain ⟨fd, F⟩ := c.def_ 7 (d := D_Machine_init) rfl
      exact ⟨_, fd, F, He.meth_ok (c.fact 54 rfl)⟩
    d_Machine_letters := by
      obtain ⟨fd, F⟩ := c.def_ 8 (d := D_Machine_letters) rfl
      exact ⟨_, fd, F, He.meth_ok (c.fact 55 rfl)⟩
    d_Machine_rows := by
      obtain ⟨fd, F⟩ := c.def_ 9 (d := D_Machine_rows) rfl
      exact ⟨_, fd, F, He.meth_ok (c.fact 56 rfl)⟩
    d_Machine_behind := by
      obtain ⟨fd, F⟩ := c.def_ 10 (d := D_Machine_behind) rfl
      exact ⟨_, fd, F, He.meth_ok (c.fact 57 rfl)⟩
    d_gone_through := by
      obtain ⟨fd, F⟩ := c.def_ 11 (d := D_gone_through) rfl
      exact ⟨_, fd, F, He.glo_ok X G (c.fact 58 rfl)⟩
    d_classed := by
      obtain ⟨fd, F⟩ := c.def_ 12 (d := D_classed) rfl
      exact ⟨_, fd, F, He.glo_ok X G (c.fact 59 rfl)⟩
    d_least_rows := by
      obtain ⟨fd, F⟩ := c.def_ 13 (d := D_least_rows) rfl
      exact ⟨_, fd, F, He.glo_ok X G (c.fact 60 rfl)⟩
    d_built := by
      obtain ⟨fd, F⟩ := c.def_ 14 (d := D_built) rfl
      exact ⟨_, fd, F, He.glo_ok X G (c.fact 61 rfl)⟩
    d_firsts := by
      obtain ⟨fd, F⟩ := c.def_ 15 (d := D_firsts) rfl
      exact ⟨_, fd, F, He.glo_ok X G (c.fact 62 rfl)⟩
    d_Algebra_init := by
      obtain ⟨fd, F⟩ := c.def_ 17 (d := D_Algebra_init) rfl
      exact ⟨_, fd, F, He.meth_ok (c.fact 64 rfl)⟩
    d_Algebra_led_on := by
      obtain ⟨fd, F⟩ := c.def_ 18 (d := D_Algebra_led_on) rfl
      exact ⟨_, fd, F, He.meth_ok (c.fact 65 rfl)⟩
    d_Algebra_len := by
      obtain ⟨fd, F⟩ := c.def_ 19 (d := D_Algebra_len) rfl
      exact ⟨_, fd, F, He.meth_ok (c.fact 66 rfl)⟩
    d_Algebra_need_element := by
      obtain ⟨fd, F⟩ := c.def_ 20 (d := D_Algebra_need_element) rfl
      exact ⟨_, fd, F, He.meth_ok (c.fact 67 rfl)⟩
    d_Algebra_letters := by
      obtain ⟨fd, F⟩ := c.def_ 21 (d := D_Algebra_letters) rfl
      exact ⟨_, fd, F, He.meth_ok (c.fact 68 rfl)⟩
    d_Algebra_words := by
      obtain ⟨fd, F⟩ := c.def_ 22 (d := D_Algebra_words) rfl
      exact ⟨_, fd, F, He.meth_ok (c.fact 69 rfl)⟩
    d_Algebra_element := by
      obtain ⟨fd, F⟩ := c.def_ 23 (d := D_Algebra_element) rfl
      exact ⟨_, fd, F, He.meth_ok (c.fact 70 rfl)⟩
    d_Algebra_product := by
      obtain ⟨fd, F⟩ := c.def_ 24 (d := D_Algebra_product) rfl
      exact ⟨_, fd, F, He.meth_ok (c.fact 71 rfl)⟩
    d_Algebra_times := by
      obtain ⟨fd, F⟩ := c.def_ 25 (d := D_Algebra_times) rfl
      exact ⟨_, fd, F, He.meth_ok (c.fact 72 rfl)⟩
    d_next_of := by
      obtain ⟨fd, F⟩ := c.def_ 26 (d := D_next_of) rfl
      exact ⟨_, fd, F, He.glo_ok X G (c.fact 73 rfl)⟩
    d_ends_of := by
      obtain ⟨fd, F⟩ := c.def_ 27 (d := D_ends_of) rfl
      exact ⟨_, fd, F, He.glo_ok X G (c.fact 74 rfl)⟩
    d_may_stand := by
      obtain ⟨fd, F⟩ := c.def_ 31 (d := D_may_stand) rfl
      exact ⟨_, fd, F, He.glo_ok X G (c.fact 78 rfl)⟩
    d_is_swing := by
      obtain ⟨fd, F⟩ := c.def_ 32 (d := D_is_swing) rfl
      exact ⟨_, fd, F, He.glo_ok X G (c.fact 79 rfl)⟩
    d_swing_parts := by
      obtain ⟨fd, F⟩ := c.def_ 33 (d := D_swing_parts) rfl
      exact ⟨_, fd, F, He.glo_ok X G (c.fact 80 rfl)⟩
    d_led_about := by
      obtain ⟨fd, F⟩ := c.def_ 34 (d := D_led_about) rfl
      exact ⟨_, fd, F, He.glo_ok X G (c.fact 81 rfl)⟩
    d_Walks_init := by
      obtain ⟨fd, F⟩ := c.def_ 35 (d := D_Walks_init) rfl
      exact ⟨_, fd, F, He.meth_ok (c.fact 82 rfl)⟩
    d_Walks_moved := by
      obtain ⟨fd, F⟩ := c.def_ 36 (d := D_Walks_moved) rfl
      exact ⟨_, fd, F, He.meth_ok (c.fact 83 rfl)⟩
    d_Walks_word_from := by
      obtain ⟨fd, F⟩ := c.def_ 37 (d := D_Walks_word_from) rfl
      exact ⟨_, fd, F, He.meth_ok (c.fact 84 rfl)⟩
    d_Walks_ends := by
      obtain ⟨fd, F⟩ := c.def_ 39 (d := D_Walks_ends) rfl
      exact ⟨_, fd, F, He.meth_ok (c.fact 86 rfl)⟩
    d_Walks_all_stands := by
      obtain ⟨fd, F⟩ := c.def_ 42 (d := D_Walks_all_stands) rfl
      exact ⟨_, fd, F, He.meth_ok (c.fact 89 rfl)⟩
    d_few_swing := by
      obtain ⟨fd, F⟩ := c.def_ 43 (d := D_few_swing) rfl
      exact ⟨_, fd, F, He.glo_ok X G (c.fact 90 rfl)⟩
    d_starts_swing := by
      obtain ⟨fd, F⟩ := c.def_ 44 (d := D_starts_swing) rfl
      exact ⟨_, fd, F, He.glo_ok X G (c.fact 91 rfl)⟩
    d_ends_swing := by
      obtain ⟨fd, F⟩ := c.def_ 45 (d := D_ends_swing) rfl
      exact ⟨_, fd, F, He.glo_ok X G (c.fact 92 rfl)⟩
    d_counts_swing := by
      obtain ⟨fd, F⟩ := c.def_ 46 (d := D_counts_swing) rfl
      exact ⟨_, fd, F, He.glo_ok X G (c.fact 93 rfl)⟩
    d_led_ahead := by
      obtain ⟨fd, F⟩ := c.def_ 48 (d := D_led_ahead) rfl
      exact ⟨_, fd, F, He.glo_ok X G (c.fact 95 rfl)⟩
    d_on_rounds := by
      obtain ⟨fd, F⟩ := c.def_ 49 (d := D_on_rounds) rfl
      exact ⟨_, fd, F, He.glo_ok X G (c.fact 96 rfl)⟩
    d_word_ahead := by
      obtain ⟨fd, F⟩ := c.def_ 50 (d := D_word_ahead) rfl
      exact ⟨_, fd, F, He.glo_ok X G (c.fact 97 rfl)⟩
    d_stand_apart := by
      obtain ⟨fd, F⟩ := c.def_ 51 (d := D_stand_apart) rfl
      exact ⟨_, fd, F, He.glo_ok X G (c.fact 98 rfl)⟩
    d_subwords_swing := by
      obtain ⟨fd, F⟩ := c.def_ 52 (d := D_subwords_swing) rfl
      exact ⟨_, fd, F, He.glo_ok X G (c.fact 99 rfl)⟩
    d_round_by := by
      obtain ⟨fd, F⟩ := c.def_ 53 (d := D_round_by) rfl
      exact ⟨_, fd, F, He.glo_ok X G (c.fact 100 rfl)⟩
    d_starfree_swing := by
      obtain ⟨fd, F⟩ := c.def_ 54 (d := D_starfree_swing) rfl
      exact ⟨_, fd, F, He.glo_ok X G (c.fact 101 rfl)⟩
    d_turning_swing := by
      obtain ⟨fd, F⟩ := c.def_ 55 (d := D_turning_swing) rfl
      exact ⟨_, fd, F, He.glo_ok X G (c.fact 102 rfl)⟩
    d_swing := by
      obtain ⟨fd, F⟩ := c.def_ 56 (d := D_swing) rfl
      exact ⟨_, fd, F, He.glo_ok X G (c.fact 103 rfl)⟩
    d_walked_to := by
      obtain ⟨fd, F⟩ := c.def_ 57 (d := D_walked_to) rfl
      exact ⟨_, fd, F, He.glo_ok X G (c.fact 104 rfl)⟩
    d_is_in := by
      obtain ⟨fd, F⟩ := c.def_ 58 (d := D_is_in) rfl
      exact ⟨_, fd, F, He.glo_ok X G (c.fact 105 rfl)⟩
    d_shows := by
      obtain ⟨fd, F⟩ := c.def_ 59 (d := D_shows) rfl
      exact ⟨_, fd, F, He.glo_ok X G (c.fact 106 rfl)⟩
    d_q_begun := by
      obtain ⟨fd, F⟩ := c.def_ 60 (d := D_q_begun) rfl
      exact ⟨_, fd, F, He.glo_ok X G (c.fact 107 rfl)⟩
    d_q_mixed := by
      obtain ⟨fd, F⟩ := c.def_ 61 (d := D_q_mixed) rfl
      exact ⟨_, fd, F, He.glo_ok X G (c.fact 108 rfl)⟩
    d_q_take := by
      obtain ⟨fd, F⟩ := c.def_ 62 (d := D_q_take) rfl
      exact ⟨_, fd, F, He.glo_ok X G (c.fact 109 rfl)⟩
    d_q_pick := by
      obtain ⟨fd, F⟩ := c.def_ 63 (d := D_q_pick) rfl
      exact ⟨_, fd, F, He.glo_ok X G (c.fact 110 rfl)⟩
    d_q_abc := by
      obtain ⟨fd, F⟩ := c.def_ 64 (d := D_q_abc) rfl
      exact ⟨_, fd, F, He.glo_ok X G (c.fact 111 rfl)⟩
    d_q_token := by
      obtain ⟨fd, F⟩ := c.def_ 65 (d := D_q_token) rfl
      exact ⟨_, fd, F, He.glo_ok X G (c.fact 112 rfl)⟩
    d_q_table := by
      obtain ⟨fd, F⟩ := c.def_ 66 (d := D_q_table) rfl
      exact ⟨_, fd, F, He.glo_ok X G (c.fact 113 rfl)⟩
    d_q_drawn_table := by
      obtain ⟨fd, F⟩ := c.def_ 67 (d := D_q_drawn_table) rfl
      exact ⟨_, fd, F, He.glo_ok X G (c.fact 114 rfl)⟩
    d_q_asked := by
      obtain ⟨fd, F⟩ := c.def_ 68 (d := D_q_asked) rfl
      exact ⟨_, fd, F, He.glo_ok X G (c.fact 115 rfl)⟩
    d_q_turned := by
      obtain ⟨fd, F⟩ := c.def_ 69 (d := D_q_turned) rfl
      exact ⟨_, fd, F, He.glo_ok X G (c.fact 116 rfl)⟩
    d_q_ahead := by
      obtain ⟨fd, F⟩ := c.def_ 70 (d := D_q_ahead) rfl
      exact ⟨_, fd, F, He.glo_ok X G (c.fact 117 rfl)⟩
    d_law := by
      obtain ⟨fd, F⟩ := c.def_ 71 (d := D_law) rfl
      exact ⟨_, fd, F, He.glo_ok X G (c.fact 118 rfl)⟩
  }
theorem facts_Y (X : K.In h) (G : h.Ns mainGlobals mg) (c : He.SaysD faL fnL K) (nd : (tfL.map fun p => (He.cT K p).2).Nodup) (tb : ∀ p ∈ tfL, TabB base mg (He.cT K p).1 (He.cT K p).2) : Ty K mg base (He.ga K "Walks") (cds K) := by
  exact {
    lst := by
      obtain ⟨fd, F⟩ := c.def_ 16 (d := D_least) rfl
      exact ⟨_, fd, funC_of (p := ("least", none)) F, He.glo_ok X G (c.fact 63 rfl), F.kp, tb ("least", none) (by unfold tfL; simp)⟩
    wlk := by
      obtain ⟨fd, F⟩ := c.def_ 28 (d := D_walked) rfl
      exact ⟨_, fd, funC_of (p := ("walked", none)) F, He.glo_ok X G (c.fact 75 rfl), F.kp, tb ("walked", none) (by unfold tfL; simp)⟩
    abt := by
      obtain ⟨fd, F⟩ := c.def_ 29 (d := D_all_but) rfl
      exact ⟨_, fd, funC_of (p := ("all_but", none)) F, He.glo_ok X G (c.fact 76 rfl), F.kp, tb ("all_but", none) (by unfold tfL; simp)⟩
    lft := by
      obtain ⟨fd, F⟩ := c.def_ 30 (d := D_left_behind) rfl
      exact ⟨_, fd, funC_of (p := ("left_behind", none)) F, He.glo_ok X G (c.fact 77 rfl), F.kp, tb ("left_behind", none) (by unfold tfL; simp)⟩
    rnd := by
      obtain ⟨fd, F⟩ := c.def_ 38 (d := D_Walks_round_of) rfl
      exact ⟨_, fd, funC_of (p := ("Walks", some "round_of")) F, He.meth_ok (c.fact 85 rfl), tb ("Walks", some "round_of") (by unfold tfL; simp)⟩
    ten := by
      obtain ⟨fd, F⟩ := c.def_ 40 (d := D_Walks_to_end) rfl
      exact ⟨_, fd, funC_of (p := ("Walks", some "to_end")) F, He.meth_ok (c.fact 87 rfl), tb ("Walks", some "to_end") (by unfold tfL; simp)⟩
    prt := by
      obtain ⟨fd, F⟩ := c.def_ 41 (d := D_Walks_parting) rfl
      exact ⟨_, fd, funC_of (p := ("Walks", some "parting")) F, He.meth_ok (c.fact 88 rfl), tb ("Walks", some "parting") (by unfold tfL; simp)⟩
    fal := by
      obtain ⟨fd, F⟩ := c.def_ 47 (d := D_falling_swing) rfl
      exact ⟨_, fd, funC_of (p := ("falling_swing", none)) F, He.glo_ok X G (c.fact 94 rfl), F.kp, tb ("falling_swing", none) (by unfold tfL; simp)⟩
    nd := nd
  }
theorem facts_G (X : K.In h) (G : h.Ns mainGlobals mg) (c : He.SaysD faL fnL K) : Tg K mg (He.ga K "TooGreat") := by
  obtain ⟨e1, e2, e3, e4⟩ := He.exc_ok (c.fact 45 rfl)
  exact ⟨He.glo_ok X G (c.fact 42 rfl), e1, e2, e3, e4, He.exm_ok (c.fact 46 rfl)⟩
theorem facts_Z (X : K.In h) (G : h.Ns mainGlobals mg) (c : He.SaysD faL fnL K) (e : exB K = true) : Tsh K mg (He.ga K "SHAPES") := by
  obtain ⟨h1, h2⟩ := tupB_ok (He.ba (He.ba e).2).1 (by decide)
  exact ⟨He.glo_ok X G (c.fact 43 rfl), h1, h2⟩
theorem facts_F (X : K.In h) (G : h.Ns mainGlobals mg) (c : He.SaysT faL fnL tsL w K) (e : exB K = true) : Tfo K w mg (He.ga K "FORMS") := by
  obtain ⟨es, n, KD⟩ := c.tab 0 (t := (fun K => He.ga K "FORMS", kds.map kdN)) rfl
  refine ⟨He.glo_ok X G (c.d.fact 44 rfl), ⟨es, n, KD⟩, fun k => ?_⟩
  exact He.valsB_ok (He.ba (He.ba e).2).2 (q := (kdN k, .str (S (formOf k)))) (List.mem_map.mpr ⟨k, by cases k <;> decide, rfl⟩)
theorem law_at (X : K.In h) (G : h.Ns mainGlobals mg) {fa : Addr} (hfa : mg ("law" : Str) = some (.ref fa)) (c : He.SaysX faL fnL tsL tfL exB w h K) :
    LawAtS PySem.Challenge.rw_swingwords_k65_whole_swings_led_along w K CX0 12 63 "_law_script" mg fa h := by
  have cd := c.t.d
  have nd : (tfL.map fun p => (He.cT K p).2).Nodup := of_decide_eq_true (He.ba c.more).1
  obtain ⟨fd, F⟩ := cd.def_ 71 (d := D_law) rfl
  have e := hfa.symm.trans (He.glo_ok X G (cd.fact 118 rfl : (He.Fa.glo "law").ok K = true))
  cases e
  refine ⟨fd, tfL.map (He.cT K), spLaw K (cds K), fun p hp => ?_, fun p hp => ?_, fun p hp => ?_, fun s u => ?_, fun H a ns hl _ hT hS => ?_, fun base KB GB tb => ?_⟩
  · obtain ⟨q, hq, rfl⟩ := List.mem_map.mp hp; exact c.empty q hq
  · obtain ⟨q, hq, rfl⟩ := List.mem_map.mp hp; exact c.out q hq
  · obtain ⟨q, hq, rfl⟩ := List.mem_map.mp hp; exact PySem.W.codeHd_of_K X (c.hd q hq)
  · exact FunD.bindsA (ps := ["_law_script"]) F (fun _ _ _ _ _ _ us hl => match us, hl with | [_], _ => rfl) s [u] rfl
  · refine ⟨a, ns, rfl, hS, hl, fun p hp => ?_, fun _ => rfl⟩
    have hm : p.1 ∈ (tfL.map (He.cT K)).map (·.2) := List.mem_map.mpr ⟨p, hp, rfl⟩ |> fun z => (show p.1 ∈ (Tb (cds K)).map (·.1) from z)
    obtain ⟨q, hq, e⟩ := List.mem_map.mp hm
    refine TabN.nil ?_
    rw [← e]; exact hT q hq
  · exact ok_law (facts_T KB GB cd) (facts_Y KB GB cd nd fun p hp => tb _ (List.mem_map.mpr ⟨p, hp, rfl⟩)) (facts_G KB GB cd) (facts_Z KB GB cd c.more) (facts_F KB GB c.t c.more) F
end
end Sw
/-! The end. -/
open PySem PySem.W PySem.Calls PyProof.Rows
theorem PySem.Challenge.cw_swingwords_k65_whole_swings_led_along_holds : PySem.Challenge.rw_swingwords_k65_whole_swings_led_along.Holds := by
  w_on; o_law
  refine HandSHeadRun.head_any (r := SwHead.R) (q := SwHead.qv) (H := SwHead.hk) (ob := SwHead.ob) (M := 9000) (loose := SwHead.names) (d := HandSHeadRun.topDef SwHead.R.prog 81) (kwd := []) SwHead.ob_eq
    (by kernel_rfl) (fun s => by kernel_rfl) SwHead.run (by kernel_rfl) (by kernel_rfl) (by kernel_rfl) (by rfl) (by first | assumption | decide +kernel) (by decide +kernel) ⟨rfl, rfl, rfl, rfl, rfl, by decide +kernel⟩ ?hw ?hc
  case hw => w_witness2
  case hc =>
    refine LamX.walk_ofTsE (l := PySem.Challenge.rw_swingwords_k65_whole_swings_led_along) (n := 63) (k := 12) (x := "_law_script") (CX := fun _ => L2.CX0) rfl (by decide) (by kernel_rfl) ⟨rfl, by decide, by decide⟩ ?F (fun _ _ _ _ _ z => z)
    intro w mg fa h Y G hmg0
    obtain ⟨K, KX, c⟩ := Y
    have hmg : mg ("law" : PySem.Str) = some (.ref fa) := by
      have e : (HandSHeadRun.topDef SwHead.R.prog 81).name = ("law" : PySem.Str) := by kernel_rfl
      rw [← e]
      exact hmg0
    exact ⟨K, KX, Sw.law_at KX G hmg c⟩
