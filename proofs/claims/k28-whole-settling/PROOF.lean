import PyProof.Rows.All
import Wide.All
import OpenK.AllK
import Wide.FinOn
import PyProof.ListStr
import PyProof.Draws
import KE.GoesMore
import HandS.ForMost
import HandS.Style
import HandS.TupAny
import HandS.FStr
import HandS.IsInst
import HandS.OwnEq
import HandS.Property
import HandS.Strs
import HandS.Zip
import HandS.Sort
import HandS.SortOrd
import HandS.SortRule
import PySem.Challenge.RW_lastside_k28_whole_settling
import HandS.Walk
set_option Elab.async false
set_option linter.all false
set_option maxRecDepth 100000
set_option maxHeartbeats 4000000
/-! The plain law, first part: trees, their forks' spans, ways and victims. -/
namespace Ls
inductive Tr where
  | dot
  | node (l r : Tr)
namespace Tr
def slots : Tr → Nat
  | dot => 1
  | node l r => l.slots + r.slots
theorem slots_pos : ∀ t : Tr, 1 ≤ t.slots
  | dot => Nat.le_refl 1
  | node l r => by have := slots_pos l; show 1 ≤ l.slots + r.slots; omega
/-- the root's number, where the tree's slots begin at o -/
def root (t : Tr) (o : Nat) : Nat := match t with
  | dot => o
  | node l _ => o + l.slots - 1
/-- the forks in postorder -/
def post : Tr → Nat → List Nat
  | dot, _ => []
  | node l r, o => l.post o ++ r.post (o + l.slots) ++ [o + l.slots - 1]
/-- first and last slot below each fork, by the fork's number -/
def spans : Tr → Nat → List (Nat × Nat)
  | dot, _ => []
  | node l r, o => l.spans o ++ (o, o + (l.slots + r.slots) - 1) :: r.spans (o + l.slots)
/-- the way to a slot: fork and side (true: left) -/
def way : Tr → Nat → Nat → List (Nat × Bool)
  | dot, _, _ => []
  | node l r, o, s => if s < o + l.slots then (o + l.slots - 1, true) :: l.way o s else (o + l.slots - 1, false) :: r.way (o + l.slots) s
/-- where the flags (true: left) lead a load -/
def victim : Tr → Nat → (Nat → Bool) → Nat
  | dot, o, _ => o
  | node l r, o, F => if F (o + l.slots - 1) = true then r.victim (o + l.slots) F else l.victim o F
/-- the least depth of a slot -/
def least : Tr → Nat
  | dot => 0
  | node l r => 1 + min l.least r.least
theorem spans_len : ∀ (t : Tr) (o : Nat), (t.spans o).length = t.slots - 1
  | dot, _ => rfl
  | node l r, o => by
    have h1 := spans_len l o
    have h2 := spans_len r (o + l.slots)
    have p1 := slots_pos l
    have p2 := slots_pos r
    show (l.spans o ++ _ :: r.spans (o + l.slots)).length = l.slots + r.slots - 1
    rw [List.length_append, List.length_cons, h1, h2]
    omega
theorem post_len : ∀ (t : Tr) (o : Nat), (t.post o).length = t.slots - 1
  | dot, _ => rfl
  | node l r, o => by
    have h1 := post_len l o
    have h2 := post_len r (o + l.slots)
    have p1 := slots_pos l
    have p2 := slots_pos r
    show (l.post o ++ r.post (o + l.slots) ++ [o + l.slots - 1]).length = l.slots + r.slots - 1
    rw [List.length_append, List.length_append, h1, h2]
    simp only [List.length_cons, List.length_nil]
    omega
theorem post_mem : ∀ (t : Tr) (o f : Nat), f ∈ t.post o → o ≤ f ∧ f + 1 < o + t.slots
  | dot, _, _, h => nomatch h
  | node l r, o, f, h => by
    have p1 := slots_pos l
    have p2 := slots_pos r
    show o ≤ f ∧ f + 1 < o + (l.slots + r.slots)
    rcases List.mem_append.mp h with h | h
    · rcases List.mem_append.mp h with h | h
      · have := post_mem l o f h; omega
      · have := post_mem r (o + l.slots) f h; omega
    · have e : f = o + l.slots - 1 := List.mem_singleton.mp h
      omega
theorem way_mem : ∀ (t : Tr) (o s : Nat) (p : Nat × Bool), o ≤ s → s < o + t.slots → p ∈ t.way o s → o ≤ p.1 ∧ p.1 + 1 < o + t.slots ∧ p.2 = decide (s ≤ p.1)
  | dot, _, _, _, _, _, h => nomatch h
  | node l r, o, s, p, h1, h2, h => by
    have p1 := slots_pos l
    have p2 := slots_pos r
    have h2' : s < o + (l.slots + r.slots) := h2
    show o ≤ p.1 ∧ p.1 + 1 < o + (l.slots + r.slots) ∧ p.2 = decide (s ≤ p.1)
    unfold way at h
    by_cases c : s < o + l.slots
    · rw [if_pos c] at h
      rcases List.mem_cons.mp h with e | h
      · subst e
        refine ⟨by show o ≤ o + l.slots - 1; omega, by show o + l.slots - 1 + 1 < _; omega, ?_⟩
        show true = decide (s ≤ o + l.slots - 1)
        rw [decide_eq_true (by omega)]
      · have := way_mem l o s p h1 c h
        exact ⟨this.1, by omega, this.2.2⟩
    · rw [if_neg c] at h
      rcases List.mem_cons.mp h with e | h
      · subst e
        refine ⟨by show o ≤ o + l.slots - 1; omega, by show o + l.slots - 1 + 1 < _; omega, ?_⟩
        show false = decide (s ≤ o + l.slots - 1)
        rw [decide_eq_false (by omega)]
      · have := way_mem r (o + l.slots) s p (by omega) (by omega) h
        exact ⟨by omega, by omega, this.2.2⟩
theorem victim_mem : ∀ (t : Tr) (o : Nat) (F : Nat → Bool), o ≤ t.victim o F ∧ t.victim o F < o + t.slots
  | dot, o, F => ⟨Nat.le_refl _, Nat.lt_succ_self o⟩
  | node l r, o, F => by
    have p1 := slots_pos l
    have p2 := slots_pos r
    show o ≤ (if F (o + l.slots - 1) = true then r.victim (o + l.slots) F else l.victim o F) ∧ (if F (o + l.slots - 1) = true then r.victim (o + l.slots) F else l.victim o F) < o + (l.slots + r.slots)
    split
    · have := victim_mem r (o + l.slots) F; omega
    · have := victim_mem l o F; omega
theorem victim_congr : ∀ (t : Tr) (o : Nat) (F G : Nat → Bool), (∀ f, o ≤ f → f + 1 < o + t.slots → F f = G f) → t.victim o F = t.victim o G
  | dot, _, _, _, _ => rfl
  | node l r, o, F, G, h => by
    have p1 := slots_pos l
    have p2 := slots_pos r
    have h' : ∀ f, o ≤ f → f + 1 < o + (l.slots + r.slots) → F f = G f := h
    show (if F (o + l.slots - 1) = true then r.victim (o + l.slots) F else l.victim o F) = (if G (o + l.slots - 1) = true then r.victim (o + l.slots) G else l.victim o G)
    rw [h' (o + l.slots - 1) (by omega) (by omega), victim_congr r (o + l.slots) F G (fun f a b => h' f (by omega) (by omega)), victim_congr l o F G (fun f a b => h' f (by omega) (by omega))]

/-! ### a list of spans that bears those of a tree -/
def SpOk (S : List (Nat × Nat)) (t : Tr) (o : Nat) : Prop := ∀ i p, (t.spans o)[i]? = some p → S[o + i]? = some p
theorem SpOk.self (t : Tr) : SpOk (t.spans 0) t 0 := fun i p h => by rw [Nat.zero_add]; exact h
theorem SpOk.root {S : List (Nat × Nat)} {l r : Tr} {o : Nat} (h : SpOk S (node l r) o) : S[o + l.slots - 1]? = some (o, o + (l.slots + r.slots) - 1) := by
  have p1 := slots_pos l
  have := h (l.slots - 1) (o, o + (l.slots + r.slots) - 1) (by
    show (l.spans o ++ _ :: r.spans (o + l.slots))[l.slots - 1]? = _
    rw [List.getElem?_append_right (by rw [spans_len]; exact Nat.le_refl _), spans_len, Nat.sub_self]
    rfl)
  rw [show o + l.slots - 1 = o + (l.slots - 1) by omega]
  exact this
theorem SpOk.left {S : List (Nat × Nat)} {l r : Tr} {o : Nat} (h : SpOk S (node l r) o) : SpOk S l o := fun i p e => by
  refine h i p ?_
  show (l.spans o ++ _ :: r.spans (o + l.slots))[i]? = _
  rw [List.getElem?_append_left (List.getElem?_eq_some_iff.mp e).1]
  exact e
theorem SpOk.right {S : List (Nat × Nat)} {l r : Tr} {o : Nat} (h : SpOk S (node l r) o) : SpOk S r (o + l.slots) := fun i p e => by
  have p1 := slots_pos l
  have := h (l.slots + i) p (by
    show (l.spans o ++ _ :: r.spans (o + l.slots))[l.slots + i]? = _
    rw [List.getElem?_append_right (by rw [spans_len]; omega), spans_len, show l.slots + i - (l.slots - 1) = i + 1 by omega, List.getElem?_cons_succ]
    exact e)
  rw [show o + l.slots + i = o + (l.slots + i) by omega]
  exact this
theorem SpOk.some {S : List (Nat × Nat)} : ∀ {t : Tr} {o : Nat}, SpOk S t o → ∀ f, f ∈ t.post o → ∃ a b, S[f]? = Option.some (a, b) ∧ o ≤ a ∧ a ≤ f ∧ f < b ∧ b < o + t.slots
  | dot, _, _, _, h => nomatch h
  | node l r, o, H, f, h => by
    have p1 := slots_pos l
    have p2 := slots_pos r
    show ∃ a b, S[f]? = Option.some (a, b) ∧ o ≤ a ∧ a ≤ f ∧ f < b ∧ b < o + (l.slots + r.slots)
    rcases List.mem_append.mp h with h | h
    · rcases List.mem_append.mp h with h | h
      · obtain ⟨a, b, e, x⟩ := SpOk.some H.left f h; exact ⟨a, b, e, by omega⟩
      · obtain ⟨a, b, e, x⟩ := SpOk.some H.right f h; exact ⟨a, b, e, by omega⟩
    · have e : f = o + l.slots - 1 := List.mem_singleton.mp h
      subst e
      exact ⟨o, o + (l.slots + r.slots) - 1, H.root, by omega⟩

/-! ### the law's own way to a slot -/
def inSpan (S : List (Nat × Nat)) (s f : Nat) : Bool := match S[f]? with
  | some (a, b) => decide (a ≤ s ∧ s ≤ b)
  | none => false
theorem way_out {S : List (Nat × Nat)} {t : Tr} {o s : Nat} (H : SpOk S t o) (hs : s < o ∨ o + t.slots ≤ s) : (t.post o).reverse.filter (inSpan S s) = [] := by
  refine List.filter_eq_nil_iff.mpr fun f hf => ?_
  obtain ⟨a, b, e, x⟩ := H.some f (List.mem_reverse.mp hf)
  unfold inSpan
  rw [e]
  show ¬ decide (a ≤ s ∧ s ≤ b) = true
  rw [decide_eq_true_iff]
  omega
theorem way_eq {S : List (Nat × Nat)} : ∀ {t : Tr} {o : Nat}, SpOk S t o → ∀ s, o ≤ s → s < o + t.slots → (t.post o).reverse.filter (inSpan S s) = (t.way o s).map (·.1)
  | dot, _, _, _, _, _ => rfl
  | node l r, o, H, s, h1, h2 => by
    have p1 := slots_pos l
    have p2 := slots_pos r
    have h2' : s < o + (l.slots + r.slots) := h2
    show (l.post o ++ r.post (o + l.slots) ++ [o + l.slots - 1]).reverse.filter (inSpan S s) = (way (node l r) o s).map (·.1)
    rw [List.reverse_append, List.reverse_append, List.filter_append, List.filter_append]
    have e0 : [o + l.slots - 1].reverse.filter (inSpan S s) = [o + l.slots - 1] := by
      show List.filter (inSpan S s) [o + l.slots - 1] = _
      refine List.filter_eq_self.mpr fun f hf => ?_
      rw [List.mem_singleton.mp hf]
      unfold inSpan
      rw [H.root]
      exact decide_eq_true (by omega)
    rw [e0]
    unfold way
    by_cases c : s < o + l.slots
    · rw [if_pos c, way_out H.right (.inl c), way_eq H.left s h1 c]
      rfl
    · rw [if_neg c, way_out H.left (.inr (by omega)), way_eq H.right s (by omega) (by omega)]
      simp

/-! ### the law's own way of a load -/
def freeStep (S : List (Nat × Nat)) (F : Nat → Bool) (p : Nat × Nat) (f : Nat) : Nat × Nat :=
  if S[f]? = some p then (if F f = true then (f + 1, p.2) else (p.1, f)) else p
theorem free_out {S : List (Nat × Nat)} {F : Nat → Bool} : ∀ (fs : List Nat) (p : Nat × Nat), (∀ f ∈ fs, S[f]? ≠ some p) → fs.foldl (freeStep S F) p = p
  | [], _, _ => rfl
  | f :: fs, p, h => by
    show fs.foldl (freeStep S F) (freeStep S F p f) = p
    have e : freeStep S F p f = p := by
      unfold freeStep
      rw [if_neg (h f (List.mem_cons_self ..))]
    rw [e]
    exact free_out fs p fun g hg => h g (List.mem_cons_of_mem _ hg)
theorem free_eq {S : List (Nat × Nat)} {F : Nat → Bool} : ∀ {t : Tr} {o : Nat}, SpOk S t o → (t.post o).reverse.foldl (freeStep S F) (o, o + t.slots - 1) = (t.victim o F, t.victim o F)
  | dot, _, _ => rfl
  | node l r, o, H => by
    have p1 := slots_pos l
    have p2 := slots_pos r
    show (l.post o ++ r.post (o + l.slots) ++ [o + l.slots - 1]).reverse.foldl (freeStep S F) (o, o + (l.slots + r.slots) - 1) = (victim (node l r) o F, victim (node l r) o F)
    rw [List.reverse_append, List.reverse_append, List.foldl_append, List.foldl_append]
    show List.foldl (freeStep S F) (List.foldl (freeStep S F) (freeStep S F (o, o + (l.slots + r.slots) - 1) (o + l.slots - 1)) (r.post (o + l.slots)).reverse) (l.post o).reverse = _
    have e0 : freeStep S F (o, o + (l.slots + r.slots) - 1) (o + l.slots - 1) = if F (o + l.slots - 1) = true then (o + l.slots, o + l.slots + r.slots - 1) else (o, o + l.slots - 1) := by
      unfold freeStep
      rw [if_pos H.root]
      split
      · rw [show o + l.slots - 1 + 1 = o + l.slots by omega, show o + (l.slots + r.slots) - 1 = o + l.slots + r.slots - 1 by omega]
      · rfl
    rw [e0]
    unfold victim
    by_cases c : F (o + l.slots - 1) = true
    · rw [if_pos c, if_pos c, free_eq H.right]
      refine free_out _ _ fun f hf e => ?_
      obtain ⟨a, b, e', x⟩ := H.left.some f (List.mem_reverse.mp hf)
      rw [e] at e'
      have e2 := Option.some.inj e'
      have e3 : r.victim (o + l.slots) F = a := congrArg Prod.fst e2
      have := victim_mem r (o + l.slots) F
      omega
    · rw [if_neg c, if_neg c]
      rw [free_out (r.post (o + l.slots)).reverse _ fun f hf e => ?_]
      · exact free_eq H.left
      · obtain ⟨a, b, e', x⟩ := H.right.some f (List.mem_reverse.mp hf)
        rw [e] at e'
        have e2 := Option.some.inj e'
        have e3 : o = a := congrArg Prod.fst e2
        omega
end Tr
end Ls
/-! Rules that the layer lacks. -/
namespace L2
open PySem PySem.Spec PyProof.Rows
theorem foldl_one (c : Nat) : ∀ (n : Nat) (a : Array Nat), (List.replicate n (#[c] : Array Nat)).foldl (· ++ ·) a = a ++ (List.replicate n c).toArray
  | 0, a => by simp
  | n + 1, a => by
    rw [List.replicate_succ, List.foldl_cons, foldl_one c n (a ++ #[c]), List.replicate_succ]
    apply Array.ext'
    simp
section
variable {X : Cx}
/-- a text of one sign, repeated -/
theorem op_mul_str : OpR X (binaryOp .Mult) (fun x y H Q => ∃ (c : Nat) (n : Nat), x = .str ⟨#[c]⟩ ∧ y = .int (n : Int) ∧ n ≤ 1000 ∧ Q (.str ⟨(List.replicate n c).toArray⟩) H) := by
  intro pins s σ H x y v u Q I rx ry h
  obtain ⟨c, n, rfl, rfl, hn, q⟩ := h
  obtain ⟨t, rfl⟩ := rx
  obtain ⟨t', rfl⟩ := ry
  have hl : (⟨#[c]⟩ : Str).length = 1 := rfl
  refine PySem.P.mul_str (by rw [decide_eq_false (by omega), decide_eq_false (by omega)]; rfl) (fun _ _ => ?_) (fun _ _ => ?_) ?_
  · rw [hl]
    intro hg
    have h1 : (2 ^ 63 - 1 : Int) / (n : Int) ≥ 1 := by
      apply Int.le_ediv_of_mul_le
      · omega
      · omega
    omega
  · rw [hl]
    unfold Builtin.Str.tooLong
    have hz := small1000 (n := n) hn
    simp
    omega
  · have e : (List.replicate (n : Int).toNat (#[c] : Array Nat)).foldl (· ++ ·) #[] = (List.replicate n c).toArray := by
      rw [Int.toNat_natCast, foldl_one]
      simp
    show (if (n : Int) < 1 then Made.str Str.empty else if ((n : Int) == 1 || (⟨#[c]⟩ : Str).length == 0) = true then Made.val (.str ⟨#[c]⟩ t) else Made.str ⟨(List.replicate (n : Int).toNat (#[c] : Array Nat)).foldl (· ++ ·) #[]⟩).post _ s
    rw [e]
    split
    · have e0 : n = 0 := by omega
      subst e0
      exact ⟨by decide, .str ⟨#[]⟩, H, I.tok _, ⟨_, rfl⟩, q⟩
    · split
      · rename_i h1 h2
        rw [hl] at h2
        have e1 : n = 1 := by
          have : (((n : Int) == 1) || ((1 : Nat) == 0)) = true := h2
          simp at this
          omega
        subst e1
        exact ⟨.str ⟨#[c]⟩, H, I, ⟨_, rfl⟩, q⟩
      · refine ⟨?_, .str ⟨(List.replicate n c).toArray⟩, H, I.tok _, ⟨_, rfl⟩, q⟩
        have hz := small1000 (n := n) hn
        simp [Builtin.Str.tooLong, Str.length]
        omega
/-- list(text) -/
theorem call_list_str (hc : X.calm = true) : CallR X (.type "list") (fun xs H Q => ∃ z : Str, xs = [.str z] ∧ z.length ≤ sizeLine ∧ ∀ p, H p = none → Q (.ref p) (upd H p (.lst (z.cps.toList.map fun c => V.str ⟨#[c]⟩)))) := by
  intro pins s σ H xs us Q I r h
  obtain ⟨z, rfl, hz, q⟩ := h
  obtain ⟨u, rfl, t, rfl⟩ := vals1 r
  have hz' : z.cps.size ≤ sizeLine := hz
  refine PySem.call_list_str (I.ok.hd hc) z t (hn := hz') fun h' tk acc' c' hk hS' hacc => ?_
  refine ⟨.ref s.heap.objs.size, _, I.laid (a := s.heap.objs.size) (o := .lst (z.cps.toList.map fun c => V.str ⟨#[c]⟩)) (t' := tk) hk (Nat.le_refl _) ?_, rfl, q _ (I.hok.fresh (Nat.le_refl _))⟩
  refine ⟨by simpa using hz', acc'.toList, c', ?_, by simpa using hS'⟩
  obtain ⟨hs, ha⟩ := hacc
  have key : ∀ (xs : List V) (us : List Value), xs.length = us.length → (∀ (j : Nat) x v, xs[j]? = some x → us[j]? = some v → RelV x v) → Vals xs us := by
    intro xs
    induction xs with
    | nil =>
      intro us hl _
      cases us with
      | nil => exact .nil
      | cons _ _ => cases hl
    | cons x xs ih =>
      intro us hl hr
      cases us with
      | nil => cases hl
      | cons u us => exact .cons (hr 0 x u rfl rfl) (ih us (by simpa using hl) fun j x v h1 h2 => hr (j + 1) x v (by simpa using h1) (by simpa using h2))
  refine key _ _ (by simp [hs]) fun j x v h1 h2 => ?_
  have h2' : acc'[j]? = some v := by simpa using h2
  obtain ⟨c, u, e1, e2⟩ := ha j v h2'
  subst e2
  rw [List.getElem?_map] at h1
  have e3 : z.cps.toList[j]? = some c := by simpa using e1
  rw [e3] at h1
  cases h1
  exact ⟨u, rfl⟩
/-- o.f as a target -/
def gFld (K : PySem.W.Frag) (ta : TE) (f : Str) : TG := fun y σ H1 Q => ta σ H1 fun x H2 => ∃ a C dx fs, x = .ref a ∧ H2 a = some (.ins C dx fs) ∧ Cls K C ∧ NoAttr K C f ∧ fs.length < 1000 ∧ Q σ (upd H2 a (.ins C dx (putF f y fs)))
theorem pg_fld {o : Expr} {f : Str} {pos : Pos} {ta : TE} (ha : PE X o ta) : PG X (.Attribute o f pos) (gFld X.K ta f) := by
  refine ⟨fun pins s σ H v u Q I ry h => ?_⟩
  rw [PySem.assign_Attribute]
  refine wpAny_bind (wpAny_holding (thn (ha.run pins s σ H _ I h) fun ov s2 ⟨x, H2, I2, rx, a, C, dx, fs, ex, ea, c, n, l, q2⟩ => ?_))
  subst ex
  obtain rfl : ov = Value.ref a := rx
  refine wpAny_bind (wpAny_standAt (wpAny_bind (wpAny_holding (setattr_ok I2 ea c n l ry fun s3 I3 => ?_))))
  exact wpAny_release ⟨σ, _, I3, q2⟩
/-- t[::-1] -/
def tRevT (K : PySem.W.Frag) (te : TE) : TE := fun σ H Q => te σ H fun x H1 => ∃ a xs, x = .ref a ∧ SqT K H1 a xs ∧ ∀ p, H1 p = none → Q (.ref p) (upd H1 p (.tup xs.reverse))
/-- the text's signs with their places, each in a new pair -/
def Itse (x : Str) : It :=
  ⟨fun i _ => i < x.cps.size, fun i H v H' => ∃ T c, v = .ref T ∧ H T = none ∧ H' = upd H T (.tup [.int (i : Nat), .str ⟨#[c]⟩]) ∧ x.cps[i]? = some c, fun i _ => i = x.cps.size⟩
theorem turn_enumS {P : Program} {w : World} {K : PySem.W.Frag} {elts : List Expr} {kk : Nat} {tpos : Pos} (x : Str) (t : Tok) (e it : Addr) :
    Turn P w K (.Tuple elts kk tpos) (Itse x) [e, it] e (fun i h => (∃ old, IsEnum h e it ((i : Nat) : Int) old) ∧ h.IsStrIter it (strIterType x) x t i ∧ e ≠ it) where
  mem := by simp
  obj := fun i h st b hb => by
    obtain ⟨⟨old, he⟩, ⟨o, ho, hc, hd⟩, _⟩ := st
    have e' : b = e ∨ b = it := by simpa using hb
    rcases e' with z | z
    · rw [z]; exact ⟨_, he, fun v q => nomatch q⟩
    · rw [z]; exact ⟨o, ho, fun v q => by rw [hd] at q; cases q⟩
  keep := fun i h h' st k => let ⟨⟨old, he⟩, ⟨o, ho, r⟩, hne⟩ := st; ⟨⟨old, k e (by simp) _ he⟩, ⟨o, k it (by simp) o ho, r⟩, hne⟩
  item := by
    intro X hP hw hK hc i pins s σ H E I hf st hg
    subst hP hw hK
    obtain ⟨⟨old, he⟩, hit, hne⟩ := st
    have hel : e < s.heap.objs.size := Heap.lt_size he
    have hil : it < s.heap.objs.size := by obtain ⟨_, q, _⟩ := hit; exact Heap.lt_size q
    have D : Draws X.prog X.w X.A.in1 it [it] x.cps.size (fun i v => ∃ c u, x.cps[i]? = some c ∧ v = .str ⟨#[c]⟩ u) (fun i h => h.IsStrIter it (strIterType x) x t i) := Draws.text (A := X.A.in1) (by have := I.ok.hd hc; simpa using this) it x t
    refine wpAny_pyNext_enum_itemD D he hit hg hne (by simpa using hne) fun u h' tk hP ho hit' hT hsz hk => ?_
    obtain ⟨c, tu, hcx, rfl⟩ := hP
    refine ⟨_, rfl, wpAny_letOwnedTupleGo_enum (s := { s with heap := h', toks := tk + 1 }) ho fun h'' he' sb => ?_⟩
    have hT2 : h''.get? s.heap.objs.size = some { cls := .type "tuple", data := .seq #[.int i tk, .str ⟨#[c]⟩ tu] } := (sb.2 _ (Nat.ne_of_gt hel)).trans hT
    have new : ObjOk X.prog X.w (upd H s.heap.objs.size (.tup [.int (i : Nat), .str ⟨#[c]⟩])) h'' s.heap.objs.size (.tup [.int (i : Nat), .str ⟨#[c]⟩]) :=
      ⟨by show 2 ≤ sizeLine; decide, [.int i tk, .str ⟨#[c]⟩ tu], .cons ⟨_, rfl⟩ (.cons ⟨_, rfl⟩ .nil), ⟨_, hT2, rfl, _, rfl⟩⟩
    have I1 : Inv X pins σ (upd H s.heap.objs.size (.tup [.int (i : Nat), .str ⟨#[c]⟩])) { s with heap := h'', toks := tk + 1 } :=
      I.turnedNew (ch := [e, it]) (fun b ob hb q => (sb.2 b (fun z => hb (by simp [z]))).trans (hk b ob (fun z => hb (by simp [z])) (fun z => hb (by simp [z])) q)) hf (Nat.le_refl _) new
    refine ⟨.ref s.heap.objs.size, _, I1, rfl, ⟨_, c, rfl, I.hok.fresh (Nat.le_refl _), rfl, hcx⟩, ⟨⟨.str ⟨#[c]⟩ tu, ?_⟩, ?_, hne⟩, fun b hb => ?_⟩
    · have e1 : ((i + 1 : Nat) : Int) = (i : Int) + 1 := by omega
      rw [e1]; exact he'
    · obtain ⟨o, ho', r⟩ := hit'
      exact ⟨o, (sb.2 it (Ne.symm hne)).trans ho', r⟩
    · have hb' : b < s.heap.objs.size := by
        have e' : b = e ∨ b = it := by simpa using hb
        rcases e' with z | z
        · rw [z]; exact hel
        · rw [z]; exact hil
      rw [upd_ne (Nat.ne_of_lt hb')]
      exact (hf b hb).1
  done := by
    intro X hP hw hK hc i pins s σ H E I hf st hg
    subst hP hw hK
    obtain ⟨⟨old, he⟩, hit, hne⟩ := st
    obtain ⟨f0, f1, f2, f3, f4, f5⟩ := hf it (by simp)
    have hi : i = x.cps.size := hg
    subst hi
    have D : Draws X.prog X.w X.A.in1 it [it] x.cps.size (fun i v => ∃ c u, x.cps[i]? = some c ∧ v = .str ⟨#[c]⟩ u) (fun i h => h.IsStrIter it (strIterType x) x t i) := Draws.text (A := X.A.in1) (by have := I.ok.hd hc; simpa using this) it x t
    exact wpAny_pyNext_enum_endD D he hit fun h' eb => ⟨rfl, I.turned (t' := s.toks) (fun b o hb q => eb b o hb q) f0 f1 f3 f4 f5⟩
  self := fun A i s Q E st h => let ⟨⟨_, he⟩, _⟩ := st; wpAny_pyIter_enum he h
def iEnumS (ta : TA) : TI := fun σ H R => ta σ H fun vs H1 => ∃ x, vs = [.str x] ∧ R (Itse x) H1
theorem pi_enumS {e : Expr} {ta : TA} {p pos tpos : Pos} {elts : List Expr} {kk : Nat} (hg : Gl X "enumerate") (hm : X.mg "enumerate" = none) (ha : PA X [e] ta) (hs : starEach [e] X.env = [(false, eval e X.env)] := by rfl) :
    PI X (.Tuple elts kk tpos) (.Call (.Name "enumerate" p) [e] [] pos) (iEnumS ta) := by
  refine ⟨fun pins s σ H R I h => ?_⟩
  refine Call_ (ld_blt I hg hm boot_enumerate (PyProof.Rows.callWith_type1 (thn (ha.run pos pins s σ H _ I h) fun us s1 ⟨vs, H1, I1, r1, q1⟩ => ?_) hs rfl))
  obtain ⟨x, ex, q⟩ := q1
  subst ex
  cases r1 with
  | cons r rr =>
    cases rr
    obtain ⟨t, rfl⟩ := r
    refine call_enumerate_str fun h' he hit hsz hk => wpAny_pyIter_enum he ?_
    have I2 : Inv X pins σ H1 { s1 with heap := h' } := I1.kept (t' := s1.toks) hk
    refine ⟨s1.heap.objs.size + 1, [s1.heap.objs.size + 1, s1.heap.objs.size], _, _, H1, rfl, I2, turn_enumS x t (s1.heap.objs.size + 1) s1.heap.objs.size, ⟨⟨.none, he⟩, hit, Nat.succ_ne_self _⟩, fun b hb => ?_, q⟩
    have e' : b = s1.heap.objs.size + 1 ∨ b = s1.heap.objs.size := by simpa using hb
    have hle : s1.heap.objs.size ≤ b := by
      rcases e' with z | z
      · rw [z]; exact Nat.le_add_right _ _
      · rw [z]; exact Nat.le_refl _
    exact I1.fpOk hle (I1.hok.fresh hle)
/-- len of an instance with its own __len__ -/
theorem call_lenOwn {CX : CXT} {k : Nat} {f C : Addr} {fd : FuncData} {ps : List Str} {sp : Sp} {E : XK} (F : FnOk X.prog X.w X.K X.mg X.base CX k f fd ps sp) (hs : PySem.W.findIn X.K (.ref C) "__len__" = some (some (.ref f))) (hf : PySem.W.isFn X.K (.ref f) = true)
    (hb : Binds X.K fd ps []) (hr : Room (k + 1) X.A) (hx : Passes CX X E) :
    CallR X (.builtin "len") (fun xs H Q => ∃ a dx fs, xs = [.ref a] ∧ H a = some (.ins C dx fs) ∧ sp [.ref a] H (fun z H' => ∃ n : Int, z = .int n ∧ (0 ≤ n ∧ n < 2 ^ 63) ∧ Q (.int n) H') E) := by
  intro pins s σ H xs us Q I r h
  obtain ⟨a, dx, fs, rfl, ha, hsp⟩ := h
  obtain ⟨u, rfl, ru⟩ := vals1 r
  obtain rfl : u = Value.ref a := ru
  obtain ⟨mA, J, _⟩ := ins_get I.hok ha
  obtain ⟨od, J, _⟩ := J.look
  obtain ⟨m, hF⟩ := I.fr
  refine PySem.W.len_K hF I.ok.mod.kin J hs hf ?_
  have hl := F.len _ _ _ _ hsp
  refine wpAny_call (codeAny_mono (F.run X.A.in1 X.stack s H ⟨[.ref a], []⟩ [.ref a] [.ref a] _ E hr.in1 I.env0.in1 (by
    have := hb s [.ref a] I.kIn (by simpa using hl)
    simpa using this) (.cons rfl .nil) hsp) fun r s' hq => ?_)
  cases r with
  | error e => exact hx pins σ H s e s' I hq
  | ok fl =>
    cases fl with
    | ret w =>
      obtain ⟨z, H', I', rz, n, ez, hn, q⟩ := I.after hq
      subst ez
      obtain ⟨t, rfl⟩ := (show ∃ t, w = Value.int n t from rz)
      exact ⟨hn, .int n, H', I'.tok _, ⟨_, rfl⟩, q⟩
    | next => exact False.elim hq
    | brk => exact False.elim hq
    | cont => exact False.elim hq
end
end L2
namespace L2
open PySem PySem.Spec PyProof.Rows HT
section
variable {prog : Program} {w : World} {A : Around} {E : Value → Shared → Prop} {s : Shared}
theorem filterMap_some {α : Type} {f : Nat → Option α} {g : Nat → α} : ∀ (l : List Nat), (∀ k ∈ l, f k = some (g k)) → l.filterMap f = l.map g
  | [], _ => rfl
  | k :: l, h => by
    rw [List.filterMap_cons, h k (List.mem_cons_self ..), List.map_cons, filterMap_some l fun j hj => h j (List.mem_cons_of_mem _ hj)]
theorem rev_pick (xs : List Value) : ((List.range xs.length).filterMap fun (k : Nat) => xs.toArray[((xs.length : Int) - 1 + (k : Int) * (-1)).toNat]?) = xs.reverse := by
  apply List.ext_getElem?
  intro i
  have e : ∀ k ∈ List.range xs.length, (fun (k : Nat) => xs.toArray[((xs.length : Int) - 1 + (k : Int) * (-1)).toNat]?) k = (fun k => some (xs.reverse.getD k .none)) k := by
    intro k hk
    have hk' := List.mem_range.mp hk
    have e1 : ((xs.length : Int) - 1 + (k : Int) * (-1)).toNat = xs.length - 1 - k := by omega
    show xs.toArray[((xs.length : Int) - 1 + (k : Int) * (-1)).toNat]? = some (xs.reverse.getD k .none)
    rw [e1, List.getD_eq_getElem?_getD, List.getElem?_reverse hk']
    have h2 : xs.length - 1 - k < xs.length := by omega
    simp [h2]
  rw [filterMap_some (g := fun k => xs.reverse.getD k .none) _ e, List.getElem?_map]
  by_cases h : i < xs.length
  · rw [List.getElem?_range h]
    have hr : i < xs.reverse.length := by rw [List.length_reverse]; exact h
    simp [List.getD_eq_getElem?_getD, List.getElem?_eq_getElem hr]
  · rw [List.getElem?_eq_none (by simpa using h), List.getElem?_eq_none (by rw [List.length_reverse]; omega)]
    rfl
theorem getItem_tuple_rev {t sl : Addr} {items : List Value} {vl vu vs : Value} {Q : Value → Shared → Prop} (ht : IsTup s.heap t items.toArray) (hs : s.heap.IsSliceOf sl vl vu vs) (pl : IsPart vl none) (pu : IsPart vu none) (ps : IsPart vs (some (-1)))
    (h : Q (.ref s.heap.objs.size) { s with heap := s.heap.push { cls := .type "tuple", data := .seq items.reverse.toArray } }) (hsz : items.length ≤ sizeLine) : wpAny (model prog w) A (getItem (.ref t) (.ref sl)) Q E s := by
  obtain ⟨os, hos, hcs, hds⟩ := id hs
  have hTs : s.TypeIs (.ref sl) "slice" := ⟨os, hos, hcs⟩
  unfold getItem
  try with_reducible refine wpAny_holding ?_
  first | refine wpAny_bind (wpAny_pure ?_) | skip
  refine wpAny_bind (wpAny_sequenceKey ht.typeIs (by decide) ?_)
  refine wpAny_bind (wpAny_callSpecial?_slot (name := Str.ofString "__getitem__") ht.typeIs PyProof.Rows.slot_tuple_getitem
    (wpAny_call_entry PyProof.Rows.slot_tuple_getitem ht.typeIs entry_tuple_getitem ?_ (args_tuple_getitem _ _)))
  show wpAny _ _ (Builtin.Tuple.tupleItemsOf (.ref t) >>= _) _ _ s
  refine wpAny_bind (tupleItemsOf_ ht ?_)
  refine wpAny_bind (wpAny_typeOf hTs ?_)
  rw [if_pos (by decide)]
  refine wpAny_bind ?_
  · unfold Builtin.Slice.sliceApplied Builtin.Slice.sliceFields
    refine wpAny_bind (wpAny_bind (wpAny_field hos hds (x := vl) rfl (wpAny_bind (wpAny_field hos hds (x := vu) rfl (wpAny_bind (wpAny_field hos hds (x := vs) rfl (wpAny_pure ?_)))))))
    refine wpAny_bind (slicePart_ ps ?_)
    show wpAny _ _ (if ((-1 : Int) == 0) = true then _ else _) _ _ s
    rw [if_neg (by decide)]
    refine wpAny_bind (slicePart_ pl (wpAny_bind (slicePart_ pu (wpAny_bind (wpAny_pure ?_)))))
    have ea : Builtin.Slice.sliceAdjust none none (-1) ((items.toArray.size : Nat) : Int) = ((items.length : Int) - 1, -1) := by
      unfold Builtin.Slice.sliceAdjust
      simp
    have ep : Builtin.Slice.slicePlaces ((items.length : Int) - 1) (-1) (-1) = items.length := by
      unfold Builtin.Slice.slicePlaces
      simp
      split <;> omega
    show wpAny _ _ (match Builtin.Slice.sliceAdjust none none (-1) ((items.toArray.size : Nat) : Int) with | (lo, hi) => pure (lo, (-1 : Int), Builtin.Slice.slicePlaces lo hi (-1))) _ _ s
    rw [ea]
    show wpAny _ _ (pure ((items.length : Int) - 1, (-1 : Int), Builtin.Slice.slicePlaces ((items.length : Int) - 1) (-1) (-1))) _ _ s
    rw [ep]
    refine wpAny_pure ?_
    show wpAny _ _ (if (((items.length : Int) - 1) == 0 && (-1 : Int) == 1 && items.length == items.toArray.size) = true then _ else _) _ _ s
    have hno : ¬ ((((items.length : Int) - 1) == 0 && (-1 : Int) == 1 && items.length == items.toArray.size) = true) := by simp
    rw [if_neg hno]
    rw [rev_pick]
    have hok : sizeOk (.seq items.reverse.toArray) := by
      show items.reverse.toArray.size ≤ sizeLine
      rw [List.size_toArray, List.length_reverse]
      exact hsz
    first
      | exact wpAny_bind (m := Builtin.Tuple.tupleExact _) (wpAny_newObj_type (wpAny_pure ⟨_, rfl, wpAny_pure h⟩) hok)
      | exact wpAny_bind (m := Builtin.Tuple.tupleExact _) (wpAny_newObj_type (wpAny_bind (wpAny_pure (wpAny_pure ⟨_, rfl, wpAny_pure h⟩))) hok)
      | exact wpAny_bind (wpAny_bind (m := Builtin.Tuple.tupleExact _) (wpAny_newObj_type (wpAny_pure (wpAny_pure ⟨_, rfl, wpAny_pure h⟩)) hok))
      | exact wpAny_bind (wpAny_bind (m := Builtin.Tuple.tupleExact _) (wpAny_newObj_type (wpAny_pure ⟨_, rfl, wpAny_pure h⟩) hok))
end
section
variable {X : Cx}
theorem pe_revT {e : Expr} {te : TE} {k : Nat} {p1 p2 p3 pos : Pos} (he : PE X e te) : PE X (.Subscript e (.Slice none none (some (.UnaryOp .USub (.Constant (.int 1) k p1) p2)) p3) pos) (tRevT X.K te) := by
  refine ⟨fun pins s σ H Q I h => ?_⟩
  refine Subscript_ (thn (he.run pins s σ H _ I h) fun v s1 ⟨x, H1, I1, r1, q1⟩ => ?_)
  obtain ⟨a, xs, ex, hx, q⟩ := q1
  subst ex
  cases r1
  have hst : PO X (some (.UnaryOp .USub (.Constant (.int 1) k p1) p2)) (tPart (tUn (rU fun i => .int (-i)) (tC (.int 1)))) := po_some (pe_un un_neg pe_int)
  refine wpAny_Slice (thn (po_none.run pins s1 σ H1 (fun o H2 => o = none ∧ H2 = H1) I1 ⟨rfl, rfl⟩) fun vl s2 ⟨l, H2, I2, pl, el, e2⟩ => ?_)
  subst el e2
  refine thn (po_none.run pins s2 σ H2 (fun o H3 => o = none ∧ H3 = H2) I2 ⟨rfl, rfl⟩) fun vu s3 ⟨u, H3, I3, pu, eu, e3⟩ => ?_
  subst eu e3
  refine thn (hst.run pins s3 σ H3 (fun o H4 => o = some (-1) ∧ H4 = H3) I3 ⟨1, rfl, -1, rfl, rfl, rfl⟩) fun vs s4 ⟨o, H4, I4, ps, eo, e4⟩ => ?_
  subst eo e4
  have I5 : Inv X pins σ H4 { s4 with heap := s4.heap.push { cls := .type "slice", data := .fields #[vl, vu, vs] } } := I4.kept (t' := s4.toks) fun b ob q => Heap.get?_push_of_some _ q
  obtain ⟨its, r, ht, hz⟩ := I5.tuple hx
  have hlen := r.length
  show wpAny (model X.prog X.w) X.A (subscriptTail e (.Slice none none (some (.UnaryOp .USub (.Constant (.int 1) k p1) p2)) p3) (.ref a) (.ref s4.heap.objs.size)) (EP X pins σ Q) X.xe { s4 with heap := s4.heap.push { cls := .type "slice", data := .fields #[vl, vu, vs] } }
  refine tail_any (ops := [.ref a, .ref s4.heap.objs.size]) ht.typeIs (PyProof.Rows.slot_tuple_getitem.lookup) ?_ (by with_unfolding_all rfl)
  refine getItem_tuple_rev ht (Heap.IsSliceOf.new _ vl vu vs) pl pu ps ?_ (by omega)
  refine ⟨.ref _, _, I5.laid (t' := s4.toks) (o := .tup xs.reverse) (fun b ob q => Heap.get?_push_of_some _ q) (Nat.le_refl _) ?_, rfl, q _ (I5.hok.fresh (Nat.le_refl _))⟩
  exact ⟨by rw [List.length_reverse]; exact hz, _, r.reverse, ⟨_, Heap.get?_push_size _ rfl, rfl, _, rfl⟩⟩
end
end L2
/-! len(set(xs)) for a list of texts of any number below the scan's bound. -/
namespace LsSet
open PySem PySem.Spec PyProof.Rows
def put (acc : List Str) (x : Str) : List Str := if acc.any (· == x) then acc else acc ++ [x]
/-- the different ones, each where it is met first -/
def dist (xs : List Str) : List Str := xs.foldl put []
theorem put_len (acc : List Str) (x : Str) : (put acc x).length = if acc.any (· == x) then acc.length else acc.length + 1 := by
  unfold put
  split <;> simp
theorem put_any (acc : List Str) (x k : Str) : (put acc x).any (· == k) = (acc.any (· == k) || decide (k = x)) := by
  unfold put
  split
  · rename_i h
    by_cases e : k = x
    · subst e
      rw [h]
      simp
    · rw [decide_eq_false e, Bool.or_false]
  · rw [List.any_append]
    congr 1
    by_cases e : k = x
    · subst e; simp
    · have hb : (x == k) = false := by simpa using fun q : x = k => e q.symm
      simp [hb, e]
theorem dist_len_le : ∀ (xs acc : List Str), (xs.foldl put acc).length ≤ acc.length + xs.length
  | [], acc => by simp
  | x :: xs, acc => by
    rw [List.foldl_cons]
    have h := dist_len_le xs (put acc x)
    have h2 : (put acc x).length ≤ acc.length + 1 := by
      rw [put_len]
      split <;> omega
    rw [List.length_cons]
    omega
theorem dist_take (xs : List Str) (i : Nat) (h : i < xs.length) : dist (xs.take (i + 1)) = put (dist (xs.take i)) (xs.getD i Str.empty) := by
  unfold dist
  rw [List.take_add_one, List.getElem?_eq_getElem h, List.foldl_append, List.getD_eq_getElem?_getD, List.getElem?_eq_getElem h]
  rfl
section
variable {prog : Program} {w : World} {A : Around} {R : Result → Shared → Prop} {I : Addr} {fp wr : List Addr} {G : Array GenState → Array GenState → Prop} {n : Nat} {P : Nat → Value → Prop} {St : Nat → Shared → Prop}
/-- the set holds the different ones of what has been taken -/
abbrev Holds (prog : Program) (w : World) (xs : List Str) (S : Addr) (i : Nat) (s : Shared) : Prop :=
  s.heap.SetOf (PySem.strKind prog w) S (fun k => (dist (xs.take i)).any (· == k)) (dist (xs.take i)).length
theorem loop (W : WalksS prog w A.in1 I fp wr G n P St) (S : Addr) (hSf : S ∉ fp) (xs : List Str) (hn : xs.length = n) (hb : n + 1 < scanBound)
    (hv : ∀ i v, P i v → ∃ t, v = .str (xs.getD i Str.empty) t) :
    ∀ (k i : Nat) (s : Shared), n - i = k → i ≤ n → St i s → Holds prog w xs S i s →
      (∀ s', Moved (S :: wr) G s s' → Holds prog w xs S n s' → R (.ok (.ret .none)) s') →
      codeAny (model prog w) A (.builtin "set.update.loop" ⟨[.ref S, .ref I], []⟩) R s := by
  have nw : S ∉ wr := fun h => hSf (W.sub _ h)
  have stay : ∀ (i : Nat) (s s' : Shared), Moved wr G s s' → Holds prog w xs S i s → Holds prog w xs S i s' := fun i s s' m h => by
    obtain ⟨o, es, ep, tb, ho, rest⟩ := h
    exact ⟨o, es, ep, tb, m.heap S _ nw ho, rest⟩
  intro k
  induction k with
  | zero =>
    intro i s hk hi st hS hR
    obtain rfl : i = n := by omega
    refine codeAny_builtin PyProof.Rows.F.entry_set_update_loop ?_
    rw [Around.under_plainId PyProof.Rows.F.plain_set_update_loop _]
    show wpAny _ A.in1 (pyNext (.ref I) >>= _) _ _ s
    refine wpAny_bind (W.done s _ _ st fun s' m => ?_)
    show wpAny _ A.in1 (ret Value.none) _ _ s'
    exact wpAny_pure (hR s' (m.mono fun b hb => List.mem_cons_of_mem _ hb) (stay _ _ _ m hS))
  | succ k ih =>
    intro i s hk hi st hS hR
    have hlt : i < n := by omega
    refine codeAny_builtin PyProof.Rows.F.entry_set_update_loop ?_
    rw [Around.under_plainId PyProof.Rows.F.plain_set_update_loop _]
    show wpAny _ A.in1 (pyNext (.ref I) >>= _) _ _ s
    refine wpAny_bind (W.item i s _ _ hlt st fun v s' hP st' m => ?_)
    obtain ⟨t, rfl⟩ := hv i v hP
    have hS' := stay _ _ _ m hS
    show wpAny _ A.in1 (holding [Value.str (xs.getD i Str.empty) t] (setAdd S (.str (xs.getD i Str.empty) t)) >>= _) _ _ s'
    refine wpAny_bind (wpAny_holding ?_)
    unfold setAdd
    refine wpAny_holding ?_
    refine wpAny_bind ((PySem.strKind prog w).pyHash (k := xs.getD i Str.empty) (strKind_is _ _ _ _) ?_)
    have hroom : (dist (xs.take i)).length + 1 < scanBound := by
      have h := dist_len_le (xs.take i) []
      have h2 : (dist (xs.take i)).length ≤ 0 + (xs.take i).length := h
      rw [List.length_take] at h2
      omega
    refine wpAny_setAddHashed_of (knd := PySem.strKind prog w) (s := { s' with toks := s'.toks + 1 }) (strKind_is _ _ _ _) rfl hS' hroom fun h' sb hS2 => ?_
    have next : h'.SetOf (PySem.strKind prog w) S (fun k => (dist (xs.take (i + 1))).any (· == k)) (dist (xs.take (i + 1))).length :=
      PyProof.Rows.SetOf_congr hS2 (fun k => by rw [dist_take xs i (by omega), put_any]) (by rw [dist_take xs i (by omega), put_len])
    refine wpAny_pure ⟨plainId_quiet PyProof.Rows.F.plain_set_update_loop _, ih (i + 1) _ (by omega) hlt (W.frame _ s' _ _ st' (Nat.le_succ _) fun b hb o e => ?_) next fun s'' m2 hS'' => ?_⟩
    · exact (sb.2 b fun z : b = S => hSf (z ▸ hb)).trans e
    · refine hR s'' (Moved.trans W.gtrans ((m.mono fun b hb => List.mem_cons_of_mem _ hb).then_heap (Nat.le_succ _) fun b o hb e => ?_) m2) hS''
      exact (sb.2 b fun z : b = S => hb (z ▸ List.mem_cons_self)).trans e
end

section
variable {prog : Program} {w : World} {A : Around} {E : Value → Shared → Prop} {s : Shared}
/-- set(a list of texts) -/
theorem call_set_strs {l : Addr} {items : Array Value} {xs : List Str} {Q : Value → Shared → Prop}
    (hh : A.handled = none) (hl : s.heap.IsList l items) (hi : StrsAre items.toList xs) (hb : xs.length + 1 < scanBound)
    (h : ∀ (h' : Heap) (tk : Nat), Holds prog w xs s.heap.objs.size xs.length { s with heap := h', toks := tk } →
      (∀ b o, b < s.heap.objs.size → s.heap.get? b = some o → h'.get? b = some o) → Q (.ref s.heap.objs.size) { s with heap := h', toks := tk }) :
    wpAny (model prog w) A (call (.type "set") [.ref l]) Q E s := by
  obtain ⟨c, tl, hmro⟩ := PySem.F.called_set.mro
  have hmade := PySem.F.called_set.made
  have hsub := PySem.F.called_set.sub
  refine wpAny_call (codeAny_of_tree ?_)
  show wpAny _ _ (callAny (.type "set") _) _ _ _
  refine wpAny_pure ⟨Code.quiet_builtin _ (by decide +kernel), codeAny_builtin PySem.F.entry_type_call ?_⟩
  rw [Around.under_plain (weight_type_call_type "set" [.ref l] []) rfl]
  have h1 := PySem.F.called_set.notType
  have h2 := PySem.F.called_set.canCreate
  have hct := PySem.F.typeCall_set_1 (.ref l)
  repeat (any_goals (first | assumption | wp_step))
  refine codeAny_mono (code_set_new_1 (.ref l) (E := E) (Q₁ := fun obj s₁ => ∃ led : Bool, obj = .ref s.heap.objs.size ∧ s₁ = { s with heap := s.heap.push { cls := .type "set", dict := none, data := .set #[] 0 (.fresh 0 0 led) } }) fun led => ⟨led, rfl, rfl⟩) fun r s₁ hr => ?_
  cases r with
  | error e => exact hr
  | ok fl =>
    cases fl with
    | ret obj =>
      obtain ⟨led, rfl, rfl⟩ := hr
      have hS : (s.heap.push { cls := .type "set", dict := none, data := .set #[] 0 (.fresh 0 0 led) }).get? s.heap.objs.size = some { cls := .type "set", dict := none, data := .set #[] 0 (.fresh 0 0 led) } := Heap.get?_push_size _ rfl
      have hT : Shared.TypeIs { s with heap := s.heap.push { cls := .type "set", dict := none, data := .set #[] 0 (.fresh 0 0 led) } } (.ref s.heap.objs.size) "set" := ⟨_, hS, rfl⟩
      have hli := PySem.F.called_set.init.lookup
      have hbi := PySem.F.called_set.init.bind (.ref s.heap.objs.size)
      repeat (any_goals (first | assumption | wp_step))
      refine codeAny_mono (codeAny_call_builtin (R := wants (fun r s₂ => r = .none ∧ ∃ h' tk, s₂ = { s with heap := h', toks := tk } ∧
          Holds prog w xs s.heap.objs.size xs.length { s with heap := h', toks := tk } ∧
          (∀ b o, b < s.heap.objs.size → s.heap.get? b = some o → h'.get? b = some o)) E) PySem.F.called_set.init.plain PySem.F.entry_set_init (check_set_init_1 hT ?_)) fun r₂ s₂ hr₂ => ?_
      · obtain ⟨⟨ocls, odict, odata, oslots⟩, hol, hcl, nl, hdl⟩ := hl
        simp only at hcl hdl
        subst hcl; subst hdl
        have hol' : (s.heap.push { cls := .type "set", dict := none, data := .set #[] 0 (.fresh 0 0 led) }).get? l = some { cls := .type "list", dict := odict, data := .seq items nl, slots := oslots } := Heap.get?_push_of_some _ hol
        have hsls := PySem.F.sub_list_set
        have hslf := PySem.F.sub_list_frozenset
        have hne : (Value.type "list" == Value.type "dict") = false := by decide
        have hl1 : (s.heap.push { cls := .type "set", dict := none, data := .set #[] 0 (.fresh 0 0 led) }).IsList l items := ⟨_, hol', rfl, nl, rfl⟩
        unfold Builtin.«set.__init__» noKeywords Builtin.Frozenset.updateFrom
        generalize hPI : pyIter = PI
        wp_walk
        subst hPI
        refine wpAny_pyIter_list hl1 ?_
        refine wpAny_bind (wpAny_runValue ?_)
        have hlS : l < s.heap.objs.size := Heap.lt_size hol
        have hh3 : A.in1.in1.in1.handled = none := by simp [hh]
        have hneI : l ≠ (s.heap.push { cls := .type "set", dict := none, data := .set #[] 0 (.fresh 0 0 led) }).objs.size := by
          rw [Heap.size_push]; exact Nat.ne_of_lt (Nat.lt_succ_of_lt hlS)
        have hSf : s.heap.objs.size ∉ [(s.heap.push { cls := .type "set", dict := none, data := .set #[] 0 (.fresh 0 0 led) }).objs.size, l] := by
          rw [Heap.size_push]; simp only [List.mem_cons, List.mem_singleton, List.not_mem_nil, or_false, not_or]
          exact ⟨Nat.ne_of_lt (Nat.lt_succ_self _), Nat.ne_of_gt hlS⟩
        have hsz : xs.length = items.size := by rw [← StrsAre.len_eq hi, Array.length_toList]
        have hval : ∀ (i : Nat) (v : Value), items[i]? = some v → ∃ t, v = .str (xs.getD i Str.empty) t := fun i v hv => SS.strs_at hi i v (by rw [Array.getElem?_toList]; exact hv)
        rw [hsz] at hb ⊢
        refine loop ((Walks.list hh3 _ l hneI items).toS) s.heap.objs.size hSf xs hsz hb hval (items.size - 0) 0 _ (by omega) (Nat.zero_le _) ⟨⟨_, Heap.get?_push_size _ rfl, rfl, rfl⟩, (hl1.push _)⟩ ?hS0 ?hR
        case hS0 =>
          have hget : ((s.heap.push { cls := .type "set", dict := none, data := .set #[] 0 (.fresh 0 0 led) }).push { cls := .type "list_iterator", data := .fields #[.ref l, .int 0 0] }).get? s.heap.objs.size
              = some { cls := .type "set", dict := none, data := .set #[] 0 (.fresh 0 0 led) } := Heap.get?_push_of_some _ hS
          exact PyProof.Rows.SetOf_congr ((PyProof.Rows.setObjOf_fresh (knd := PySem.strKind prog w) led).setOf hget (by unfold scanBound; omega)) (fun _ => rfl) rfl
        case hR =>
          intro s' hm hS'
          obtain ⟨h', g', d', tk', os'⟩ := s'
          have eg : g' = s.gens := hm.gens
          have ed : d' = s.drawn := hm.drawn
          have eo : os' = s.os := hm.os
          subst eg; subst ed; subst eo
          show wpAny _ _ _ _ _ _
          refine wpAny_pure ?_
          show wpAny _ _ (ret Value.none) _ _ _
          refine wpAny_pure ⟨rfl, h', tk', rfl, hS', fun b o hb e => ?_⟩
          have hb1 : b ≠ s.heap.objs.size := Nat.ne_of_lt hb
          have hb2 : b ≠ (s.heap.push { cls := .type "set", dict := none, data := .set #[] 0 (.fresh 0 0 led) }).objs.size := by
            rw [Heap.size_push]; exact Nat.ne_of_lt (Nat.lt_succ_of_lt hb)
          exact hm.heap b o (by simp only [List.mem_cons, List.mem_singleton, List.not_mem_nil, or_false, not_or]; exact ⟨hb1, hb2⟩) (Heap.get?_push_of_some _ (Heap.get?_push_of_some _ e))
      · cases r₂ with
        | error e => exact hr₂
        | ok fl₂ =>
          cases fl₂ with
          | ret r =>
            obtain ⟨rfl, h', tk, rfl, hS', hk'⟩ := hr₂
            repeat (any_goals (first | assumption | wp_step))
            exact h _ _ hS' hk'
          | _ => exact hr₂.elim
    | _ => exact hr.elim
end
end LsSet
namespace L2
open PySem PySem.Spec PyProof.Rows
theorem strsAre_vals : ∀ {xs : List Str} {us : List Value}, Vals (xs.map V.str) us → StrsAre us xs
  | [], _, .nil => .nil
  | x :: xs, _, .cons r t => by
    obtain ⟨k, rfl⟩ := r
    exact .cons x k (strsAre_vals t)
/-- len(set(xs)), a list of texts -/
def tLenSetS (K : PySem.W.Frag) (ta : TE) : TE := fun σ H Q => ta σ H fun x H1 => ∃ (l : Addr) (xs : List Str), x = .ref l ∧ SqL K H1 l (xs.map V.str) ∧ xs.length ≤ 1000 ∧ Q (.int (LsSet.dist xs).length) H1
theorem pe_lenSetS {X : Cx} {a : Expr} {ta : TE} {p p2 q pos : Pos} (hg : Gl X "len") (hm : X.mg "len" = none) (hg2 : Gl X "set") (hm2 : X.mg "set" = none) (ha : PE X a ta) (hc : X.calm = true := by rfl)
    (na : starEach [a] X.env = (false, eval a X.env) :: starEach [] X.env := by rfl) : PE X (.Call (.Name "len" p) [.Call (.Name "set" p2) [a] [] q] [] pos) (tLenSetS X.K ta) := by
  refine ⟨fun pins s σ H Q I h => ?_⟩
  refine Call_ (ld_blt I hg hm boot_len ?_)
  refine PyProof.Rows.callWith_builtin1 (PyProof.Rows.args_cons ?_ rfl) rfl rfl
  refine Call_ (ld_blt I hg2 hm2 boot_set ?_)
  refine PyProof.Rows.callWith_type1 (PyProof.Rows.args_cons (thn (ha.run pins s σ H _ I h) fun v s1 ⟨x, H1, I1, r1, q1⟩ => PyProof.Rows.args_nil ?_) na) na rfl
  obtain ⟨l, xs, rfl, hq, hl, q1⟩ := q1
  cases r1
  obtain ⟨its, r, pl, hz⟩ := I1.list hq
  refine LsSet.call_set_strs (I1.ok.hd hc) pl.isList (by simpa using strsAre_vals r) (by unfold scanBound; omega) fun h' tk hS hk => ?_
  refine PyProof.Rows.args_nil ?_
  have hle : (LsSet.dist (xs.take xs.length)).length ≤ 0 + (xs.take xs.length).length := LsSet.dist_len_le (xs.take xs.length) []
  rw [List.take_length] at hle
  unfold LsSet.Holds at hS
  rw [List.take_length] at hS
  obtain ⟨o, es, ep, t, ho, hex, hd, _, _, _, hf, hn⟩ := hS
  have I2 : Inv X pins σ H1 { s1 with heap := h', toks := tk } := I1.kept fun b o e => hk b o (Heap.lt_size e) e
  exact call_len_set ho hex hd hf (by rw [hn] <;> omega) ⟨.int (LsSet.dist xs).length, H1, I2.tok _, ⟨_, by rw [hn]⟩, q1⟩
end L2
/-! sorted(rows), each row a tuple that begins with an int of its own. -/
namespace LsSort
open PySem PySem.Spec PyProof.Rows Srt SrtO
/-- v is a tuple that begins with x -/
def IsRow (h : Heap) (v : Value) (x : Int) : Prop := ∃ (a : Addr) (o : Obj) (t : Tok) (rest : List Value) (n : Nat), v = .ref a ∧ h.get? a = some o ∧ o.cls = .type "tuple" ∧ o.data = .seq (Value.int x t :: rest).toArray n
theorem IsRow.keeps {h h' : Heap} {v : Value} {x : Int} (p : IsRow h v x) (k : ∀ b o, h.get? b = some o → o.cls = .type "tuple" → h'.get? b = some o) : IsRow h' v x := by
  obtain ⟨a, o, t, r, n, e, ho, hc, hd⟩ := p
  exact ⟨a, o, t, r, n, e, k _ _ ho hc, hc, hd⟩
abbrev ltR (k : Value → Int) : Value → Value → Bool := fun v u => decide (k v < k u)
theorem swo_row (k : Value → Int) : Swo (ltR k) := by
  refine ⟨fun x y h => ?_, fun x y z h1 h2 => ?_⟩
  · have a := of_decide_eq_true h
    exact decide_eq_false (by omega)
  · have a := of_decide_eq_false h1
    have b := of_decide_eq_false h2
    exact decide_eq_false (by omega)
section
variable {prog : Program} {w : World} {A : Around} {E : Value → Shared → Prop} {s : Shared}
theorem kat_same {b fin : Bool} {Q : Bool → Shared → Prop} : ∀ (l : List Value) (i : Nat), Q fin s → PySem.W.KatLex prog w A b fin Q (l.zip l) i s
  | [], _, h => PySem.W.kat_nil h
  | v :: l, i, h => PySem.W.kat_cons (SeqAt.EqAt.same v prog w _ _ (PySem.W.kat_yes (kat_same l (i + 1) h)))
theorem row_cmp {vs : List Value} {k : Value → Int} (hp : ∀ v ∈ vs, IsRow s.heap v (k v)) (inj : ∀ v ∈ vs, ∀ u ∈ vs, k v = k u → v = u) : Cmp prog w A s (tuples' true) (fun p => p.1 ∈ vs) (lt2 (ltR k)) := by
  intro p q hm hm'
  have h1 := hp _ hm
  have h2 := hp _ hm'
  show wpAny (model prog w) A (keyLt' (tuples' true) p.1 q.1) (fun r s' => s' = s ∧ r = decide (k p.1 < k q.1)) (fun _ _ => False) s
  by_cases c : k p.1 = k q.1
  · have e := inj _ hm _ hm' c
    rw [e] at h1 ⊢
    obtain ⟨a, o, t, r, n, ev, ho, hc, hd⟩ := h1
    rw [ev]
    refine PySem.W.kat_lt ho hd ho hd ?_
    rw [List.toList_toArray]
    refine kat_same _ 0 ⟨rfl, ?_⟩
    rw [decide_eq_false (Int.lt_irrefl _)]
    exact decide_eq_false (Nat.lt_irrefl _)
  · generalize k p.1 = x at h1 c ⊢
    generalize k q.1 = y at h2 c ⊢
    obtain ⟨a, o, t, r, n, e, ho, hc, hd⟩ := h1
    obtain ⟨a', o', t', r', n', e', ho', hc', hd'⟩ := h2
    rw [e, e']
    refine PySem.W.kat_lt ho hd ho' hd' ?_
    rw [List.toList_toArray, List.toList_toArray, List.zip_cons_cons]
    refine PySem.W.kat_cons (SeqAt.EqAt.int_int x t y t' prog w _ _ ?_)
    refine PySem.W.kat_go (fun e1 => absurd (by simpa using e1) c) fun _ => PySem.W.kat_no (oneLt_int ⟨rfl, rfl⟩)
theorem firsts {h : Heap} : ∀ {vs : List Value}, (∀ v ∈ vs, ∃ x, IsRow h v x) → ∃ fs : List Value, PySem.W.KatTups h vs fs ∧ fs.length = vs.length ∧ ∀ f ∈ fs, ∃ x t, f = Value.int x t
  | [], _ => ⟨[], PySem.W.KatTups.nil, rfl, fun _ hm => by simp at hm⟩
  | v :: vs, hp => by
    obtain ⟨fs, h1, h2, h3⟩ := firsts (vs := vs) fun v' hm => hp v' (List.mem_cons_of_mem _ hm)
    obtain ⟨x, a, o, t, r, n, e, ho, hc, hd⟩ := hp v (List.mem_cons_self ..)
    subst e
    refine ⟨.int x t :: fs, PySem.W.KatTups.cons ho hc hd (by simp) h1, by rw [List.length_cons, List.length_cons, h2], fun f hm => ?_⟩
    rcases List.mem_cons.mp hm with rfl | hm
    · exact ⟨x, t, rfl⟩
    · exact h3 f hm
theorem sortable {a : Addr} {vs : List Value} {k : Value → Int} (h0 : 0 < vs.length) (hp : ∀ v ∈ vs, IsRow s.heap v (k v)) (inj : ∀ v ∈ vs, ∀ u ∈ vs, k v = k u → v = u) (ha : ∀ o, s.heap.get? a = some o → o.cls ≠ .type "tuple") :
    SortableO prog w A s a vs (ltR k) := by
  intro h' keep
  have hp' : ∀ v ∈ vs, IsRow h' v (k v) := fun v hm => (hp v hm).keeps fun b o e c => keep b o (fun z => by subst z; exact ha o e c) e
  obtain ⟨fs, h1, h2, h3⟩ := firsts fun v hm => ⟨_, hp' v hm⟩
  refine ⟨tuples' true, fun Q E hq => ?_, row_cmp hp' inj⟩
  refine PySem.W.kat_kind (T := .type "int") h1 (by omega) (fun f hm => ?_) (by rfl) ?_
  · obtain ⟨x, t, rfl⟩ := h3 f hm
    exact PySem.W.Looks.now
  · have e : (Value.type "int" != Value.type "tuple") = true := by first | decide +kernel | rfl | decide
    rw [e]
    exact hq
theorem sorted_rows {l : Addr} {vs : List Value} {k : Value → Int} {Q : Value → Shared → Prop} (hl : s.heap.IsList l vs.toArray) (hz : vs.length ≤ sizeLine) (hp : ∀ v ∈ vs, IsRow s.heap v (k v)) (inj : ∀ v ∈ vs, ∀ u ∈ vs, k v = k u → v = u)
    (h : ∀ (h' : Heap) (d : Addr) (out : List Value), Srtd (ltR k) out → out.Perm vs → (∀ b o, s.heap.get? b = some o → h'.get? b = some o) → s.heap.objs.size ≤ d → (∃ n, h'.get? d = some (seqObj "list" out.toArray n)) → Q (.ref d) { s with heap := h' }) :
    wpAny (model prog w) A (call (.builtin "sorted") [.ref l]) Q E s := by
  refine sorted_ord (swo_row k) hl hz (fun h2 h₁ a ha kk => ?_) fun out hs hb => ?_
  · refine sortable (s := { s with heap := h₁ }) (by omega) (fun v hm => (hp v hm).keeps fun b o e _ => (kk b o e).2) inj fun o e => ?_
    have e' : some o = some (seqObj "list" vs.toArray 0) := e.symm.trans ha
    cases e'
    intro c
    exact absurd (Value.type.inj c) (by decide)
  · exact h _ _ out hs hb.perm (fun b o e => sortedAll_old e) (Nat.le_succ _) (sortedAll_at s.heap vs out.toArray)
end
end LsSort
namespace L2
open PySem PySem.Spec PyProof.Rows
/-- sorted(xs), each item a tuple that begins with an int, no two alike -/
def rSortedR (K : PySem.W.Frag) : List V → Hp → VK → Prop := fun vs H Q => ∃ (a : Addr) (xs : List V) (k : V → Int), vs = [V.ref a] ∧ SqL K H a xs ∧ (∀ x ∈ xs, ∃ t r, x = V.ref t ∧ H t = some (.tup (.int (k x) :: r))) ∧ (∀ x ∈ xs, ∀ y ∈ xs, k x = k y → x = y) ∧
  ∀ ys p, ys.Perm xs → ys.Pairwise (fun x y => k x ≤ k y) → H p = none → Q (.ref p) (upd H p (.lst ys))
theorem backV_inj {u v : Value} (hu : ∃ a, u = Value.ref a) (hv : ∃ a, v = Value.ref a) (h : backV u = backV v) : u = v := by
  obtain ⟨a, rfl⟩ := hu
  obtain ⟨b, rfl⟩ := hv
  have e : V.ref a = V.ref b := h
  cases e
  rfl
section
variable {X : Cx}
theorem cr_sortedR : CallR X (.builtin "sorted") (rSortedR X.K) := by
  intro pins s σ H vs us Q I r h
  obtain ⟨a, xs, k, rfl, hs, hx, inj, q⟩ := h
  obtain ⟨its, rv, hl, hz⟩ := I.list hs
  obtain ⟨u, rfl, ru⟩ := vals1 r
  obtain rfl : u = Value.ref a := ru
  obtain ⟨e1, e2⟩ := refs_back rv fun x m => by
    obtain ⟨t, _, e, _⟩ := hx x m
    exact ⟨t, e⟩
  refine LsSort.sorted_rows (k := fun u => k (backV u)) hl.isList (by rw [← rv.length]; exact hz) (fun v hv => ?_) (fun v hv u hu e => ?_) fun h' d out h1 h2 kp hd hn => ?_
  · obtain ⟨t, rfl⟩ := e2 v hv
    have hm : V.ref t ∈ xs := by rw [e1]; exact List.mem_map.mpr ⟨_, hv, rfl⟩
    obtain ⟨t', rr, e, ht⟩ := hx _ hm
    cases e
    obtain ⟨_, its2, r2, o, ho, hc, n, hd⟩ := I.hok _ _ ht
    cases r2 with
    | cons ri rt =>
      obtain ⟨t1, rfl⟩ := ri
      exact ⟨t, o, t1, _, n, rfl, ho, hc, hd⟩
  · exact backV_inj (e2 v hv) (e2 u hu) (inj _ (by rw [e1]; exact List.mem_map.mpr ⟨_, hv, rfl⟩) _ (by rw [e1]; exact List.mem_map.mpr ⟨_, hu, rfl⟩) e)
  · have h3 : ∀ u ∈ out, ∃ a, u = Value.ref a := fun u hu => e2 u (h2.mem_iff.mp hu)
    obtain ⟨n, hn⟩ := hn
    have hb : (out.map backV).Perm xs := by
      rw [e1]
      exact h2.map backV
    have hp : (out.map backV).Pairwise (fun x y => k x ≤ k y) := List.pairwise_map.mpr (h1.imp fun {x y} z => by
      have z' : ¬ k (backV y) < k (backV x) := of_decide_eq_false z
      omega)
    refine ⟨.ref d, upd H d (.lst (out.map backV)), I.laid (t' := s.toks) kp hd ⟨?_, out, n, vals_back h3, hn⟩, rfl, q _ d hb hp (I.hok.fresh hd)⟩
    rw [hb.length_eq]
    exact hz
end
end L2
/-! The text by places; what the top has written. -/
namespace Ls
open PySem L2
def topS (i : Nat) : Stmt := PySem.Challenge.pw_lastside_k28_whole_settling.main.body.getD i (.Pass ⟨0, 0, 0, 0⟩)

abbrev s_p_is_made_of : Stmt := topS 13
theorem sc_p_is_made_of : FnScope ["value", "signs", "sign"] ["value", "signs"] (defScope s_p_is_made_of) := ⟨rfl, rfl, rfl, by decide +kernel, rfl, by decide +kernel, by decide +kernel⟩
abbrev s_p_is_entry : Stmt := topS 14
theorem sc_p_is_entry : FnScope ["value"] ["value"] (defScope s_p_is_entry) := ⟨rfl, rfl, rfl, by decide +kernel, rfl, by decide +kernel, by decide +kernel⟩
abbrev s_p_checked_flags : Stmt := topS 15
theorem sc_p_checked_flags : FnScope ["tree", "flags"] ["tree", "flags"] (defScope s_p_checked_flags) := ⟨rfl, rfl, rfl, by decide +kernel, rfl, by decide +kernel, by decide +kernel⟩
abbrev s_p_checked_entry : Stmt := topS 17
theorem sc_p_checked_entry : FnScope ["entry"] ["entry"] (defScope s_p_checked_entry) := ⟨rfl, rfl, rfl, by decide +kernel, rfl, by decide +kernel, by decide +kernel⟩
abbrev s_p_checked_entries : Stmt := topS 18
theorem sc_p_checked_entries : FnScope ["many", "entries", "found", "entry"] ["many", "entries"] (defScope s_p_checked_entries) := ⟨rfl, rfl, rfl, by decide +kernel, rfl, by decide +kernel, by decide +kernel⟩
abbrev s_p_turned : Stmt := topS 20
theorem sc_p_turned : FnScope ["tree", "flags", "slot", "characters", "fork", "side"] ["tree", "flags", "slot"] (defScope s_p_turned) := ⟨rfl, rfl, rfl, by decide +kernel, rfl, by decide +kernel, by decide +kernel⟩
abbrev s_p_found_victim : Stmt := topS 21
theorem sc_p_found_victim : FnScope ["tree", "flags", "word", "number"] ["tree", "flags"] (defScope s_p_found_victim) := ⟨rfl, rfl, rfl, by decide +kernel, rfl, by decide +kernel, by decide +kernel⟩
abbrev s_c_init : Stmt := inClass (topS 23) 0
theorem sc_c_init : FnScope ["self", "tree", "flags", "entries"] ["self", "tree", "flags", "entries"] (defScope s_c_init) := ⟨rfl, rfl, rfl, by decide +kernel, rfl, by decide +kernel, by decide +kernel⟩
abbrev s_c_eq : Stmt := inClass (topS 23) 2
theorem sc_c_eq : FnScope ["self", "other"] ["self", "other"] (defScope s_c_eq) := ⟨rfl, rfl, rfl, by decide +kernel, rfl, by decide +kernel, by decide +kernel⟩
abbrev s_c_victim : Stmt := inClass (topS 23) 4
theorem sc_c_victim : FnScope ["self"] ["self"] (defScope s_c_victim) := ⟨rfl, rfl, rfl, by decide +kernel, rfl, by decide +kernel, by decide +kernel⟩
abbrev s_c_listed : Stmt := inClass (topS 23) 5
theorem sc_c_listed : FnScope ["self"] ["self"] (defScope s_c_listed) := ⟨rfl, rfl, rfl, by decide +kernel, rfl, by decide +kernel, by decide +kernel⟩
abbrev s_c_slot_of : Stmt := inClass (topS 23) 7
theorem sc_c_slot_of : FnScope ["self", "entry"] ["self", "entry"] (defScope s_c_slot_of) := ⟨rfl, rfl, rfl, by decide +kernel, rfl, by decide +kernel, by decide +kernel⟩
abbrev s_c_request : Stmt := inClass (topS 23) 8
theorem sc_c_request : FnScope ["self", "entry", "kind", "slot", "evicted"] ["self", "entry"] (defScope s_c_request) := ⟨rfl, rfl, rfl, by decide +kernel, rfl, by decide +kernel, by decide +kernel⟩
abbrev s_p_settling_size : Stmt := topS 25
theorem sc_p_settling_size : FnScope ["tree"] ["tree"] (defScope s_p_settling_size) := ⟨rfl, rfl, rfl, by decide +kernel, rfl, by decide +kernel, by decide +kernel⟩
abbrev s_p_thrashing : Stmt := topS 26
theorem sc_p_thrashing : FnScope ["tree", "slot", "helpers", "entries", "place", "flags", "used", "asked", "helper"] ["tree"] (defScope s_p_thrashing) := ⟨rfl, rfl, rfl, by decide +kernel, rfl, by decide +kernel, by decide +kernel⟩
abbrev s_p_helpers : Stmt := topS 27
theorem sc_p_helpers : FnScope ["tree", "slot", "depth", "fork", "side"] ["tree", "slot", "depth"] (defScope s_p_helpers) := ⟨rfl, rfl, rfl, by decide +kernel, rfl, by decide +kernel, by decide +kernel⟩
abbrev s_p_lowest_across : Stmt := topS 28
theorem sc_p_lowest_across : FnScope ["tree", "fork", "side"] ["tree", "fork", "side"] (defScope s_p_lowest_across) := ⟨rfl, rfl, rfl, by decide +kernel, rfl, by decide +kernel, by decide +kernel⟩
abbrev s_p_shallowest_slot : Stmt := topS 29
theorem sc_p_shallowest_slot : FnScope ["tree", "least", "slot"] ["tree"] (defScope s_p_shallowest_slot) := ⟨rfl, rfl, rfl, by decide +kernel, rfl, by decide +kernel, by decide +kernel⟩
abbrev s_p_ends_fork : Stmt := topS 31
theorem sc_p_ends_fork : FnScope ["stack", "node"] ["stack"] (defScope s_p_ends_fork) := ⟨rfl, rfl, rfl, by decide +kernel, rfl, by decide +kernel, by decide +kernel⟩
abbrev s_p_read_forks : Stmt := topS 32
theorem sc_p_read_forks : FnScope ["text", "stack", "rows", "slots", "place", "sign", "right", "left", "first", "fork", "last", "start"] ["text"] (defScope s_p_read_forks) := ⟨rfl, rfl, rfl, by decide +kernel, rfl, by decide +kernel, by decide +kernel⟩
abbrev s_p_lay_ways : Stmt := topS 33
theorem sc_p_lay_ways : FnScope ["root", "lefts", "rights", "preorder", "ways", "stack", "word", "number", "way"] ["root", "lefts", "rights"] (defScope s_p_lay_ways) := ⟨rfl, rfl, rfl, by decide +kernel, rfl, by decide +kernel, by decide +kernel⟩
abbrev s_t_init : Stmt := inClass (topS 34) 1
theorem sc_t_init : FnScope ["self", "text", "rows", "ascending", "row"] ["self", "text"] (defScope s_t_init) := ⟨rfl, rfl, rfl, by decide +kernel, rfl, by decide +kernel, by decide +kernel⟩
abbrev s_t_len : Stmt := inClass (topS 34) 3
theorem sc_t_len : FnScope ["self"] ["self"] (defScope s_t_len) := ⟨rfl, rfl, rfl, by decide +kernel, rfl, by decide +kernel, by decide +kernel⟩
abbrev s_t_eq : Stmt := inClass (topS 34) 4
theorem sc_t_eq : FnScope ["self", "other"] ["self", "other"] (defScope s_t_eq) := ⟨rfl, rfl, rfl, by decide +kernel, rfl, by decide +kernel, by decide +kernel⟩
abbrev s_t_forks : Stmt := inClass (topS 34) 6
theorem sc_t_forks : FnScope ["self"] ["self"] (defScope s_t_forks) := ⟨rfl, rfl, rfl, by decide +kernel, rfl, by decide +kernel, by decide +kernel⟩
abbrev s_t_least_depth : Stmt := inClass (topS 34) 8
theorem sc_t_least_depth : FnScope ["self", "way"] ["self"] (defScope s_t_least_depth) := ⟨rfl, rfl, rfl, by decide +kernel, rfl, by decide +kernel, by decide +kernel⟩
abbrev s_l_box : Stmt := topS 36
theorem sc_l_box : FnScope ["_law_script", "_law_k", "_law_cell", "_law_rest"] ["_law_script", "_law_k"] (defScope s_l_box) := ⟨rfl, rfl, rfl, by decide +kernel, rfl, by decide +kernel, by decide +kernel⟩
abbrev s_l_take : Stmt := topS 37
theorem sc_l_take : FnScope ["_law_box_here", "_law_size", "_law_worth", "_law_once", "_law_twice", "_law_thrice"] ["_law_box_here", "_law_size"] (defScope s_l_take) := ⟨rfl, rfl, rfl, by decide +kernel, rfl, by decide +kernel, by decide +kernel⟩
abbrev s_l_world : Stmt := topS 38
theorem sc_l_world : FnScope ["_law_box_here", "_law_most", "_law_many", "_law_lean", "_law_power", "_law_parts", "_law_k", "_law_spans", "_law_turn", "_law_step", "_law_place", "_law_one", "_law_two", "_law_whole"] ["_law_box_here", "_law_most"] (defScope s_l_world) := ⟨rfl, rfl, rfl, by decide +kernel, rfl, by decide +kernel, by decide +kernel⟩
abbrev s_l_way : Stmt := topS 39
theorem sc_l_way : FnScope ["_law_world_here", "_law_slot", "_law_fork"] ["_law_world_here", "_law_slot"] (defScope s_l_way) := ⟨rfl, rfl, rfl, by decide +kernel, rfl, by decide +kernel, by decide +kernel⟩
abbrev s_l_side : Stmt := topS 40
theorem sc_l_side : FnScope ["_law_fork", "_law_slot"] ["_law_fork", "_law_slot"] (defScope s_l_side) := ⟨rfl, rfl, rfl, by decide +kernel, rfl, by decide +kernel, by decide +kernel⟩
abbrev s_l_turned : Stmt := topS 41
theorem sc_l_turned : FnScope ["_law_world_here", "_law_flags_here", "_law_slot", "_law_signs", "_law_fork"] ["_law_world_here", "_law_flags_here", "_law_slot"] (defScope s_l_turned) := ⟨rfl, rfl, rfl, by decide +kernel, rfl, by decide +kernel, by decide +kernel⟩
abbrev s_l_free_way : Stmt := topS 42
theorem sc_l_free_way : FnScope ["_law_world_here", "_law_flags_here", "_law_low", "_law_high", "_law_fork"] ["_law_world_here", "_law_flags_here"] (defScope s_l_free_way) := ⟨rfl, rfl, rfl, by decide +kernel, rfl, by decide +kernel, by decide +kernel⟩
abbrev s_l_flags : Stmt := topS 43
theorem sc_l_flags : FnScope ["_law_box_here", "_law_world_here", "_law_k"] ["_law_box_here", "_law_world_here"] (defScope s_l_flags) := ⟨rfl, rfl, rfl, by decide +kernel, rfl, by decide +kernel, by decide +kernel⟩
abbrev s_l_same : Stmt := topS 44
theorem sc_l_same : FnScope ["_law_told", "_law_due", "_law_k"] ["_law_told", "_law_due"] (defScope s_l_same) := ⟨rfl, rfl, rfl, by decide +kernel, rfl, by decide +kernel, by decide +kernel⟩
abbrev s_l_names : Stmt := topS 45
theorem sc_l_names : FnScope ["_law_box_here", "_law_many", "_law_slot"] ["_law_box_here", "_law_many"] (defScope s_l_names) := ⟨rfl, rfl, rfl, by decide +kernel, rfl, by decide +kernel, by decide +kernel⟩
abbrev s_l_served : Stmt := topS 46
theorem sc_l_served : FnScope ["_law_world_here", "_law_model", "_law_name", "_law_slot", "_law_gone"] ["_law_world_here", "_law_model", "_law_name"] (defScope s_l_served) := ⟨rfl, rfl, rfl, by decide +kernel, rfl, by decide +kernel, by decide +kernel⟩
abbrev s_l_least : Stmt := topS 47
theorem sc_l_least : FnScope ["_law_world_here", "_law_slot"] ["_law_world_here"] (defScope s_l_least) := ⟨rfl, rfl, rfl, by decide +kernel, rfl, by decide +kernel, by decide +kernel⟩
abbrev s_l_asked : Stmt := topS 48
theorem sc_l_asked : FnScope ["_law_box_here", "_law_names_here", "_law_size", "_law_asked_here", "_law_k", "_law_old", "_law_fresh"] ["_law_box_here", "_law_names_here", "_law_size"] (defScope s_l_asked) := ⟨rfl, rfl, rfl, by decide +kernel, rfl, by decide +kernel, by decide +kernel⟩
abbrev s_l_settles : Stmt := topS 49
theorem sc_l_settles : FnScope ["_law_world_here", "_law_tree", "_law_box_here", "_law_flags_here", "_law_names_here", "_law_size", "_law_asked_here", "_law_in_rounds", "_law_loads", "_law_k", "_law_model", "_law_shelf", "_law_step", "_law_answer"] ["_law_world_here", "_law_tree", "_law_box_here"] (defScope s_l_settles) := ⟨rfl, rfl, rfl, by decide +kernel, rfl, by decide +kernel, by decide +kernel⟩
abbrev s_l_example : Stmt := topS 50
theorem sc_l_example : FnScope ["_law_world_here", "_law_least_here", "_law_slot", "_law_k", "_law_helpers", "_law_flags_here", "_law_fork", "_law_place"] ["_law_world_here"] (defScope s_l_example) := ⟨rfl, rfl, rfl, by decide +kernel, rfl, by decide +kernel, by decide +kernel⟩
abbrev s_l_example_right : Stmt := topS 51
theorem sc_l_example_right : FnScope ["_law_world_here", "_law_tree", "_law_told", "_law_due", "_law_names_here"] ["_law_world_here", "_law_tree", "_law_told", "_law_due", "_law_names_here"] (defScope s_l_example_right) := ⟨rfl, rfl, rfl, by decide +kernel, rfl, by decide +kernel, by decide +kernel⟩
abbrev s_l_thrashes : Stmt := topS 52
theorem sc_l_thrashes : FnScope ["_law_world_here", "_law_tree", "_law_box_here", "_law_due", "_law_names_here", "_law_slot", "_law_told", "_law_shelf", "_law_model", "_law_turn", "_law_loads", "_law_name", "_law_answer"] ["_law_world_here", "_law_tree", "_law_box_here"] (defScope s_l_thrashes) := ⟨rfl, rfl, rfl, by decide +kernel, rfl, by decide +kernel, by decide +kernel⟩
abbrev s_law : Stmt := topS 53
theorem sc_law : FnScope ["_law_script", "_law_box_here", "_law_world_here", "_law_tree"] ["_law_script"] (defScope s_law) := ⟨rfl, rfl, rfl, by decide +kernel, rfl, by decide +kernel, by decide +kernel⟩

/-- a def of the top -/
structure GF (K : PySem.W.Frag) (mg : Str → Option Value) (x : Str) (st : Stmt) (ps : List Str) where
  f : Addr
  fd : FuncData
  F : Fun K x x st f fd
  g : mg x = some (.ref f)
  b : Binds K fd ps []
/-- a method -/
structure MF (K : PySem.W.Frag) (C : Addr) (x qual : Str) (st : Stmt) (ps : List Str) where
  f : Addr
  fd : FuncData
  F : Fun K x qual st f fd
  m : Meth K C x f
  b : Binds K fd ps []
/-- an __init__ -/
structure NF (K : PySem.W.Frag) (C : Addr) (qual : Str) (st : Stmt) (ps : List Str) where
  f : Addr
  fd : FuncData
  F : Fun K "__init__" qual st f fd
  M : Mk K C f
  b : Binds K fd ps []
/-- a property -/
structure PF (K : PySem.W.Frag) (C : Addr) (x qual : Str) (st : Stmt) (ps : List Str) where
  p : Addr
  f : Addr
  fd : FuncData
  F : Fun K x qual st f fd
  pr : PropOf K C x p f
  b : Binds K fd ps []
/-- a class -/
structure CF (K : PySem.W.Frag) (mg : Str → Option Value) (x : Str) where
  C : Addr
  g : mg x = some (.ref C)
  cl : Cls K C
  ca : PySem.W.findIn K (.ref C) "__class__" = some (some (.builtin "object.__class__"))
  cm : PySem.W.mroIn K C (.type "object") = some true
  kit : PySem.W.kitOne K (.ref C) (.ref C) = some true
/-- a constant -/
structure KF (mg : Str → Option Value) (x : Str) (v : V) where
  u : Value
  g : mg x = some u
  r : RelV v u
structure TX (K : PySem.W.Frag) (mg : Str → Option Value) where
  Cache : CF K mg "Cache"
  Tree : CF K mg "Tree"
  b_len : mg "len" = none
  b_sum : mg "sum" = none
  b_min : mg "min" = none
  b_max : mg "max" = none
  b_all : mg "all" = none
  b_sorted : mg "sorted" = none
  b_isinstance : mg "isinstance" = none
  b_int : mg "int" = none
  b_str : mg "str" = none
  b_list : mg "list" = none
  b_tuple : mg "tuple" = none
  b_bool : mg "bool" = none
  b_range : mg "range" = none
  b_enumerate : mg "enumerate" = none
  b_set : mg "set" = none
  ENTRY_SIGNS : KF mg "ENTRY_SIGNS" (.str "abcdefghijklmnopqrstuvwxyz0123456789")
  LONGEST_ENTRY : KF mg "LONGEST_ENTRY" (.int 12)
  cn : PySem.W.specialIn K (.builtin "object.__class__") "__get__" = some (some (.builtin "getset_descriptor.__get__"))
  ct : PySem.W.takesIn K (.builtin "object.__class__") = some true
  nT_text : NoAttr K Tree.C "text"
  nT_lefts : NoAttr K Tree.C "lefts"
  nT_rights : NoAttr K Tree.C "rights"
  nT_spans : NoAttr K Tree.C "spans"
  nT_bounds : NoAttr K Tree.C "bounds"
  nT_postorder : NoAttr K Tree.C "postorder"
  nT_root : NoAttr K Tree.C "root"
  nT_preorder : NoAttr K Tree.C "preorder"
  nT_ways : NoAttr K Tree.C "ways"
  nC_tree : NoAttr K Cache.C "tree"
  nC_flags : NoAttr K Cache.C "flags"
  nC_contents : NoAttr K Cache.C "contents"
  most : ∃ u, Con K Tree.C "MOST" (.int 64) u
  p_is_made_of : GF K mg "is_made_of" s_p_is_made_of ["value", "signs"]
  p_is_entry : GF K mg "is_entry" s_p_is_entry ["value"]
  p_checked_flags : GF K mg "checked_flags" s_p_checked_flags ["tree", "flags"]
  p_checked_entry : GF K mg "checked_entry" s_p_checked_entry ["entry"]
  p_checked_entries : GF K mg "checked_entries" s_p_checked_entries ["many", "entries"]
  p_turned : GF K mg "turned" s_p_turned ["tree", "flags", "slot"]
  p_found_victim : GF K mg "found_victim" s_p_found_victim ["tree", "flags"]
  c_init : NF K Cache.C "Cache.__init__" s_c_init ["self", "tree", "flags", "entries"]
  c_eq : MF K Cache.C "__eq__" "Cache.__eq__" s_c_eq ["self", "other"]
  c_victim : PF K Cache.C "victim" "Cache.victim" s_c_victim ["self"]
  c_listed : MF K Cache.C "listed" "Cache.listed" s_c_listed ["self"]
  c_slot_of : MF K Cache.C "slot_of" "Cache.slot_of" s_c_slot_of ["self", "entry"]
  c_request : MF K Cache.C "request" "Cache.request" s_c_request ["self", "entry"]
  p_settling_size : GF K mg "settling_size" s_p_settling_size ["tree"]
  p_thrashing : GF K mg "thrashing" s_p_thrashing ["tree"]
  p_helpers : GF K mg "_helpers" s_p_helpers ["tree", "slot", "depth"]
  p_lowest_across : GF K mg "_lowest_across" s_p_lowest_across ["tree", "fork", "side"]
  p_shallowest_slot : GF K mg "_shallowest_slot" s_p_shallowest_slot ["tree"]
  p_ends_fork : GF K mg "ends_fork" s_p_ends_fork ["stack"]
  p_read_forks : GF K mg "read_forks" s_p_read_forks ["text"]
  p_lay_ways : GF K mg "lay_ways" s_p_lay_ways ["root", "lefts", "rights"]
  t_init : NF K Tree.C "Tree.__init__" s_t_init ["self", "text"]
  t_len : MF K Tree.C "__len__" "Tree.__len__" s_t_len ["self"]
  t_eq : MF K Tree.C "__eq__" "Tree.__eq__" s_t_eq ["self", "other"]
  t_forks : PF K Tree.C "forks" "Tree.forks" s_t_forks ["self"]
  t_least_depth : PF K Tree.C "least_depth" "Tree.least_depth" s_t_least_depth ["self"]
  l_box : GF K mg "_law_box" s_l_box ["_law_script", "_law_k"]
  l_take : GF K mg "_law_take" s_l_take ["_law_box_here", "_law_size"]
  l_world : GF K mg "_law_world" s_l_world ["_law_box_here", "_law_most"]
  l_way : GF K mg "_law_way" s_l_way ["_law_world_here", "_law_slot"]
  l_side : GF K mg "_law_side" s_l_side ["_law_fork", "_law_slot"]
  l_turned : GF K mg "_law_turned" s_l_turned ["_law_world_here", "_law_flags_here", "_law_slot"]
  l_free_way : GF K mg "_law_free_way" s_l_free_way ["_law_world_here", "_law_flags_here"]
  l_flags : GF K mg "_law_flags" s_l_flags ["_law_box_here", "_law_world_here"]
  l_same : GF K mg "_law_same" s_l_same ["_law_told", "_law_due"]
  l_names : GF K mg "_law_names" s_l_names ["_law_box_here", "_law_many"]
  l_served : GF K mg "_law_served" s_l_served ["_law_world_here", "_law_model", "_law_name"]
  l_least : GF K mg "_law_least" s_l_least ["_law_world_here"]
  l_asked : GF K mg "_law_asked" s_l_asked ["_law_box_here", "_law_names_here", "_law_size"]
  l_settles : GF K mg "_law_settles" s_l_settles ["_law_world_here", "_law_tree", "_law_box_here"]
  l_example : GF K mg "_law_example" s_l_example ["_law_world_here"]
  l_example_right : GF K mg "_law_example_right" s_l_example_right ["_law_world_here", "_law_tree", "_law_told", "_law_due", "_law_names_here"]
  l_thrashes : GF K mg "_law_thrashes" s_l_thrashes ["_law_world_here", "_law_tree", "_law_box_here"]
  law : GF K mg "law" s_law ["_law_script"]
end Ls
/-! Heaps, texts. -/
namespace Ls
open PySem PySem.Spec PyProof.Rows L2
theorem same_put {H0 H : Hp} {p : Addr} {o : HO} (s : Same H0 H) (h : H0 p = none) : Same H0 (upd H p o) := fun b x e => by
  rw [upd_ne (ne_of_none e h)]
  exact s b x e
theorem same_new {H0 H : Hp} {p : Addr} {o : HO} (s : Same H0 H) (h : H p = none) : Same H0 (upd H p o) := same_put s (s.free h)
theorem ne_free {H0 H : Hp} {a p : Addr} {o : HO} (s : Same H0 H) (e : H0 a = some o) (h : H p = none) : a ≠ p := ne_of_none (s a o e) h
/-- the heap without what stands at b -/
def wo (H : Hp) (b : Addr) : Hp := fun c => if c = b then none else H c
theorem wo_at {H : Hp} {b : Addr} : wo H b b = none := by unfold wo; rw [if_pos rfl]
theorem wo_ne {H : Hp} {b c : Addr} (h : c ≠ b) : wo H b c = H c := by unfold wo; rw [if_neg h]
theorem wo_same {H : Hp} {b : Addr} : Same (wo H b) H := fun c o e => by
  by_cases h : c = b
  · rw [h, wo_at] at e
    cases e
  · rw [wo_ne h] at e
    exact e
theorem wo_none {H : Hp} {b c : Addr} (h : H c = none) : wo H b c = none := by
  unfold wo
  split
  · rfl
  · exact h
theorem wo_of {H0 H : Hp} {b : Addr} (s : Same H0 H) (h : H0 b = none) : Same H0 (wo H b) := fun c o e => by
  rw [wo_ne (ne_of_none e h)]
  exact s c o e
theorem sqt {K : PySem.W.Frag} {H H' : Hp} {a : Addr} {xs : List V} (e : Same H H') (h : SqT K H a xs) : SqT K H' a xs := by
  rcases h with (h | ⟨o, h⟩) | h
  · exact .inl (.inl (e _ _ h))
  · exact .inl (.inr ⟨o, e _ _ h⟩)
  · exact .inr h
theorem sqT {K : PySem.W.Frag} {H : Hp} {a : Addr} {xs : List V} (h : H a = some (.tup xs)) : SqT K H a xs := .inl (.inl h)
theorem sqL {K : PySem.W.Frag} {H : Hp} {a : Addr} {xs : List V} (h : H a = some (.lst xs)) : SqL K H a xs := .inl (.inl h)
/-- a text by its codes -/
def S (l : List Nat) : Str := ⟨l.toArray⟩
theorem S_cps (l : List Nat) : (S l).cps.toList = l := by unfold S; simp
theorem S_len (l : List Nat) : (S l).length = l.length := by unfold S Str.length; simp
theorem S_of (x : Str) : S x.cps.toList = x := by unfold S; simp
theorem S_app (a b : List Nat) : S a ++ S b = S (a ++ b) := by
  show (⟨(a.toArray ++ b.toArray)⟩ : Str) = ⟨(a ++ b).toArray⟩
  rw [List.append_toArray]
theorem S_inj {a b : List Nat} (h : S a = S b) : a = b := by
  have := congrArg (fun x : Str => x.cps.toList) h
  simpa [S_cps] using this
def signs36 : List Nat := "abcdefghijklmnopqrstuvwxyz0123456789".toList.map Char.toNat
/-- an entry -/
def Ent (x : Str) : Prop := 1 ≤ x.length ∧ x.length ≤ 12 ∧ (x.cps.toList.all fun c => decide (c ∈ signs36)) = true
instance (x : Str) : Decidable (Ent x) := by unfold Ent; infer_instance
theorem small12 {n : Nat} (h : n ≤ 12) : n ≤ sizeLine := Nat.le_of_lt (small1000 (by omega))
theorem signs_str : (("abcdefghijklmnopqrstuvwxyz0123456789" : Str)).cps.toList = signs36 := by decide +kernel
end Ls
/-! Data that stands still. -/
namespace Ls
open PySem PySem.Spec PyProof.Rows L2
section
variable {K : PySem.W.Frag} {H H' : Hp}
mutual
theorem dp_mono (s : Same H H') : ∀ {v : V} {d : PyData}, Dp K H v d → Dp K H' v d
  | _, _, .non => .non
  | _, _, .bl b => .bl b
  | _, _, .int i => .int i
  | _, _, .str x => .str x
  | _, _, .lst h a => .lst (s.seq h) (dpAll_mono s a)
  | _, _, .tup h a => .tup (sqt s h) (dpAll_mono s a)
theorem dpAll_mono (s : Same H H') : ∀ {vs : List V} {ds : List PyData}, DpAll K H vs ds → DpAll K H' vs ds
  | _, _, .nil => .nil
  | _, _, .cons h a => .cons (dp_mono s h) (dpAll_mono s a)
end
theorem dpAll_len : ∀ {vs : List V} {ds : List PyData}, DpAll K H vs ds → vs.length = ds.length
  | _, _, .nil => rfl
  | _, _, .cons _ a => by rw [List.length_cons, List.length_cons, dpAll_len a]
theorem dpAll_get : ∀ {vs : List V} {ds : List PyData} {i : Nat} {d : PyData}, DpAll K H vs ds → ds[i]? = some d → ∃ v, vs[i]? = some v ∧ Dp K H v d
  | _, _, _, _, .nil, e => by simp at e
  | _, _, 0, _, .cons h _, e => by
    cases e
    exact ⟨_, rfl, h⟩
  | _, _, i + 1, _, .cons _ a, e => by
    obtain ⟨v, e1, h⟩ := dpAll_get (i := i) a (by simpa using e)
    exact ⟨v, by simpa using e1, h⟩
theorem dpAll_of : ∀ {vs : List V} {ds : List PyData}, vs.length = ds.length → (∀ (i : Nat) (v : V) (d : PyData), vs[i]? = some v → ds[i]? = some d → Dp K H v d) → DpAll K H vs ds
  | [], [], _, _ => .nil
  | [], _ :: _, h, _ => by cases h
  | _ :: _, [], h, _ => by cases h
  | v :: vs, d :: ds, h, k => .cons (k 0 v d rfl rfl) (dpAll_of (by simpa using h) fun i a b e1 e2 => k (i + 1) a b (by simpa using e1) (by simpa using e2))
theorem dpAll_app : ∀ {vs us : List V} {ds es : List PyData}, DpAll K H vs ds → DpAll K H us es → DpAll K H (vs ++ us) (ds ++ es)
  | _, _, _, _, .nil, b => b
  | _, _, _, _, .cons h a, b => .cons h (dpAll_app a b)
theorem dp_tup {v : V} {ds : List PyData} (h : Dp K H v (.tuple ds)) : ∃ a xs, v = .ref a ∧ SqT K H a xs ∧ DpAll K H xs ds := by
  cases h with
  | tup h a => exact ⟨_, _, rfl, h, a⟩
theorem dp_lst {v : V} {ds : List PyData} (h : Dp K H v (.list ds)) : ∃ a xs, v = .ref a ∧ SqL K H a xs ∧ DpAll K H xs ds := by
  cases h with
  | lst h a => exact ⟨_, _, rfl, h, a⟩
theorem dp_int {v : V} {i : Int} (h : Dp K H v (.int i)) : v = .int i := by cases h; rfl
theorem dp_str {v : V} {x : Str} (h : Dp K H v (.str x)) : v = .str x := by cases h; rfl
theorem dp_non {v : V} (h : Dp K H v .none) : v = .non := by cases h; rfl
theorem dpAll_ints : ∀ {vs : List V} {ns : List Int}, DpAll K H vs (ns.map PyData.int) → vs = ns.map V.int
  | _, [], .nil => rfl
  | _, n :: ns, .cons h a => by rw [dp_int h, dpAll_ints a, List.map_cons]
theorem ints_dpAll : ∀ (ns : List Int), DpAll K H (ns.map V.int) (ns.map PyData.int)
  | [] => .nil
  | n :: ns => .cons (.int n) (ints_dpAll ns)
theorem strs_dpAll : ∀ (ns : List Str), DpAll K H (ns.map V.str) (ns.map PyData.str)
  | [] => .nil
  | n :: ns => .cons (.str n) (strs_dpAll ns)
theorem dpAll_strs : ∀ {vs : List V} {ns : List Str}, DpAll K H vs (ns.map PyData.str) → vs = ns.map V.str
  | _, [], .nil => rfl
  | _, n :: ns, .cons h a => by rw [dp_str h, dpAll_strs a, List.map_cons]
/-- the i-th of a tuple -/
theorem tup_at {v : V} {ds : List PyData} {i : Nat} {d : PyData} (h : Dp K H v (.tuple ds)) (e : ds[i]? = some d) : ∃ a xs x, v = .ref a ∧ SqT K H a xs ∧ xs.length = ds.length ∧ xs[i]? = some x ∧ Dp K H x d := by
  obtain ⟨a, xs, rfl, hs, ha⟩ := dp_tup h
  obtain ⟨x, e1, hx⟩ := dpAll_get ha e
  exact ⟨a, xs, x, rfl, hs, dpAll_len ha, e1, hx⟩
theorem lst_at {v : V} {ds : List PyData} {i : Nat} {d : PyData} (h : Dp K H v (.list ds)) (e : ds[i]? = some d) : ∃ a xs x, v = .ref a ∧ SqL K H a xs ∧ xs.length = ds.length ∧ xs[i]? = some x ∧ Dp K H x d := by
  obtain ⟨a, xs, rfl, hs, ha⟩ := dp_lst h
  obtain ⟨x, e1, hx⟩ := dpAll_get ha e
  exact ⟨a, xs, x, rfl, hs, dpAll_len ha, e1, hx⟩
end
/-! ### sides, flags, nodes, ways -/
def sd (b : Bool) : Nat := if b = true then 76 else 82
def sideS (b : Bool) : Str := S [sd b]
def flagS (F : List Bool) : Str := S (F.map sd)
theorem flagS_len (F : List Bool) : (flagS F).length = F.length := by unfold flagS; rw [S_len, List.length_map]
theorem sd_inj {a b : Bool} (h : sd a = sd b) : a = b := by cases a <;> cases b <;> first | rfl | (exact absurd h (by decide))
theorem L_str : ("L" : Str) = sideS true := by decide +kernel
theorem R_str : ("R" : Str) = sideS false := by decide +kernel
theorem sideS_inj {a b : Bool} (h : sideS a = sideS b) : a = b := by
  have := S_inj h
  exact sd_inj (List.cons.inj this).1
/-- true: a fork -/
abbrev Nd := Bool × Nat
def ndS (n : Nd) : Str := if n.1 = true then "fork" else "slot"
def ndD (n : Nd) : PyData := .tuple [.str (ndS n), .int n.2]
def spD (p : Nat × Nat) : PyData := .tuple [.int p.1, .int p.2]
def stepD (p : Nat × Bool) : PyData := .tuple [.int p.1, .str (sideS p.2)]
def wayD (w : List (Nat × Bool)) : PyData := .tuple (w.map stepD)
namespace Tr
def nd : Tr → Nat → Nd
  | dot, o => (false, o)
  | node l _, o => (true, o + l.slots - 1)
/-- the nodes on both sides of each fork, by the fork's number -/
def kids : Tr → Nat → List (Nd × Nd)
  | dot, _ => []
  | node l r, o => l.kids o ++ (l.nd o, r.nd (o + l.slots)) :: r.kids (o + l.slots)
def ways (t : Tr) : List (List (Nat × Bool)) := (List.range t.slots).map (t.way 0)
/-- the text: ( 40, ) 41, . 46 -/
def txt : Tr → List Nat
  | dot => [46]
  | node l r => 40 :: (l.txt ++ r.txt ++ [41])
theorem kids_len : ∀ (t : Tr) (o : Nat), (t.kids o).length = t.slots - 1
  | dot, _ => rfl
  | node l r, o => by
    have h1 := kids_len l o
    have h2 := kids_len r (o + l.slots)
    have p1 := slots_pos l
    have p2 := slots_pos r
    show (l.kids o ++ _ :: r.kids (o + l.slots)).length = l.slots + r.slots - 1
    rw [List.length_append, List.length_cons, h1, h2]
    omega
theorem txt_len : ∀ (t : Tr), t.txt.length + 2 = 3 * t.slots
  | dot => rfl
  | node l r => by
    have h1 := txt_len l
    have h2 := txt_len r
    show (40 :: (l.txt ++ r.txt ++ [41])).length + 2 = 3 * (l.slots + r.slots)
    rw [List.length_cons, List.length_append, List.length_append]
    simp only [List.length_cons, List.length_nil]
    omega
end Tr
/-- the Tree at a -/
structure TreeAt {K : PySem.W.Frag} {mg : Str → Option Value} (X : TX K mg) (H : Hp) (a : Addr) (t : Tr) : Prop where
  ob : ∃ (dx : Addr) (fs : List (Str × V)) (vl vr vs vt vw : V), H a = some (.ins X.Tree.C dx fs) ∧ fs.lookup ("text" : Str) = some (.str (S t.txt)) ∧ fs.lookup ("lefts" : Str) = some vl ∧ fs.lookup ("rights" : Str) = some vr ∧ fs.lookup ("spans" : Str) = some vs ∧ fs.lookup ("root" : Str) = some vt ∧ fs.lookup ("ways" : Str) = some vw ∧
    Dp K H vl (.tuple ((t.kids 0).map fun k => ndD k.1)) ∧ Dp K H vr (.tuple ((t.kids 0).map fun k => ndD k.2)) ∧ Dp K H vs (.tuple ((t.spans 0).map spD)) ∧ Dp K H vt (ndD (t.nd 0)) ∧ Dp K H vw (.tuple (t.ways.map wayD))
  small : t.slots ≤ 64
theorem TreeAt.mono {K : PySem.W.Frag} {mg : Str → Option Value} {X : TX K mg} {H H' : Hp} {a : Addr} {t : Tr} (h : TreeAt X H a t) (s : Same H H') : TreeAt X H' a t := by
  obtain ⟨⟨dx, fs, vl, vr, vs, vt, vw, h0, h1, h2, h3, h4, h5, h6, d1, d2, d3, d4, d5⟩, h7⟩ := h
  exact ⟨⟨dx, fs, vl, vr, vs, vt, vw, s _ _ h0, h1, h2, h3, h4, h5, h6, dp_mono s d1, dp_mono s d2, dp_mono s d3, dp_mono s d4, dp_mono s d5⟩, h7⟩
/-- the law's world of a tree -/
def worldD (t : Tr) : PyData := .tuple [.str (S t.txt), .int t.slots, .list ((t.spans 0).map spD), .list ((t.post 0).map fun f => .int (f : Nat))]
end Ls
/-! lastside.checks, and Tree's len and forks -/
namespace Ls
open PySem PySem.Spec PyProof.Rows L2
section
variable {P : Program} {w : World} {K : PySem.W.Frag} {mg : Str → Option Value} {base : Heap}
def spMadeOf : Sp := fun vs H Q _ => ∃ x y : Str, vs = [.str x, .str y] ∧ x.length ≤ 1000 ∧ (∀ c ∈ x.cps.toList, c ∈ y.cps.toList) ∧ ∀ H', Same H H' → Q (.bl true) H'
theorem ok_p_is_made_of (T : TX K mg) : FnOk P w K mg base CX0 1 T.p_is_made_of.f T.p_is_made_of.fd ["value", "signs"] spMadeOf := by
  refine T.p_is_made_of.F.ok sc_p_is_made_of (fun vs H Q E h => ?_) (fun cdv A outer s H vs Q E hr h => ?_)
  · obtain ⟨x, y, rfl, _⟩ := h
    rfl
  · obtain ⟨x, y, rfl, hx, hy, q⟩ := h
    refine ⟨_, (pss_one (ps_ret (pe_and (pe_callB call_isi (by rfl) T.b_isinstance (by decide +kernel) (pa_cons (pv 0) (pa_cons (pe_bltn (by rfl) T.b_str (by decide +kernel) (v := .ty "str") rfl) pa_nil))) (pe_one (pe_callB (cr_all rfl) (by rfl) T.b_all (by decide +kernel) (pa_cons (pe_lc (own := [("sign", 2)]) rfl sc_p_is_made_of.nd (pi_str (pv 0)) (blkOk_by (N := ["value", "signs", "sign"]) (sc := defScope s_p_is_made_of) (by decide +kernel)) (fun _ _ _ _ _ => (pg_name (i := 2) sc_p_is_made_of.nd rfl (by first | exact .inl rfl | exact .inr rfl))) (fun _ _ _ _ _ => pts_nil) (fun _ _ _ _ _ => (pe_cmpR op_in_sign (pv 2) (pv 1) (by rfl)))) pa_nil)))))), ?_⟩
    refine ⟨_, rfl, .str x, .ty "str", .type "str", .type "str", true, rfl, .ty _, .base (.str x), kit_ty (by decide +kernel), true, rfl, iteT ?_⟩
    refine ⟨_, rfl, x, rfl, fun D hD => lc_it walk_str (fun i H' => Same H H' ∧ H' D = some (.lst ((x.cps.toList.take i).map fun c => V.bl (decide (c ∈ y.cps.toList)))))
      ⟨same_new (Same.refl H) hD, upd_same⟩ (fun _ _ _ _ => trivial) ?_ ?_⟩
    · rintro i v H1 H2 hi ⟨s1, e1⟩ ⟨rfl, c, hc, rfl⟩
      refine ⟨rfl, ?_⟩
      refine ⟨_, rfl, _, rfl, c, y, rfl, rfl, _, e1, ?_, same_put s1 hD, ?_⟩
      · rw [List.length_map, List.length_take]
        have := small1000 (show i ≤ 1000 from Nat.le_trans (Nat.le_of_lt hi) hx)
        omega
      · rw [upd_same, List.take_add_one]
        have e2 : x.cps.toList[i]? = some c := by simpa using hc
        rw [e2, List.map_append]
        rfl
    · rintro H1 ⟨s1, e1⟩
      refine ⟨D, x.cps.toList.map fun c => decide (c ∈ y.cps.toList), rfl, .inl (.inl ?_), ?_⟩
      · rw [e1, List.map_map, List.take_of_length_le (by simp)]
        rfl
      · have e : ((x.cps.toList.map fun c => decide (c ∈ y.cps.toList)).all id) = true := by
          rw [List.all_map]
          exact List.all_eq_true.mpr fun c hc => decide_eq_true (hy c hc)
        rw [e]
        exact q H1 s1
def spEntry (v : Str → V) : Sp := fun vs H Q _ => ∃ x : Str, vs = [.str x] ∧ Ent x ∧ ∀ H', Same H H' → Q (v x) H'
theorem ok_p_is_entry (T : TX K mg) : FnOk P w K mg base CX0 2 T.p_is_entry.f T.p_is_entry.fd ["value"] (spEntry fun _ => .bl true) := by
  refine T.p_is_entry.F.ok sc_p_is_entry (fun vs H Q E h => ?_) (fun cdv A outer s H vs Q E hr h => ?_)
  · obtain ⟨x, rfl, _⟩ := h
    rfl
  · obtain ⟨x, rfl, ⟨h1, h2, h3⟩, q⟩ := h
    refine ⟨_, (pss_one (ps_ret (pe_and (pe_callB call_isi (by rfl) T.b_isinstance (by decide +kernel) (pa_cons (pv 0) (pa_cons (pe_bltn (by rfl) T.b_str (by decide +kernel) (v := .ty "str") rfl) pa_nil))) (pe_and (pe_chain op_le op_le pe_int (pe_callB call_len_str (by rfl) T.b_len (by decide +kernel) (pa_cons (pv 0) pa_nil)) (pe_glob rfl T.LONGEST_ENTRY.g T.LONGEST_ENTRY.r)) (pe_one (pe_call (ok_p_is_made_of T) (hr.mono (by decide)) (by rfl) T.p_is_made_of.g T.p_is_made_of.F.kp T.p_is_made_of.b .nil pass0 (pa_cons (pv 0) (pa_cons (pe_glob rfl T.ENTRY_SIGNS.g T.ENTRY_SIGNS.r) pa_nil)))))))), ?_⟩
    refine ⟨_, rfl, .str x, .ty "str", .type "str", .type "str", true, rfl, .ty _, .base (.str x), kit_ty (by decide +kernel), true, rfl, iteT ?_⟩
    have e1 : decide ((1 : Int) ≤ (x.length : Int)) = true := decide_eq_true (by omega)
    have e2 : decide ((x.length : Int) ≤ 12) = true := decide_eq_true (by omega)
    refine ⟨_, rfl, x, rfl, small12 h2, _, _, rfl, rfl, _, rfl, ?_⟩
    rw [e1]
    refine iteT ⟨_, _, rfl, rfl, ?_⟩
    refine ⟨true, congrArg V.bl e2, iteT ?_⟩
    refine ⟨_, rfl, x, _, rfl, by omega, fun c hc => ?_, fun H' s' => q H' s'⟩
    rw [signs_str]
    exact of_decide_eq_true (List.all_eq_true.mp h3 c hc)
theorem ok_p_checked_entry (T : TX K mg) : FnOk P w K mg base CX0 3 T.p_checked_entry.f T.p_checked_entry.fd ["entry"] (spEntry .str) := by
  refine T.p_checked_entry.F.ok sc_p_checked_entry (fun vs H Q E h => ?_) (fun cdv A outer s H vs Q E hr h => ?_)
  · obtain ⟨x, rfl, _⟩ := h
    rfl
  · obtain ⟨x, rfl, hx, q⟩ := h
    refine ⟨_, (pss_cons (ps_if (pt_not (pt_val (pe_call (ok_p_is_entry T) (hr.mono (by decide)) (by rfl) T.p_is_entry.g T.p_is_entry.F.kp T.p_is_entry.b .nil pass0 (pa_cons (pv 0) pa_nil))))
        (pss_one ps_never)
        pss_nil)
      (pss_one (ps_ret (pv 0)))), ?_⟩
    refine ⟨_, rfl, x, rfl, hx, fun H1 s1 => ⟨_, rfl, ?_⟩⟩
    exact ⟨_, rfl, q H1 s1⟩
/-- a def of a tree alone -/
def spTree (X : TX K mg) (v : Tr → V) : Sp := fun vs H Q _ => ∃ (a : Addr) (t : Tr), vs = [.ref a] ∧ TreeAt X H a t ∧ ∀ H', Same H H' → Q (v t) H'
theorem ok_t_forks (T : TX K mg) : FnOk P w K mg base CX0 1 T.t_forks.f T.t_forks.fd ["self"] (spTree T fun t => .int ((t.slots - 1 : Nat) : Int)) := by
  refine T.t_forks.F.ok sc_t_forks (fun vs H Q E h => ?_) (fun cdv A outer s H vs Q E hr h => ?_)
  · obtain ⟨a, t, rfl, _⟩ := h
    rfl
  · obtain ⟨a, t, rfl, ⟨⟨dx, fs, vl, vr, vs, vt, vw, h0, h1, h2, h3, h4, h5, h6, d1, d2, d3, d4, d5⟩, h7⟩, q⟩ := h
    refine ⟨_, (pss_one (ps_ret (pe_callB call_len_seq (by rfl) T.b_len (by decide +kernel) (pa_cons (pe_fld (pv 0) rfl) pa_nil)))), ?_⟩
    obtain ⟨b, xs, rfl, hs, ha⟩ := dp_tup d3
    refine ⟨_, rfl, a, _, dx, fs, _, rfl, h0, T.Tree.cl, T.nT_spans, h4, b, xs, rfl, .inr hs, ?_⟩
    rw [dpAll_len ha, List.length_map, Tr.spans_len]
    exact q H (Same.refl H)
theorem ok_t_len (T : TX K mg) : FnOk P w K mg base CX0 1 T.t_len.f T.t_len.fd ["self"] (spTree T fun t => .int (t.slots : Nat)) := by
  refine T.t_len.F.ok sc_t_len (fun vs H Q E h => ?_) (fun cdv A outer s H vs Q E hr h => ?_)
  · obtain ⟨a, t, rfl, _⟩ := h
    rfl
  · obtain ⟨a, t, rfl, ⟨⟨dx, fs, vl, vr, vs, vt, vw, h0, h1, h2, h3, h4, h5, h6, d1, d2, d3, d4, d5⟩, h7⟩, q⟩ := h
    refine ⟨_, (pss_one (ps_ret (pe_callB call_len_seq (by rfl) T.b_len (by decide +kernel) (pa_cons (pe_fld (pv 0) rfl) pa_nil)))), ?_⟩
    obtain ⟨b, xs, rfl, hs, ha⟩ := dp_tup d5
    refine ⟨_, rfl, a, _, dx, fs, _, rfl, h0, T.Tree.cl, T.nT_ways, h6, b, xs, rfl, .inr hs, ?_⟩
    rw [dpAll_len ha, List.length_map]
    unfold Tr.ways
    rw [List.length_map, List.length_range]
    exact q H (Same.refl H)
def spFlags (X : TX K mg) : Sp := fun vs H Q _ => ∃ (a : Addr) (t : Tr) (F : List Bool), vs = [.ref a, .str (flagS F)] ∧ TreeAt X H a t ∧ F.length = t.slots - 1 ∧ ∀ H', Same H H' → Q (.str (flagS F)) H'
theorem flagS_in (F : List Bool) : ∀ c ∈ (flagS F).cps.toList, c ∈ ("LR" : Str).cps.toList := by
  have e : ("LR" : Str).cps.toList = [76, 82] := by decide +kernel
  intro c hc
  unfold flagS at hc
  rw [S_cps] at hc
  obtain ⟨b, _, rfl⟩ := List.mem_map.mp hc
  rw [e]
  cases b <;> decide
theorem ok_p_checked_flags (T : TX K mg) : FnOk P w K mg base CX0 3 T.p_checked_flags.f T.p_checked_flags.fd ["tree", "flags"] (spFlags T) := by
  refine T.p_checked_flags.F.ok sc_p_checked_flags (fun vs H Q E h => ?_) (fun cdv A outer s H vs Q E hr h => ?_)
  · obtain ⟨a, t, F, rfl, _⟩ := h
    rfl
  · obtain ⟨a, t, F, rfl, hT, hF, q⟩ := h
    have h64 := hT.small
    refine ⟨_, (pss_cons (ps_if (PW.pt (pw_or (pt_not (pt_val (pe_call (ok_p_is_made_of T) (hr.mono (by decide)) (by rfl) T.p_is_made_of.g T.p_is_made_of.F.kp T.p_is_made_of.b .nil pass0 (pa_cons (pv 1) (pa_cons pe_str pa_nil))))) (pw_or1 (pt_cmpR op_ne (pe_callB call_len_str (by rfl) T.b_len (by decide +kernel) (pa_cons (pv 1) pa_nil)) (pe_prop (pv 0) T.Tree.cl T.t_forks.pr (ok_t_forks T) (hr.mono (by decide)) T.t_forks.b .nil pass0 rfl) (nomark _)))))
        (pss_one ps_never)
        pss_nil)
      (pss_one (ps_ret (pv 1)))), ?_⟩
    refine ⟨_, rfl, flagS F, _, rfl, by rw [flagS_len]; omega, flagS_in F, fun H1 s1 => ⟨_, rfl, ?_⟩⟩
    have hT1 := hT.mono s1
    obtain ⟨⟨dx, fs, _, _, _, _, _, h0, _⟩, _⟩ := id hT1
    refine ⟨_, rfl, flagS F, rfl, by rw [flagS_len]; exact Nat.le_of_lt (small1000 (by omega)), _, rfl, a, dx, fs, rfl, h0, a, t, rfl, hT1, fun H2 s2 => ⟨rfl, _, rfl, ?_⟩⟩
    rw [flagS_len, hF]
    refine iteNS rfl ?_
    exact ⟨_, rfl, q H2 (s1.trans s2)⟩
end
end Ls
/-! lastside.flags -/
namespace Ls
open PySem PySem.Spec PyProof.Rows L2
def KidsOk (S : List (Nd × Nd)) (t : Tr) (o : Nat) : Prop := ∀ i p, (t.kids o)[i]? = some p → S[o + i]? = some p
theorem KidsOk.self (t : Tr) : KidsOk (t.kids 0) t 0 := fun i p h => by rw [Nat.zero_add]; exact h
theorem KidsOk.root {S : List (Nd × Nd)} {l r : Tr} {o : Nat} (h : KidsOk S (.node l r) o) : S[o + l.slots - 1]? = some (l.nd o, r.nd (o + l.slots)) := by
  have p1 := Tr.slots_pos l
  have := h (l.slots - 1) (l.nd o, r.nd (o + l.slots)) (by
    show (l.kids o ++ _ :: r.kids (o + l.slots))[l.slots - 1]? = _
    rw [List.getElem?_append_right (by rw [Tr.kids_len]; exact Nat.le_refl _), Tr.kids_len, Nat.sub_self]
    rfl)
  rw [show o + l.slots - 1 = o + (l.slots - 1) by omega]
  exact this
theorem KidsOk.left {S : List (Nd × Nd)} {l r : Tr} {o : Nat} (h : KidsOk S (.node l r) o) : KidsOk S l o := fun i p e => by
  refine h i p ?_
  show (l.kids o ++ _ :: r.kids (o + l.slots))[i]? = _
  rw [List.getElem?_append_left (List.getElem?_eq_some_iff.mp e).1]
  exact e
theorem KidsOk.right {S : List (Nd × Nd)} {l r : Tr} {o : Nat} (h : KidsOk S (.node l r) o) : KidsOk S r (o + l.slots) := fun i p e => by
  have p1 := Tr.slots_pos l
  have := h (l.slots + i) p (by
    show (l.kids o ++ _ :: r.kids (o + l.slots))[l.slots + i]? = _
    rw [List.getElem?_append_right (by rw [Tr.kids_len]; omega), Tr.kids_len, show l.slots + i - (l.slots - 1) = i + 1 by omega, List.getElem?_cons_succ]
    exact e)
  rw [show o + l.slots + i = o + (l.slots + i) by omega]
  exact this
def setF (F : List Bool) (w : List (Nat × Bool)) : List Bool := w.foldl (fun F p => F.set p.1 p.2) F
/-- the flags after a request at the slot -/
def turn (t : Tr) (F : List Bool) (s : Nat) : List Bool := setF F (t.way 0 s)
theorem setF_len : ∀ (w : List (Nat × Bool)) (F : List Bool), (setF F w).length = F.length
  | [], _ => rfl
  | p :: w, F => by
    show (setF (F.set p.1 p.2) w).length = F.length
    rw [setF_len w, List.length_set]
theorem setF_take {w : List (Nat × Bool)} {F : List Bool} {i : Nat} (h : i < w.length) : setF F (w.take (i + 1)) = (setF F (w.take i)).set w[i].1 w[i].2 := by
  rw [List.take_add_one, List.getElem?_eq_getElem h]
  unfold setF
  rw [List.foldl_append]
  rfl
theorem turn_len (t : Tr) (F : List Bool) (s : Nat) : (turn t F s).length = F.length := setF_len _ _
/-- a flag -/
def fget (F : List Bool) (f : Nat) : Bool := F.getD f false
/-- the slot that the flags lead a load to -/
def vict (t : Tr) (F : List Bool) : Nat := t.victim 0 (fget F)
theorem vict_lt (t : Tr) (F : List Bool) : vict t F < t.slots := by
  have := (Tr.victim_mem t 0 (fget F)).2
  unfold vict
  omega
theorem join_one : ∀ (xs : List Nat), Str.join Str.empty (xs.map fun c => S [c]) = S xs
  | [] => rfl
  | [c] => rfl
  | c :: d :: xs => by
    show S [c] ++ Str.empty ++ Str.join Str.empty ((d :: xs).map fun c => S [c]) = S (c :: d :: xs)
    rw [join_one (d :: xs), show (Str.empty : Str) = S [] from rfl, S_app, S_app]
    rfl
theorem join_sides (F : List Bool) : Txt.join ("" : Str) (F.map sideS) = flagS F := by
  have e1 : ("" : Str) = Str.empty := by decide +kernel
  have e2 : F.map sideS = (F.map sd).map fun c => S [c] := by
    rw [List.map_map]
    rfl
  have e3 : Txt.join Str.empty ((F.map sd).map fun c => S [c]) = Str.join Str.empty ((F.map sd).map fun c => S [c]) := by
    first | rfl | exact StrLaws.glued_eq_join _ _
  rw [e1, e2, e3, join_one]
  rfl
theorem sum_ones (F : List Bool) : ((F.map sideS).map (·.length)).sum = F.length := by
  induction F with
  | nil => rfl
  | cons b F ih =>
    rw [List.map_cons, List.map_cons, List.sum_cons, ih, List.length_cons]
    show (sideS b).length + F.length = F.length + 1
    unfold sideS
    rw [S_len, List.length_singleton]
    omega
section
variable {P : Program} {w : World} {K : PySem.W.Frag} {mg : Str → Option Value} {base : Heap}
def spTurned (X : TX K mg) : Sp := fun vs H Q _ => ∃ (a : Addr) (t : Tr) (F : List Bool) (s : Nat), vs = [.ref a, .str (flagS F), .int s] ∧ TreeAt X H a t ∧ F.length = t.slots - 1 ∧ s < t.slots ∧ ∀ H', Same H H' → Q (.str (flagS (turn t F s))) H'
theorem ok_p_turned (T : TX K mg) : FnOk P w K mg base CX0 1 T.p_turned.f T.p_turned.fd ["tree", "flags", "slot"] (spTurned T) := by
  refine T.p_turned.F.ok sc_p_turned (fun vs H Q E h => ?_) (fun cdv A outer s H vs Q E hr h => ?_)
  · obtain ⟨a, t, F, s, rfl, _⟩ := h
    rfl
  · obtain ⟨a, t, F, sl, rfl, hT, hF, hs, q⟩ := h
    have h64 := hT.small
    refine ⟨_, (pss_cons (ps_set (i := 3) sc_p_turned.nd rfl (by first | exact .inl rfl | exact .inr rfl) (pe_callTy (L2.call_list_str rfl) (by rfl) T.b_list (by decide +kernel) (pa_cons (pv 1) pa_nil)))
      (pss_cons (ps_for PassesOwn.never rfl (pi_tup (pe_ix ix_tup (pe_fld (pv 0) rfl) (pv 2) (fun _ _ => rfl))) (pg_tup rfl (pgs_cons (pg_name (i := 4) sc_p_turned.nd rfl (by first | exact .inl rfl | exact .inr rfl)) (pgs_cons (pg_name (i := 5) sc_p_turned.nd rfl (by first | exact .inl rfl | exact .inr rfl)) pgs_nil)))
        (pss_one (ps_asg (pv 5) (pg_sub (pv 3) (pv 4) set_list))))
      (pss_one (ps_ret (pe_join pe_str (pv 3)))))), ?_⟩
    refine ⟨_, rfl, flagS F, rfl, by rw [flagS_len]; exact Nat.le_of_lt (small1000 (by omega)), fun p hp => ?_⟩
    have s1 : Same H (upd H p (.lst ((flagS F).cps.toList.map fun c => V.str ⟨#[c]⟩))) := same_new (Same.refl H) hp
    obtain ⟨⟨dx, fs, vl, vr, vs, vt, vw, h0, h1, h2, h3, h4, h5, h6, d1, d2, d3, d4, d5⟩, h7⟩ := hT
    have ew : (t.ways.map wayD)[sl]? = some (wayD (t.way 0 sl)) := by
      unfold Tr.ways
      rw [List.map_map, List.getElem?_map, List.getElem?_range hs]
      rfl
    obtain ⟨b, xs, x, rfl, hb, hbl, hx, dx'⟩ := tup_at d5 ew
    obtain ⟨c, ys, rfl, hc, hcl⟩ := dp_tup dx'
    have hyl : ys.length = (t.way 0 sl).length := by rw [dpAll_len hcl, List.length_map]
    refine ⟨_, rfl, a, _, dx, fs, _, rfl, s1 _ _ h0, T.Tree.cl, T.nT_ways, h6, _, rfl, b, xs, _, _, rfl, rfl, sqt s1 hb, at_of rfl hx, c, rfl, ⟨ys, sqt s1 hc⟩, ?_⟩
    refine for_tup (K := K) (a := c) (xs := ys) (fun i σ H' => ∃ v4 v5, σ = [some (.ref a), some (.str (flagS F)), some (.int sl), some (.ref p), v4, v5] ∧ Same H H' ∧ H' p = some (.lst ((setF F ((t.way 0 sl).take i)).map fun z => V.str (sideS z))))
      ⟨none, none, rfl, s1, ?_⟩ (fun i σ H' _ ⟨_, _, _, k, _⟩ => sqt k hc) ?_ ?_
    · rw [upd_same]
      unfold flagS
      rw [S_cps, List.map_map]
      rfl
    · rintro i y σ H' hy ⟨v4, v5, rfl, k, ep⟩
      have hi : i < (t.way 0 sl).length := by
        rw [← hyl]
        exact (List.getElem?_eq_some_iff.mp hy).1
      have ed : ((t.way 0 sl).map stepD)[i]? = some (stepD (t.way 0 sl)[i]) := by rw [List.getElem?_map, List.getElem?_eq_getElem hi]; rfl
      obtain ⟨y', hy', dy⟩ := dpAll_get hcl ed
      rw [hy] at hy'
      cases hy'
      obtain ⟨g, zs, rfl, hg, hgl⟩ := dp_tup dy
      cases hgl with
      | cons z1 hgl =>
        cases hgl with
        | cons z2 hgl =>
          cases hgl
          cases dp_int z1
          cases dp_str z2
          obtain ⟨m1, m2, m3⟩ := Tr.way_mem t 0 sl _ (Nat.zero_le _) (by omega) (List.getElem_mem hi)
          refine ⟨g, _, rfl, sqt k hg, rfl, _, _, rfl, _, _, rfl, rfl, ?_⟩
          refine ⟨_, rfl, _, rfl, _, rfl, p, _, _, (t.way 0 sl)[i].1, rfl, rfl, ep, ?_, ?_⟩
          · unfold ixN
            rw [if_pos (by omega), if_pos (by rw [List.length_map, setF_len]; omega), Int.toNat_natCast]
          · refine ⟨_, _, rfl, same_put k hp, ?_⟩
            rw [upd_same, setF_take hi, List.map_set]
    · rintro σ H' ⟨v4, v5, rfl, k, ep⟩
      rw [hyl, List.take_length] at ep
      refine ⟨⟨_, rfl⟩, _, rfl, "", p, (setF F (t.way 0 sl)).map sideS, rfl, rfl, .inl (sqL ?_), ?_, ?_⟩
      · rw [ep, List.map_map]
        rfl
      · rw [sum_ones, List.length_map, setF_len]
        have e0 : ("" : Str).length = 0 := by decide +kernel
        rw [e0]
        omega
      · rw [join_sides]
        exact q H' k
def spFound (X : TX K mg) : Sp := fun vs H Q _ => ∃ (a : Addr) (t : Tr) (F : List Bool), vs = [.ref a, .str (flagS F)] ∧ TreeAt X H a t ∧ F.length = t.slots - 1 ∧ Q (.int (vict t F : Nat)) H
theorem at_str {xs : List Nat} {j c : Nat} (h : xs[j]? = some c) : atI xs (j : Int) = some c := by
  have hj := (List.getElem?_eq_some_iff.mp h).1
  unfold atI ixN
  rw [if_pos (by omega), if_pos (by omega), Int.toNat_natCast]
  exact h
theorem nd_fork {n : Nat} : ndS (true, n) = "fork" := rfl
theorem nd_slot {n : Nat} : ndS (false, n) = "slot" := rfl
theorem ok_p_found_victim (T : TX K mg) : FnOk P w K mg base CX0 1 T.p_found_victim.f T.p_found_victim.fd ["tree", "flags"] (spFound T) := by
  refine T.p_found_victim.F.ok sc_p_found_victim (fun vs H Q E h => ?_) (fun cdv A outer s H vs Q E hr h => ?_)
  · obtain ⟨a, t, F, rfl, _⟩ := h
    rfl
  · obtain ⟨a, t, F, rfl, hT, hF, q⟩ := h
    have h64 := hT.small
    refine ⟨_, (pss_cons (ps_asg (pe_fld (pv 0) rfl) (pg_tup rfl (pgs_cons (pg_name (i := 2) sc_p_found_victim.nd rfl (by first | exact .inl rfl | exact .inr rfl)) (pgs_cons (pg_name (i := 3) sc_p_found_victim.nd rfl (by first | exact .inl rfl | exact .inr rfl)) pgs_nil))))
      (pss_cons (ps_while PassesOwn.never (pt_cmpR op_eq (pv 2) pe_str (nomark _))
        (pss_one (ps_asg (pe_ifExp (pt_cmpR op_eq (pe_ix ix_str (pv 1) (pv 3) (fun _ _ => rfl)) pe_str (nomark _)) (pe_ix ix_tup (pe_fld (pv 0) rfl) (pv 3) (fun _ _ => rfl)) (pe_ix ix_tup (pe_fld (pv 0) rfl) (pv 3) (fun _ _ => rfl))) (pg_tup rfl (pgs_cons (pg_name (i := 2) sc_p_found_victim.nd rfl (by first | exact .inl rfl | exact .inr rfl)) (pgs_cons (pg_name (i := 3) sc_p_found_victim.nd rfl (by first | exact .inl rfl | exact .inr rfl)) pgs_nil))))))
      (pss_one (ps_ret (pv 3))))), ?_⟩
    obtain ⟨⟨dx, fs, vl, vr, vs, vt, vw, h0, h1, h2, h3, h4, h5, h6, d1, d2, d3, d4, d5⟩, h7⟩ := hT
    obtain ⟨b, xs, rfl, hb, hbl⟩ := dp_tup d4
    cases hbl with
    | cons z1 hbl =>
      cases hbl with
      | cons z2 hbl =>
        cases hbl
        cases dp_str z1
        cases dp_int z2
        refine ⟨_, rfl, a, _, dx, fs, _, rfl, h0, T.Tree.cl, T.nT_root, h5, b, _, rfl, hb, rfl, _, _, rfl, _, _, rfl, rfl, ?_⟩
        refine ⟨fun m σ H' => ∃ (u : Tr) (o : Nat), m = u.slots ∧ σ = [some (.ref a), some (.str (flagS F)), some (.str (ndS (u.nd o))), some (.int ((u.nd o).2 : Nat))] ∧ H' = H ∧ KidsOk (t.kids 0) u o ∧ o + u.slots ≤ t.slots ∧ u.victim o (fget F) = vict t F,
          ⟨t.slots, t, 0, rfl, rfl, rfl, KidsOk.self t, by omega, rfl⟩, fun m σ H' hW => ?_⟩
        obtain ⟨u, o, rfl, rfl, rfl, kk, hle, hv⟩ := hW
        cases u with
        | dot =>
          refine ⟨_, rfl, rfl, _, rfl, ?_⟩
          have e : decide (V.str (ndS ((Tr.dot).nd o)) = V.str "fork") = false := by
            show decide (V.str "slot" = V.str "fork") = false
            decide +kernel
          rw [e]
          refine ⟨_, rfl, ?_⟩
          have e2 : o = vict t F := hv
          show Q (.int (o : Nat)) H'
          rw [e2]
          exact q
        | node l r =>
          have p1 := Tr.slots_pos l
          have p2 := Tr.slots_pos r
          have hle' : o + (l.slots + r.slots) ≤ t.slots := hle
          refine ⟨_, rfl, rfl, _, rfl, ?_⟩
          have e : decide (V.str (ndS ((Tr.node l r).nd o)) = V.str "fork") = true := decide_eq_true rfl
          rw [e]
          have hf : o + l.slots - 1 < F.length := by omega
          have ec : (flagS F).cps.toList[o + l.slots - 1]? = some (sd (fget F (o + l.slots - 1))) := by
            unfold flagS fget
            rw [S_cps, List.getElem?_map, List.getElem?_eq_getElem hf, List.getD_eq_getElem?_getD, List.getElem?_eq_getElem hf]
            rfl
          refine ⟨fun σ' H2 => ∃ (u' : Tr) (o' : Nat), u'.slots < (Tr.node l r).slots ∧ σ' = [some (.ref a), some (.str (flagS F)), some (.str (ndS (u'.nd o'))), some (.int ((u'.nd o').2 : Nat))] ∧ H2 = H' ∧ KidsOk (t.kids 0) u' o' ∧ o' + u'.slots ≤ t.slots ∧ u'.victim o' (fget F) = vict t F,
            fun σ' H2 ⟨u', o', g1, g2, g3, g4, g5, g6⟩ => ⟨u'.slots, g1, u', o', rfl, g2, g3, g4, g5, g6⟩, ?_⟩
          have kr := kk.root
          have sl : l.slots < (Tr.node l r).slots := by show l.slots < l.slots + r.slots; omega
          have sr : r.slots < (Tr.node l r).slots := by show r.slots < l.slots + r.slots; omega
          refine ⟨_, rfl, _, rfl, flagS F, _, _, rfl, rfl, by rw [flagS_len]; exact Nat.le_of_lt (small1000 (by omega)), at_str ec, rfl, _, rfl, ?_⟩
          have hv' : (if fget F (o + l.slots - 1) = true then r.victim (o + l.slots) (fget F) else l.victim o (fget F)) = vict t F := hv
          cases hc : fget F (o + l.slots - 1) with
          | true =>
            rw [if_pos hc] at hv'
            have e3 : decide (V.str ⟨#[sd true]⟩ = V.str "L") = true := by decide +kernel
            rw [e3]
            obtain ⟨c, ys, y, rfl, hcs, hcl, hy, dy⟩ := tup_at d2 (show ((t.kids 0).map fun k => ndD k.2)[o + l.slots - 1]? = some (ndD (r.nd (o + l.slots))) by rw [List.getElem?_map, kr]; rfl)
            obtain ⟨g, zs, rfl, hg, hgl⟩ := dp_tup dy
            cases hgl with
            | cons w1 hgl =>
              cases hgl with
              | cons w2 hgl =>
                cases hgl
                cases dp_str w1
                cases dp_int w2
                refine ⟨_, rfl, a, _, dx, fs, _, rfl, h0, T.Tree.cl, T.nT_rights, h3, _, rfl, c, ys, _, _, rfl, rfl, hcs, at_of rfl hy, g, _, rfl, hg, rfl, _, _, rfl, _, _, rfl, rfl, ?_⟩
                exact ⟨r, o + l.slots, sr, rfl, rfl, kk.right, by omega, hv'⟩
          | false =>
            rw [if_neg (by rw [hc]; exact Bool.false_ne_true)] at hv'
            have e3 : decide (V.str ⟨#[sd false]⟩ = V.str "L") = false := by decide +kernel
            rw [e3]
            obtain ⟨c, ys, y, rfl, hcs, hcl, hy, dy⟩ := tup_at d1 (show ((t.kids 0).map fun k => ndD k.1)[o + l.slots - 1]? = some (ndD (l.nd o)) by rw [List.getElem?_map, kr]; rfl)
            obtain ⟨g, zs, rfl, hg, hgl⟩ := dp_tup dy
            cases hgl with
            | cons w1 hgl =>
              cases hgl with
              | cons w2 hgl =>
                cases hgl
                cases dp_str w1
                cases dp_int w2
                refine ⟨_, rfl, a, _, dx, fs, _, rfl, h0, T.Tree.cl, T.nT_lefts, h2, _, rfl, c, ys, _, _, rfl, rfl, hcs, at_of rfl hy, g, _, rfl, hg, rfl, _, _, rfl, _, _, rfl, rfl, ?_⟩
                exact ⟨l, o, sl, rfl, rfl, kk.left, by omega, hv'⟩
end
end Ls
/-! lastside.caches -/
namespace Ls
open PySem PySem.Spec PyProof.Rows L2
theorem inV_strs (e : Str) (es : List Str) : inV (.str e) (es.map V.str) = decide (e ∈ es) := by
  unfold inV
  rw [List.any_map]
  rw [Bool.eq_iff_iff, List.any_eq_true, decide_eq_true_iff]
  constructor
  · rintro ⟨x, hx, h⟩
    have h' : (x == e) = true := h
    rw [← eq_of_beq h']
    exact hx
  · intro h
    exact ⟨e, h, by show (e == e) = true; exact beq_self_eq_true e⟩
theorem flat_strs (es : List Str) : (es.map V.str).all flatV = true := by
  rw [List.all_map]
  exact List.all_eq_true.mpr fun _ _ => rfl
theorem putF_len (f : Str) (v : V) : ∀ fs : List (Str × V), (putF f v fs).length ≤ fs.length + 1
  | [] => Nat.le_refl _
  | (g, x) :: r => by
    show (if g = f then (g, v) :: r else (g, x) :: putF f v r).length ≤ _
    split
    · simp
    · have := putF_len f v r
      simp only [List.length_cons]
      omega
/-- the Cache at a, its list at l, its tree's address tr -/
structure CacheAt {K : PySem.W.Frag} {mg : Str → Option Value} (X : TX K mg) (H : Hp) (a l tr : Addr) (F : List Bool) (es : List Str) : Prop where
  ob : ∃ (dx : Addr) (fs : List (Str × V)), H a = some (.ins X.Cache.C dx fs) ∧ fs.lookup ("tree" : Str) = some (.ref tr) ∧ fs.lookup ("flags" : Str) = some (.str (flagS F)) ∧ fs.lookup ("contents" : Str) = some (.ref l) ∧
    fs.lookup ("listed" : Str) = none ∧ fs.lookup ("slot_of" : Str) = none ∧ fs.lookup ("request" : Str) = none ∧ fs.length ≤ 100
  li : H l = some (.lst (es.map V.str))
theorem CacheAt.ne {K : PySem.W.Frag} {mg : Str → Option Value} {X : TX K mg} {H : Hp} {a l tr : Addr} {F : List Bool} {es : List Str} (h : CacheAt X H a l tr F es) : a ≠ l := by
  obtain ⟨⟨dx, fs, h0, _⟩, h1⟩ := h
  exact ne_of h0 h1 (by intro z; cases z)
theorem CacheAt.mono {K : PySem.W.Frag} {mg : Str → Option Value} {X : TX K mg} {H H' : Hp} {a l tr : Addr} {F : List Bool} {es : List Str} (h : CacheAt X H a l tr F es) (ha : ∀ o, H a = some o → H' a = some o) (hl : ∀ o, H l = some o → H' l = some o) : CacheAt X H' a l tr F es := by
  obtain ⟨⟨dx, fs, h0, r⟩, h1⟩ := h
  exact ⟨⟨dx, fs, ha _ h0, r⟩, hl _ h1⟩
/-- what a request makes of the flags and the entries, and its answer -/
def reqF (t : Tr) (F : List Bool) (es : List Str) (e : Str) : List Bool := if e ∈ es then turn t F (es.idxOf e) else turn t F (vict t F)
def reqE (t : Tr) (F : List Bool) (es : List Str) (e : Str) : List Str := if e ∈ es then es else es.set (vict t F) e
def ansV (t : Tr) (F : List Bool) (es : List Str) (e : Str) : List V := if e ∈ es then [.str "hit", .int (es.idxOf e : Nat), .non] else [.str "load", .int (vict t F : Nat), .str (es.getD (vict t F) Str.empty)]
theorem reqF_len (t : Tr) (F : List Bool) (es : List Str) (e : Str) : (reqF t F es e).length = F.length := by
  unfold reqF
  split <;> exact turn_len _ _ _
theorem reqE_len (t : Tr) (F : List Bool) (es : List Str) (e : Str) : (reqE t F es e).length = es.length := by
  unfold reqE
  split
  · rfl
  · exact List.length_set
section
variable {P : Program} {w : World} {K : PySem.W.Frag} {mg : Str → Option Value} {base : Heap}
def spEntries : Sp := fun vs H Q _ => ∃ (l : Addr) (es : List Str), vs = [.int (es.length : Nat), .ref l] ∧ H l = some (.lst (es.map V.str)) ∧ es.Nodup ∧ (∀ e ∈ es, Ent e) ∧ es.length ≤ 1000 ∧ ∀ H' c, Same H H' → H c = none → H' c = some (.lst (es.map V.str)) → Q (.ref c) H'
theorem ok_p_checked_entries (T : TX K mg) : FnOk P w K mg base CX0 3 T.p_checked_entries.f T.p_checked_entries.fd ["many", "entries"] spEntries := by
  refine T.p_checked_entries.F.ok sc_p_checked_entries (fun vs H Q E h => ?_) (fun cdv A outer s H vs Q E hr h => ?_)
  · obtain ⟨l, es, rfl, _⟩ := h
    rfl
  · obtain ⟨l, es, rfl, hl, nd, he, hz, q⟩ := h
    refine ⟨_, (pss_cons (ps_if (PW.pt (pw_or (pt_not (pt_val (pe_callB call_isi (by rfl) T.b_isinstance (by decide +kernel) (pa_cons (pv 1) (pa_cons (pe_bltn (by rfl) T.b_list (by decide +kernel) (v := .ty "list") rfl) pa_nil))))) (pw_or1 (pt_cmpR op_ne (pe_callB call_len_seq (by rfl) T.b_len (by decide +kernel) (pa_cons (pv 1) pa_nil)) (pv 0) (nomark _)))))
        (pss_one ps_never)
        pss_nil)
      (pss_cons (ps_set (i := 2) sc_p_checked_entries.nd rfl (by first | exact .inl rfl | exact .inr rfl) (pe_lst pa_nil))
      (pss_cons (ps_for PassesOwn.never rfl (pi_list (pv 1)) (pg_name (i := 3) sc_p_checked_entries.nd rfl (by first | exact .inl rfl | exact .inr rfl))
        (pss_cons (ps_if (PW.pt (pw_or (pt_not (pt_val (pe_call (ok_p_is_entry T) (hr.mono (by decide)) (by rfl) T.p_is_entry.g T.p_is_entry.F.kp T.p_is_entry.b .nil pass0 (pa_cons (pv 3) pa_nil)))) (pw_or1 (pt_cmpR op_in_seq (pv 3) (pv 2) (by rfl)))))
        (pss_one ps_never)
        pss_nil)
      (pss_one (ps_expr (pe_bm PySem.F.plainAttrs_list PySem.F.slot_list_append PySem.F.type_list_append mt_append (pv 2) (pa_cons (pv 3) pa_nil))))))
      (pss_one (ps_ret (pv 2)))))), ?_⟩
    refine ⟨_, rfl, .ref l, .ty "list", .type "list", .type "list", true, rfl, .ty _, .base (.lst hl), kit_ty (by decide +kernel), true, rfl, ?_⟩
    refine ⟨_, rfl, l, _, rfl, .inl (sqL hl), _, rfl, rfl, _, rfl, ?_⟩
    rw [List.length_map]
    refine iteNS rfl ?_
    refine ⟨Nat.zero_le _, fun c hc => ?_⟩
    refine ⟨_, rfl, l, rfl, ⟨_, sqL (same_new (Same.refl H) hc _ _ hl)⟩, for_list (K := K) (a := l) (xs := es.map V.str) (fun i σ H' => ∃ v, σ = [some (.int (es.length : Nat)), some (.ref l), some (.ref c), v] ∧ Same H H' ∧ H' c = some (.lst ((es.take i).map V.str)))
      ⟨none, rfl, same_new (Same.refl H) hc, upd_same⟩ (fun i σ H' _ ⟨_, _, k, _⟩ => sqL (k _ _ hl)) ?_ ?_⟩
    · rintro i x σ H' hx ⟨v, rfl, k, ec⟩
      rw [List.getElem?_map] at hx
      cases e1 : es[i]? with
      | none =>
        rw [e1] at hx
        cases hx
      | some e =>
        rw [e1] at hx
        cases hx
        have hm := List.mem_of_getElem? e1
        refine ⟨_, rfl, e, rfl, he e hm, fun H1 s1 => ⟨_, rfl, ?_⟩⟩
        have hno : ¬ e ∈ es.take i := fun hin => by
          obtain ⟨j, hj⟩ := List.mem_iff_getElem?.mp hin
          rw [List.getElem?_take] at hj
          split at hj
          · rename_i hji
            have := nd_ix nd hj e1
            omega
          · cases hj
        have ec1 := s1 _ _ ec
        refine ⟨_, rfl, _, rfl, c, _, rfl, .inl (sqL ec1), rfl, flat_strs _, _, rfl, ?_⟩
        rw [inV_strs, decide_eq_false hno]
        refine iteF ?_
        have hi := (List.getElem?_eq_some_iff.mp e1).1
        refine ⟨_, rfl, .inl ⟨rfl, _, sqL ec1⟩, _, rfl, c, _, _, rfl, rfl, ec1, ?_, _, rfl, same_put (k.trans s1) hc, ?_⟩
        · rw [List.length_map, List.length_take]
          have := small1000 hz
          omega
        · rw [upd_same, List.take_add_one, e1, List.map_append]
          rfl
    · rintro σ H' ⟨v, rfl, k, ec⟩
      rw [List.length_map, List.take_length] at ec
      exact ⟨_, rfl, q H' c k hc ec⟩
/-- Cache.__init__ -/
def spCache (X : TX K mg) : Sp := fun vs H Q _ => ∃ (H0 : Hp) (p dx a l : Addr) (t : Tr) (F : List Bool) (es : List Str), vs = [.ref p, .ref a, .str (flagS F), .ref l] ∧ Same H0 H ∧ H0 p = none ∧ H p = some (.ins X.Cache.C dx []) ∧ TreeAt X H0 a t ∧ F.length = t.slots - 1 ∧
  H0 l = some (.lst (es.map V.str)) ∧ es.length = t.slots ∧ es.Nodup ∧ (∀ e ∈ es, Ent e) ∧ ∀ H' c, Same H0 H' → H0 c = none → CacheAt X H' p c a F es → Q .non H'
/-- len(tree) -/
theorem call_lenTree {X : Cx} (T : TX X.K X.mg) (hr : Room 2 X.A) :
    CallR X (.builtin "len") (fun xs H Q => ∃ a t, xs = [.ref a] ∧ TreeAt T H a t ∧ ∀ H', Same H H' → Q (.int (t.slots : Nat)) H') := by
  intro pins s σ H xs us Q I r h
  obtain ⟨a, t, rfl, hT, q⟩ := h
  obtain ⟨⟨dx, fs, _, _, _, _, _, h0, _⟩, h64⟩ := id hT
  refine call_lenOwn (ok_t_len T) T.t_len.m.at_ T.t_len.m.fn T.t_len.b hr pass0 pins s σ H _ us Q I r ⟨a, dx, fs, rfl, h0, a, t, rfl, hT, fun H' s' => ⟨_, rfl, ⟨by omega, by omega⟩, q H' s'⟩⟩
theorem ok_c_init (T : TX K mg) : FnOk P w K mg base CX0 4 T.c_init.f T.c_init.fd ["self", "tree", "flags", "entries"] (spCache T) := by
  refine T.c_init.F.ok sc_c_init (fun vs H Q E h => ?_) (fun cdv A outer s H vs Q E hr h => ?_)
  · obtain ⟨H0, p, dx, a, l, t, F, es, rfl, _⟩ := h
    rfl
  · obtain ⟨H0, p, dx, a, l, t, F, es, rfl, k0, hp0, hp, hT, hF, hl, hel, nd, he, q⟩ := h
    have h64 := hT.small
    refine ⟨_, (pss_cons (ps_fld (pv 0) (pv 1) rfl)
      (pss_cons (ps_fld (pv 0) (pe_call (ok_p_checked_flags T) (hr.mono (by decide)) (by rfl) T.p_checked_flags.g T.p_checked_flags.F.kp T.p_checked_flags.b .nil pass0 (pa_cons (pv 1) (pa_cons (pv 2) pa_nil))) rfl)
      (pss_one (ps_fld (pv 0) (pe_call (ok_p_checked_entries T) (hr.mono (by decide)) (by rfl) T.p_checked_entries.g T.p_checked_entries.F.kp T.p_checked_entries.b .nil pass0 (pa_cons (pe_callB (call_lenTree T (hr.mono (by decide))) (by rfl) T.b_len (by decide +kernel) (pa_cons (pv 1) pa_nil)) (pa_cons (pv 3) pa_nil))) rfl)))), ?_⟩
    refine ⟨_, rfl, _, rfl, p, _, dx, _, rfl, hp, T.Cache.cl, T.nC_tree, (by show 0 < 1000; decide), ?_⟩
    have k1 : Same H0 (upd H p (.ins T.Cache.C dx (putF "tree" (.ref a) []))) := same_put k0 hp0
    refine ⟨_, rfl, _, rfl, a, t, F, rfl, hT.mono k1, hF, fun H2 s2 => ?_⟩
    have k2 := k1.trans s2
    have hp2 := s2 _ _ (upd_same (a := p))
    refine ⟨_, rfl, p, _, dx, _, rfl, hp2, T.Cache.cl, T.nC_flags, (by show 1 < 1000; decide), ?_⟩
    have k3 : Same H0 (upd H2 p (.ins T.Cache.C dx (putF "flags" (.str (flagS F)) (putF "tree" (.ref a) [])))) := same_put k2 hp0
    refine ⟨_, rfl, a, t, rfl, hT.mono k3, fun H4 s4 => ⟨_, rfl, ?_⟩⟩
    have k4 := k3.trans s4
    rw [← hel]
    refine ⟨l, es, rfl, k4 _ _ hl, nd, he, by omega, fun H5 c s5 hc ec => ?_⟩
    have hp5 := s5 _ _ (s4 _ _ (upd_same (a := p)))
    have hcp : c ≠ p := fun e => by
      rw [e, s4 _ _ (upd_same (a := p))] at hc
      cases hc
    refine ⟨_, rfl, p, _, dx, _, rfl, hp5, T.Cache.cl, T.nC_contents, (by have := putF_len "flags" (.str (flagS F)) (putF "tree" (.ref a) []); have := putF_len "tree" (.ref a) []; simp at this; omega), ?_⟩
    refine q _ c (same_put (k4.trans s5) hp0) (k4.free hc) ⟨⟨dx, _, upd_same, ?_, ?_, ?_, ?_, ?_, ?_, ?_⟩, ?_⟩
    · rw [lookup_putF, if_neg (by decide +kernel), lookup_putF, if_neg (by decide +kernel), lookup_putF, if_pos rfl]
    · rw [lookup_putF, if_neg (by decide +kernel), lookup_putF, if_pos rfl]
    · rw [lookup_putF, if_pos rfl]
    · rw [lookup_putF, if_neg (by decide +kernel), lookup_putF, if_neg (by decide +kernel), lookup_putF, if_neg (by decide +kernel)]
      rfl
    · rw [lookup_putF, if_neg (by decide +kernel), lookup_putF, if_neg (by decide +kernel), lookup_putF, if_neg (by decide +kernel)]
      rfl
    · rw [lookup_putF, if_neg (by decide +kernel), lookup_putF, if_neg (by decide +kernel), lookup_putF, if_neg (by decide +kernel)]
      rfl
    · have z1 := putF_len "contents" (.ref c) (putF "flags" (.str (flagS F)) (putF "tree" (.ref a) []))
      have z2 := putF_len "flags" (.str (flagS F)) (putF "tree" (.ref a) [])
      have z3 := putF_len "tree" (.ref a) []
      simp only [List.length_nil] at z3
      omega
    · rw [upd_ne hcp]
      exact ec
/-- the cache's defs that change nothing -/
def spListed (X : TX K mg) : Sp := fun vs H Q _ => ∃ (a l tr : Addr) (F : List Bool) (es : List Str), vs = [.ref a] ∧ CacheAt X H a l tr F es ∧ ∀ H' p, Same H H' → H p = none → H' p = some (.lst (es.map V.str)) → Q (.ref p) H'
theorem ok_c_listed (T : TX K mg) : FnOk P w K mg base CX0 1 T.c_listed.f T.c_listed.fd ["self"] (spListed T) := by
  refine T.c_listed.F.ok sc_c_listed (fun vs H Q E h => ?_) (fun cdv A outer s H vs Q E hr h => ?_)
  · obtain ⟨a, l, tr, F, es, rfl, _⟩ := h
    rfl
  · obtain ⟨a, l, tr, F, es, rfl, ⟨⟨dx, fs, h0, h1, h2, h3, h4, h5, h6, h7⟩, hl⟩, q⟩ := h
    refine ⟨_, (pss_one (ps_ret (pe_callTy call_list_of (by rfl) T.b_list (by decide +kernel) (pa_cons (pe_fld (pv 0) rfl) pa_nil)))), ?_⟩
    exact ⟨_, rfl, a, _, dx, fs, _, rfl, h0, T.Cache.cl, T.nC_contents, h3, l, _, rfl, .inl (sqL hl), fun p hp => q _ p (same_new (Same.refl H) hp) hp upd_same⟩
def spVictim (X : TX K mg) : Sp := fun vs H Q _ => ∃ (a l tr : Addr) (t : Tr) (F : List Bool) (es : List Str), vs = [.ref a] ∧ CacheAt X H a l tr F es ∧ TreeAt X H tr t ∧ F.length = t.slots - 1 ∧ Q (.int (vict t F : Nat)) H
theorem ok_c_victim (T : TX K mg) : FnOk P w K mg base CX0 2 T.c_victim.f T.c_victim.fd ["self"] (spVictim T) := by
  refine T.c_victim.F.ok sc_c_victim (fun vs H Q E h => ?_) (fun cdv A outer s H vs Q E hr h => ?_)
  · obtain ⟨a, l, tr, t, F, es, rfl, _⟩ := h
    rfl
  · obtain ⟨a, l, tr, t, F, es, rfl, ⟨⟨dx, fs, h0, h1, h2, h3, h4, h5, h6, h7⟩, hl⟩, hT, hF, q⟩ := h
    refine ⟨_, (pss_one (ps_ret (pe_call (ok_p_found_victim T) (hr.mono (by decide)) (by rfl) T.p_found_victim.g T.p_found_victim.F.kp T.p_found_victim.b .nil pass0 (pa_cons (pe_fld (pv 0) rfl) (pa_cons (pe_fld (pv 0) rfl) pa_nil))))), ?_⟩
    exact ⟨_, rfl, a, _, dx, fs, _, rfl, h0, T.Cache.cl, T.nC_tree, h1, _, rfl, a, _, dx, fs, _, rfl, h0, T.Cache.cl, T.nC_flags, h2, tr, t, F, rfl, hT, hF, q⟩
def slotV (es : List Str) (e : Str) : V := if e ∈ es then .int (es.idxOf e : Nat) else .non
def spSlotOf (X : TX K mg) : Sp := fun vs H Q _ => ∃ (a l tr : Addr) (F : List Bool) (es : List Str) (e : Str), vs = [.ref a, .str e] ∧ CacheAt X H a l tr F es ∧ Ent e ∧ ∀ H', Same H H' → Q (slotV es e) H'
theorem idx_facts {es : List Str} {e : Str} (h : e ∈ es) : es.idxOf e < es.length ∧ es[es.idxOf e]? = some e ∧ ∀ (m : Nat) (z : Str), m < es.idxOf e → es[m]? = some z → (z == e) = false := by
  have h1 : es.idxOf e < es.length := List.idxOf_lt_length_of_mem h
  refine ⟨h1, ?_, fun m z hm hz => ?_⟩
  · rw [List.getElem?_eq_getElem h1, List.getElem_idxOf h1]
  · obtain ⟨h2, h3⟩ := List.getElem?_eq_some_iff.mp hz
    have h4 := List.not_of_lt_findIdx (p := (· == e)) (xs := es) (i := m) hm
    rw [h3] at h4
    exact h4
theorem ok_c_slot_of (T : TX K mg) : FnOk P w K mg base CX0 4 T.c_slot_of.f T.c_slot_of.fd ["self", "entry"] (spSlotOf T) := by
  refine T.c_slot_of.F.ok sc_c_slot_of (fun vs H Q E h => ?_) (fun cdv A outer s H vs Q E hr h => ?_)
  · obtain ⟨a, l, tr, F, es, e, rfl, _⟩ := h
    rfl
  · obtain ⟨a, l, tr, F, es, e, rfl, hC, he, q⟩ := h
    refine ⟨_, (pss_cons (ps_expr (pe_call (ok_p_checked_entry T) (hr.mono (by decide)) (by rfl) T.p_checked_entry.g T.p_checked_entry.F.kp T.p_checked_entry.b .nil pass0 (pa_cons (pv 1) pa_nil)))
      (pss_one (ps_ret (pe_ifExp (pt_cmpR op_in_seq (pv 1) (pe_fld (pv 0) rfl) (by rfl)) (pe_bm PySem.F.plainAttrs_list PySem.F.slot_list_index PySem.F.type_list_index mt_index (pe_fld (pv 0) rfl) (pa_cons (pv 1) pa_nil)) pe_non)))), ?_⟩
    refine ⟨_, rfl, e, rfl, he, fun H1 s1 => ?_⟩
    obtain ⟨⟨dx, fs, h0, h1, h2, h3, h4, h5, h6, h7⟩, hl⟩ := hC.mono (fun o => s1 _ o) (fun o => s1 _ o)
    refine ⟨_, rfl, _, rfl, a, _, dx, fs, _, rfl, h0, T.Cache.cl, T.nC_contents, h3, l, _, rfl, .inl (sqL hl), rfl, flat_strs _, _, rfl, ?_⟩
    rw [inV_strs]
    have q1 := q H1 s1
    unfold slotV at q1
    by_cases hm : e ∈ es
    · rw [decide_eq_true hm]
      rw [if_pos hm] at q1
      obtain ⟨f1, f2, f3⟩ := idx_facts hm
      refine ⟨_, rfl, a, _, dx, fs, _, rfl, h0, T.Cache.cl, T.nC_contents, h3, .inl ⟨rfl, _, sqL hl⟩, _, rfl, l, _, .str e, es.idxOf e, .str e, rfl, rfl, sqL hl, rfl, flat_strs _, by rw [List.getElem?_map, f2]; rfl, by show (e == e) = true; exact beq_self_eq_true e, fun m z hm hz => ?_, q1⟩
      rw [List.getElem?_map] at hz
      cases e3 : es[m]? with
      | none =>
        rw [e3] at hz
        cases hz
      | some y =>
        rw [e3] at hz
        cases hz
        exact f3 m y hm e3
    · rw [decide_eq_false hm]
      rw [if_neg hm] at q1
      exact q1
def spRequest (X : TX K mg) : Sp := fun vs H Q _ => ∃ (H0 : Hp) (a l tr : Addr) (t : Tr) (F : List Bool) (es : List Str) (e : Str), vs = [.ref a, .str e] ∧ Same H0 H ∧ H0 a = none ∧ H0 l = none ∧ TreeAt X H0 tr t ∧ CacheAt X H a l tr F es ∧ F.length = t.slots - 1 ∧ es.length = t.slots ∧ Ent e ∧
  ∀ H' p, Same H0 H' → H p = none → CacheAt X H' a l tr (reqF t F es e) (reqE t F es e) → H' p = some (.tup (ansV t F es e)) → Q (.ref p) H'
theorem upd_flags {fs : List (Str × V)} {tr l : Addr} {F : List Bool} (x : V) (h1 : fs.lookup ("tree" : Str) = some (.ref tr)) (h3 : fs.lookup ("contents" : Str) = some (.ref l)) (h4 : fs.lookup ("listed" : Str) = none) (h5 : fs.lookup ("slot_of" : Str) = none) (h6 : fs.lookup ("request" : Str) = none) :
    (putF "flags" x fs).lookup ("tree" : Str) = some (.ref tr) ∧ (putF "flags" x fs).lookup ("flags" : Str) = some x ∧ (putF "flags" x fs).lookup ("contents" : Str) = some (.ref l) ∧ (putF "flags" x fs).lookup ("listed" : Str) = none ∧ (putF "flags" x fs).lookup ("slot_of" : Str) = none ∧ (putF "flags" x fs).lookup ("request" : Str) = none := by
  refine ⟨?_, ?_, ?_, ?_, ?_, ?_⟩
  · rw [lookup_putF, if_neg (by decide +kernel)]; exact h1
  · rw [lookup_putF, if_pos rfl]
  · rw [lookup_putF, if_neg (by decide +kernel)]; exact h3
  · rw [lookup_putF, if_neg (by decide +kernel)]; exact h4
  · rw [lookup_putF, if_neg (by decide +kernel)]; exact h5
  · rw [lookup_putF, if_neg (by decide +kernel)]; exact h6
theorem putF_same (f : Str) (v : V) : ∀ (fs : List (Str × V)) (x : V), fs.lookup f = some x → (putF f v fs).length = fs.length
  | [], _, h => by cases h
  | (g, y) :: r, x, h => by
    show (if g = f then (g, v) :: r else (g, y) :: putF f v r).length = _
    by_cases c : g = f
    · rw [if_pos c]; rfl
    · rw [if_neg c, List.length_cons, List.length_cons]
      have hb : (f == g) = false := beq_eq_false_iff_ne.mpr fun z => c z.symm
      have h' : r.lookup f = some x := by
        simp only [List.lookup, hb] at h
        exact h
      rw [putF_same f v r x h']
theorem ok_c_request (T : TX K mg) : FnOk P w K mg base CX0 5 T.c_request.f T.c_request.fd ["self", "entry"] (spRequest T) := by
  refine T.c_request.F.ok sc_c_request (fun vs H Q E h => ?_) (fun cdv A outer s H vs Q E hr h => ?_)
  · obtain ⟨H0, a, l, tr, t, F, es, e, rfl, _⟩ := h
    rfl
  · obtain ⟨H0, a, l, tr, t, F, es, e, rfl, k0, ha0, hl0, hT, hC, hF, hel, he, q⟩ := h
    have h64 := hT.small
    have nal := hC.ne
    refine ⟨_, (pss_cons (ps_set (i := 2) sc_c_request.nd rfl (by first | exact .inl rfl | exact .inr rfl) pe_str)
      (pss_cons (ps_set (i := 3) sc_c_request.nd rfl (by first | exact .inl rfl | exact .inr rfl) (pe_meth (pv 0) T.Cache.cl T.c_slot_of.m (ok_c_slot_of T) (hr.mono (by decide)) T.c_slot_of.b .nil pass0 (pa_cons (pv 1) pa_nil)))
      (pss_cons (ps_set (i := 4) sc_c_request.nd rfl (by first | exact .inl rfl | exact .inr rfl) pe_non)
      (pss_cons (ps_if (pt_cmpR op_isN (pv 3) pe_non (nomark _))
        (pss_cons (ps_set (i := 2) sc_c_request.nd rfl (by first | exact .inl rfl | exact .inr rfl) pe_str)
      (pss_cons (ps_set (i := 3) sc_c_request.nd rfl (by first | exact .inl rfl | exact .inr rfl) (pe_prop (pv 0) T.Cache.cl T.c_victim.pr (ok_c_victim T) (hr.mono (by decide)) T.c_victim.b .nil pass0 rfl))
      (pss_cons (ps_set (i := 4) sc_c_request.nd rfl (by first | exact .inl rfl | exact .inr rfl) (pe_ix ix_list (pe_fld (pv 0) rfl) (pv 3) (fun _ _ => rfl)))
      (pss_one (ps_asg (pv 1) (pg_sub (pe_fld (pv 0) rfl) (pv 3) set_list))))))
        pss_nil)
      (pss_cons (ps_fld (pv 0) (pe_call (ok_p_turned T) (hr.mono (by decide)) (by rfl) T.p_turned.g T.p_turned.F.kp T.p_turned.b .nil pass0 (pa_cons (pe_fld (pv 0) rfl) (pa_cons (pe_fld (pv 0) rfl) (pa_cons (pv 3) pa_nil)))) rfl)
      (pss_one (ps_ret (pe_tup (pa_cons (pv 2) (pa_cons (pv 3) (pa_cons (pv 4) pa_nil))))))))))), ?_⟩
    obtain ⟨⟨dx, fs, h0, h1, h2, h3, h4, h5, h6, h7⟩, hl⟩ := id hC
    refine ⟨_, rfl, a, dx, fs, rfl, h0, h5, _, rfl, a, l, tr, F, es, e, rfl, hC, he, fun H1 s1 => ?_⟩
    have hC1 := hC.mono (fun o => s1 _ o) (fun o => s1 _ o)
    have k1 := k0.trans s1
    refine ⟨_, rfl, rfl, _, rfl, ?_⟩
    unfold slotV
    unfold reqF reqE ansV at q
    by_cases hm : e ∈ es
    · rw [if_pos hm] at q
      rw [if_pos hm, if_pos hm] at q
      rw [if_pos hm]
      refine iteF ?_
      have hi := (idx_facts hm).1
      obtain ⟨⟨dx, fs, h0, h1, h2, h3, h4, h5, h6, h7⟩, hl⟩ := id hC1
      refine ⟨_, rfl, a, _, dx, fs, _, rfl, h0, T.Cache.cl, T.nC_tree, h1, _, rfl, a, _, dx, fs, _, rfl, h0, T.Cache.cl, T.nC_flags, h2, _, rfl, tr, t, F, es.idxOf e, rfl, hT.mono k1, hF, by omega, fun H2 s2 => ?_⟩
      have k2 := k1.trans s2
      obtain ⟨⟨dx, fs, h0, h1, h2, h3, h4, h5, h6, h7⟩, hl⟩ := hC1.mono (fun o => s2 _ o) (fun o => s2 _ o)
      refine ⟨_, rfl, a, _, dx, fs, rfl, h0, T.Cache.cl, T.nC_flags, by omega, ?_⟩
      have k3 : Same H0 (upd H2 a (.ins T.Cache.C dx (putF "flags" (.str (flagS (turn t F (es.idxOf e)))) fs))) := same_put k2 ha0
      refine ⟨_, rfl, _, rfl, _, rfl, (by show 3 ≤ sizeLine; decide), fun p hp => ?_⟩
      have hpa : p ≠ a := fun z => by
        rw [z, upd_same] at hp
        cases hp
      have hp2 : H2 p = none := by
        rw [upd_ne hpa] at hp
        exact hp
      have hpl : l ≠ p := ne_of_none hl hp2
      obtain ⟨g1, g2, g3, g4, g5, g6⟩ := upd_flags (F := F) (.str (flagS (turn t F (es.idxOf e)))) h1 h3 h4 h5 h6
      refine q _ p (same_put k3 (k3.free hp)) ((s1.trans s2).free hp2) ⟨⟨dx, _, ?_, g1, g2, g3, g4, g5, g6, by rw [putF_same _ _ fs _ h2]; exact h7⟩, ?_⟩ upd_same
      · rw [upd_ne hpa.symm, upd_same]
      · rw [upd_ne hpl, upd_ne nal.symm]
        exact hl
    · rw [if_neg hm] at q
      rw [if_neg hm, if_neg hm] at q
      rw [if_neg hm]
      have hv := vict_lt t F
      have hv2 : vict t F < es.length := by omega
      have hev : es[vict t F]? = some (es.getD (vict t F) Str.empty) := by
        rw [List.getD_eq_getElem?_getD, List.getElem?_eq_getElem hv2]
        rfl
      obtain ⟨⟨dx, fs, h0, h1, h2, h3, h4, h5, h6, h7⟩, hl⟩ := id hC1
      refine ⟨_, rfl, a, dx, fs, rfl, h0, a, l, tr, t, F, es, rfl, hC1, hT.mono k1, hF, ?_⟩
      refine ⟨_, rfl, a, _, dx, fs, _, rfl, h0, T.Cache.cl, T.nC_contents, h3, _, rfl, l, _, _, _, rfl, rfl, sqL hl, at_of rfl (show (es.map V.str)[vict t F]? = some (.str (es.getD (vict t F) Str.empty)) by rw [List.getElem?_map, hev]; rfl), ?_⟩
      refine ⟨_, rfl, _, rfl, a, _, dx, fs, _, rfl, h0, T.Cache.cl, T.nC_contents, h3, _, rfl, l, _, _, vict t F, rfl, rfl, hl, ?_, ?_⟩
      · unfold ixN
        rw [if_pos (by omega), if_pos (by rw [List.length_map]; omega), Int.toNat_natCast]
      have k2 : Same H0 (upd H1 l (.lst ((es.map V.str).set (vict t F) (.str e)))) := same_put k1 hl0
      have h0' : (upd H1 l (.lst ((es.map V.str).set (vict t F) (.str e)))) a = some (.ins T.Cache.C dx fs) := by rw [upd_ne nal]; exact h0
      refine ⟨_, rfl, a, _, dx, fs, _, rfl, h0', T.Cache.cl, T.nC_tree, h1, _, rfl, a, _, dx, fs, _, rfl, h0', T.Cache.cl, T.nC_flags, h2, _, rfl, tr, t, F, vict t F, rfl, hT.mono k2, hF, hv, fun H2 s2 => ?_⟩
      have k3 := k2.trans s2
      have h02 := s2 _ _ h0'
      have hl2 := s2 _ _ (upd_same (a := l))
      refine ⟨_, rfl, a, _, dx, fs, rfl, h02, T.Cache.cl, T.nC_flags, by omega, ?_⟩
      have k4 : Same H0 (upd H2 a (.ins T.Cache.C dx (putF "flags" (.str (flagS (turn t F (vict t F)))) fs))) := same_put k3 ha0
      refine ⟨_, rfl, _, rfl, _, rfl, (by show 3 ≤ sizeLine; decide), fun p hp => ?_⟩
      have hpa : p ≠ a := fun z => by
        rw [z, upd_same] at hp
        cases hp
      have hp2 : H2 p = none := by
        rw [upd_ne hpa] at hp
        exact hp
      have hpl : l ≠ p := ne_of_none hl2 hp2
      have hp1 : H p = none := by
        have z := s2.free hp2
        rw [upd_ne hpl.symm] at z
        exact s1.free z
      obtain ⟨g1, g2, g3, g4, g5, g6⟩ := upd_flags (F := F) (.str (flagS (turn t F (vict t F)))) h1 h3 h4 h5 h6
      refine q _ p (same_put k4 (k4.free hp)) hp1 ⟨⟨dx, _, ?_, g1, g2, g3, g4, g5, g6, by rw [putF_same _ _ fs _ h2]; exact h7⟩, ?_⟩ upd_same
      · rw [upd_ne hpa.symm, upd_same]
      · rw [upd_ne hpl, upd_ne nal.symm, hl2, List.map_set]
end
end Ls
/-! the own == -/
namespace Ls
open PySem PySem.Spec PyProof.Rows L2
/- data without dicts, of depth at most n -/
mutual
def flatTo : Nat → PyData → Bool
  | _, .none | _, .bool _ | _, .int _ => true
  | _, .str x => PyData.strOk x
  | n + 1, .list xs | n + 1, .tuple xs => flatAll n xs
  | _, _ => false
def flatAll : Nat → List PyData → Bool
  | _, [] => true
  | n, x :: xs => flatTo n x && flatAll n xs
end
theorem flatAll_iff (n : Nat) : ∀ xs : List PyData, flatAll n xs = true ↔ ∀ x ∈ xs, flatTo n x = true
  | [] => by simp [flatAll]
  | x :: xs => by
    rw [flatAll, Bool.and_eq_true, flatAll_iff n xs]
    simp
mutual
theorem flat_can : ∀ (n : Nat) (d : PyData), flatTo n d = true → d.canLay0 = true ∧ d.depth ≤ n
  | n, .none, _ => ⟨rfl, Nat.zero_le _⟩
  | n, .bool _, _ => ⟨rfl, Nat.zero_le _⟩
  | n, .int _, _ => ⟨rfl, Nat.zero_le _⟩
  | n, .str x, h => ⟨h, Nat.zero_le _⟩
  | n + 1, .list xs, h => by
    obtain ⟨h1, h2⟩ := flat_canAll n xs h
    exact ⟨h1, Nat.succ_le_succ h2⟩
  | n + 1, .tuple xs, h => by
    obtain ⟨h1, h2⟩ := flat_canAll n xs h
    exact ⟨h1, Nat.succ_le_succ h2⟩
  | 0, .list _, h => by cases h
  | 0, .tuple _, h => by cases h
  | n, .dict _, h => by cases n <;> cases h
theorem flat_canAll : ∀ (n : Nat) (xs : List PyData), flatAll n xs = true → PyData.canLayAll0 xs = true ∧ PyData.depthAll xs ≤ n
  | n, [], _ => ⟨rfl, Nat.zero_le _⟩
  | n, x :: xs, h => by
    obtain ⟨h1, h2⟩ := Bool.and_eq_true_iff.mp (show (flatTo n x && flatAll n xs) = true from h)
    obtain ⟨a1, a2⟩ := flat_can n x h1
    obtain ⟨b1, b2⟩ := flat_canAll n xs h2
    refine ⟨?_, Nat.max_le.mpr ⟨a2, b2⟩⟩
    show (x.canLay0 && PyData.canLayAll0 xs) = true
    rw [a1, b1]
    rfl
end
theorem shaped_of {n : Nat} {d : PyData} (h : flatTo n d = true) (hn : n ≤ 64) : SeqAt.shaped d = true := by
  obtain ⟨h1, h2⟩ := flat_can n d h
  unfold SeqAt.shaped
  rw [h1, decide_eq_true (Nat.le_trans h2 hn)]
  rfl
theorem eqv_self {n : Nat} {d : PyData} (h : flatTo n d = true) : PyData.eqv d d = true := SeqAt.eqv_refl d (flat_can n d h).1
theorem strOk_iff (x : Str) : PyData.strOk x = true ↔ ∀ c ∈ x.cps.toList, c < 0x110000 := by
  unfold PyData.strOk
  rw [← Array.all_toList, List.all_eq_true]
  constructor
  · intro h c hc
    exact of_decide_eq_true (h c hc)
  · intro h c hc
    exact decide_eq_true (h c hc)
theorem ent_ok {x : Str} (h : Ent x) : PyData.strOk x = true := by
  rw [strOk_iff]
  intro c hc
  have h1 : c ∈ signs36 := of_decide_eq_true (List.all_eq_true.mp h.2.2 c hc)
  have h2 : ∀ d ∈ signs36, d < 0x110000 := by decide +kernel
  exact h2 c h1
theorem flag_ok (F : List Bool) : PyData.strOk (flagS F) = true := by
  rw [strOk_iff]
  intro c hc
  unfold flagS at hc
  rw [S_cps] at hc
  obtain ⟨b, _, rfl⟩ := List.mem_map.mp hc
  cases b <;> decide
theorem flat_strsD {es : List Str} (h : ∀ e ∈ es, Ent e) : flatTo 1 (.list (es.map PyData.str)) = true := by
  show flatAll 0 _ = true
  rw [flatAll_iff]
  intro x hx
  obtain ⟨e, he, rfl⟩ := List.mem_map.mp hx
  exact ent_ok (h e he)
section
variable {P : Program} {w : World} {K : PySem.W.Frag} {mg : Str → Option Value} {base : Heap}
theorem ty_own {H : Hp} {a dx : Addr} {fs : List (Str × V)} {x : Str} (T : TX K mg) (c : CF K mg x) (h : H a = some (.ins c.C dx fs)) : TyX K H (.ref a) (.ref c.C) := .base (.ins h c.cl c.ca T.cn T.ct c.cm)
abbrev eqTree (X : TX K mg) : Addr → Addr → Hp → Prop := fun a b H => ∃ t, TreeAt X H a t ∧ TreeAt X H b t
theorem ok_t_eq (T : TX K mg) : FnOk P w K mg base CX0 1 T.t_eq.f T.t_eq.fd ["self", "other"] (spEq (eqTree T)) := by
  refine T.t_eq.F.ok sc_t_eq (fun vs H Q E h => ?_) (fun cdv A outer s H vs Q E hr h => ?_)
  · obtain ⟨a, b, rfl, _⟩ := h
    rfl
  · obtain ⟨a, b, rfl, ⟨t, ⟨⟨dx, fs, _, _, _, _, _, h0, h1, _⟩, _⟩, ⟨⟨dx', fs', _, _, _, _, _, h0', h1', _⟩, _⟩⟩, q⟩ := h
    refine ⟨_, (pss_one (ps_ret (pe_and (pe_callB call_isi (by rfl) T.b_isinstance (by decide +kernel) (pa_cons (pv 1) (pa_cons (pe_glob rfl T.Tree.g (v := .ref T.Tree.C) rfl) pa_nil))) (pe_one (pe_cmpR op_eq (pe_fld (pv 0) rfl) (pe_fld (pv 1) rfl) (nomark _)))))), ?_⟩
    refine ⟨_, rfl, _, .ref T.Tree.C, _, _, true, rfl, .own _, ty_own T T.Tree h0', T.Tree.kit, true, rfl, iteT ?_⟩
    refine ⟨_, rfl, a, _, dx, fs, _, rfl, h0, T.Tree.cl, T.nT_text, h1, _, rfl, b, _, dx', fs', _, rfl, h0', T.Tree.cl, T.nT_text, h1', rfl, ?_⟩
    rw [decide_eq_true rfl]
    exact q H Ext.rfl'
theorem op_ownTree {X : Cx} (T : TX X.K X.mg) (hr : Room 1 X.A) : OpR X (compareOp .Eq) (rEqG (DIns T.Tree.C (eqTree T))) := op_eqG (rcG_ins (ok_t_eq T) T.t_eq.m.at_ T.t_eq.m.fn T.t_eq.b pass0) hr
abbrev eqCache (X : TX K mg) : Addr → Addr → Hp → Prop := fun a b H => ∃ l l' tr tr' t F es, CacheAt X H a l tr F es ∧ CacheAt X H b l' tr' F es ∧ TreeAt X H tr t ∧ TreeAt X H tr' t ∧ ∀ e ∈ es, Ent e
theorem ok_c_eq (T : TX K mg) : FnOk P w K mg base CX0 2 T.c_eq.f T.c_eq.fd ["self", "other"] (spEq (eqCache T)) := by
  refine T.c_eq.F.ok sc_c_eq (fun vs H Q E h => ?_) (fun cdv A outer s H vs Q E hr h => ?_)
  · obtain ⟨a, b, rfl, _⟩ := h
    rfl
  · obtain ⟨a, b, rfl, ⟨l, l', tr, tr', t, F, es, hC, hC', hT, hT', he⟩, q⟩ := h
    refine ⟨_, (pss_one (ps_ret (pe_and (pe_callB call_isi (by rfl) T.b_isinstance (by decide +kernel) (pa_cons (pv 1) (pa_cons (pe_glob rfl T.Cache.g (v := .ref T.Cache.C) rfl) pa_nil))) (pe_and (pe_cmpR (op_ownTree T (hr.mono (by decide))) (pe_fld (pv 0) rfl) (pe_fld (pv 1) rfl) (nomark _)) (pe_and (pe_cmpR op_eq (pe_fld (pv 0) rfl) (pe_fld (pv 1) rfl) (nomark _)) (pe_one (pe_cmpR (op_eqD hr.units) (pe_fld (pv 0) rfl) (pe_fld (pv 1) rfl) (nomark _)))))))), ?_⟩
    obtain ⟨⟨dx, fs, h0, h1, h2, h3, _⟩, hl⟩ := id hC
    obtain ⟨⟨dx', fs', h0', h1', h2', h3', _⟩, hl'⟩ := id hC'
    refine ⟨_, rfl, _, .ref T.Cache.C, _, _, true, rfl, .own _, ty_own T T.Cache h0', T.Cache.kit, true, rfl, iteT ?_⟩
    obtain ⟨⟨dt, ft, _, _, _, _, _, t0, _⟩, _⟩ := id hT
    obtain ⟨⟨dt', ft', _, _, _, _, _, t0', _⟩, _⟩ := id hT'
    refine ⟨_, rfl, a, _, dx, fs, _, rfl, h0, T.Cache.cl, T.nC_tree, h1, _, rfl, b, _, dx', fs', _, rfl, h0', T.Cache.cl, T.nC_tree, h1', ⟨tr, tr', dt, dt', ft, ft', rfl, rfl, t0, t0', t, hT, hT'⟩, fun H1 s1 => ⟨_, rfl, iteT ?_⟩⟩
    refine ⟨_, rfl, a, _, dx, fs, _, rfl, s1 _ _ h0, T.Cache.cl, T.nC_flags, h2, _, rfl, b, _, dx', fs', _, rfl, s1 _ _ h0', T.Cache.cl, T.nC_flags, h2', rfl, ?_⟩
    refine ⟨true, congrArg V.bl (decide_eq_true rfl), iteT ?_⟩
    have d1 : Dp K H1 (.ref l) (.list (es.map PyData.str)) := .lst (sqL (s1 _ _ hl)) (strs_dpAll es)
    have d2 : Dp K H1 (.ref l') (.list (es.map PyData.str)) := .lst (sqL (s1 _ _ hl')) (strs_dpAll es)
    refine ⟨_, rfl, a, _, dx, fs, _, rfl, s1 _ _ h0, T.Cache.cl, T.nC_contents, h3, _, rfl, b, _, dx', fs', _, rfl, s1 _ _ h0', T.Cache.cl, T.nC_contents, h3', _, _, d1, d2, shaped_of (flat_strsD he) (by decide), shaped_of (flat_strsD he) (by decide), ?_⟩
    rw [eqv_self (flat_strsD he)]
    exact q H1 s1
theorem op_ownCache {X : Cx} (T : TX X.K X.mg) (hr : Room 2 X.A) : OpR X (compareOp .Eq) (rEqG (DIns T.Cache.C (eqCache T))) := op_eqG (rcG_ins (ok_c_eq T) T.c_eq.m.at_ T.c_eq.m.fn T.c_eq.b pass0) hr
end
end Ls
/-! Comprehensions that only make things. -/
namespace Ls
open PySem PySem.Spec PyProof.Rows L2
theorem range_filter_succ (b : Nat → Bool) (i : Nat) : (List.range (i + 1)).filter b = (List.range i).filter b ++ (if b i = true then [i] else []) := by
  rw [List.range_succ, List.filter_append]
  congr 1
  by_cases h : b i = true
  · rw [if_pos h, List.filter_cons_of_pos h]; rfl
  · rw [if_neg h, List.filter_cons_of_neg h]; rfl
/-- [e for x in .. if t]: the items it i, kept where b i, each made into f i -/
theorem lc_filt {J : It} {n : Nat} {G : Hp → Prop} {Y : Nat → Hp → V → Hp → Prop} (w : Walk J n G Y) (it : Nat → V) (hY : ∀ i H x H', i < n → Y i H x H' → H' = H ∧ x = it i)
    {k : Nat} {tt : TT} {te : TE} {vs : List Nat} {σ : L2.St} {H1 : Hp} {D : Addr} {Qd : Hp → Prop} (b : Nat → Bool) (f : Nat → V) (hG : ∀ H', Same H1 H' → G H') (hD : H1 D = none) (hz : n ≤ 1000)
    (hw : ∀ x, wipe ((wipe σ vs).set k (some x)) vs = wipe σ vs)
    (ht : ∀ i H' Q', i < n → Same H1 H' → (∀ H2, Same H' H2 → Q' (b i) H2) → tt ((wipe σ vs).set k (some (it i))) H' Q')
    (he : ∀ i H' Q', i < n → b i = true → Same H1 H' → (∀ H2, Same H' H2 → Q' (f i) H2) → te ((wipe σ vs).set k (some (it i))) H' Q')
    (hd : ∀ H', Same H1 H' → H' D = some (.lst (((List.range n).filter b).map f)) → Qd H') :
    ∃ W : Nat → Nat → Hp → Prop, (∃ m, W 0 m (upd H1 D (.lst []))) ∧ ∀ i m H, W i m H →
      (J.stop i H ∧ Qd H) ∨ (J.go i H ∧ ∃ Nx : Hp → Prop, (∀ H', Nx H' → ∃ m', m' < m ∧ W (i + 1) m' H') ∧ ∀ x H', J.yld i H x H' → (gName k) x (wipe σ vs) H' fun σ2 H2 => wipe σ2 vs = wipe σ vs ∧ tt σ2 H2 fun b H3 =>
        if b = true then te σ2 H3 fun y H4 => ∃ acc, H4 D = some (.lst acc) ∧ acc.length < sizeLine ∧ Nx (upd H4 D (.lst (acc ++ [y]))) else Nx H3) := by
  refine lc_it w (fun i H' => Same H1 H' ∧ H' D = some (.lst (((List.range i).filter b).map f))) ⟨same_new (Same.refl H1) hD, upd_same⟩ (fun i H' _ h => hG H' h.1) ?_ ?_
  · rintro i x H2 H3 hi ⟨s, e⟩ hy
    obtain ⟨rfl, rfl⟩ := hY i H2 x H3 hi hy
    refine ⟨hw _, ht i _ _ hi s fun H4 s4 => ?_⟩
    have e4 := s4 _ _ e
    by_cases hb : b i = true
    · rw [if_pos hb]
      refine he i _ _ hi hb (s.trans s4) fun H5 s5 => ⟨_, s5 _ _ e4, ?_, same_put (s.trans (s4.trans s5)) hD, ?_⟩
      · rw [List.length_map]
        have h1 : ((List.range i).filter b).length ≤ i := Nat.le_trans (List.length_filter_le _ _) (by rw [List.length_range]; exact Nat.le_refl _)
        have := small1000 hz
        omega
      · rw [upd_same, range_filter_succ, if_pos hb, List.map_append]
        rfl
    · rw [if_neg hb]
      refine ⟨s.trans s4, ?_⟩
      rw [e4, range_filter_succ, if_neg hb, List.append_nil]
  · rintro H' ⟨s, e⟩
    exact hd H' s e
theorem filter_true (n : Nat) : (List.range n).filter (fun _ => true) = List.range n := List.filter_eq_self.mpr fun _ _ => rfl
/-- [e for x in ..] -/
theorem lc_map {J : It} {n : Nat} {G : Hp → Prop} {Y : Nat → Hp → V → Hp → Prop} (w : Walk J n G Y) (it : Nat → V) (hY : ∀ i H x H', i < n → Y i H x H' → H' = H ∧ x = it i)
    {k : Nat} {te : TE} {vs : List Nat} {σ : L2.St} {H1 : Hp} {D : Addr} {Qd : Hp → Prop} (f : Nat → V) (hG : ∀ H', Same H1 H' → G H') (hD : H1 D = none) (hz : n ≤ 1000)
    (hw : ∀ x, wipe ((wipe σ vs).set k (some x)) vs = wipe σ vs)
    (he : ∀ i H' Q', i < n → Same H1 H' → (∀ H2, Same H' H2 → Q' (f i) H2) → te ((wipe σ vs).set k (some (it i))) H' Q')
    (hd : ∀ H', Same H1 H' → H' D = some (.lst ((List.range n).map f)) → Qd H') :
    ∃ W : Nat → Nat → Hp → Prop, (∃ m, W 0 m (upd H1 D (.lst []))) ∧ ∀ i m H, W i m H →
      (J.stop i H ∧ Qd H) ∨ (J.go i H ∧ ∃ Nx : Hp → Prop, (∀ H', Nx H' → ∃ m', m' < m ∧ W (i + 1) m' H') ∧ ∀ x H', J.yld i H x H' → (gName k) x (wipe σ vs) H' fun σ2 H2 => wipe σ2 vs = wipe σ vs ∧ tYes σ2 H2 fun b H3 =>
        if b = true then te σ2 H3 fun y H4 => ∃ acc, H4 D = some (.lst acc) ∧ acc.length < sizeLine ∧ Nx (upd H4 D (.lst (acc ++ [y]))) else Nx H3) := by
  refine lc_filt w it hY (fun _ => true) f hG hD hz hw (fun i H' Q' hi s q => q H' (Same.refl _)) (fun i H' Q' hi _ => he i H' Q' hi) (fun H' s e => hd H' s ?_)
  rw [filter_true] at e
  exact e
/-! ### rules whose reading names K alone -/
section
variable {X : Cx} {K : PySem.W.Frag}
theorem ix_tupK (h : X.K = K) : IxR X (rIxT K) := by subst h; exact ix_tup
theorem ix_listK (h : X.K = K) : IxR X (rIxL K) := by subst h; exact ix_list
theorem ix_seqK (h : X.K = K) : IxR X (rIx K) := by subst h; exact ix_seq
theorem call_len_seqK (h : X.K = K) : CallR X (.builtin "len") (fun xs H Q => ∃ p ys, xs = [.ref p] ∧ (SqL K H p ys ∨ SqT K H p ys) ∧ Q (.int (ys.length : Nat)) H) := by subst h; exact call_len_seq
theorem pe_fldK {o : Expr} {f : Str} {pos : Pos} {ta : TE} (h : X.K = K) (he : PE X o ta) (hb : attributeBase o f X.env (eval o X.env) = eval o X.env) : PE X (.Attribute o f pos) (tFld K ta f) := by subst h; exact pe_fld he hb
theorem pg_tupK {es : List Expr} {t : TGs} {k n : Nat} {pos : Pos} (h : X.K = K) (hc : X.calm = true) (hg : PGs X es t) (hn : (assignEach es X.env).length = n := by rfl) (hst : (assignEach es X.env).findIdx? (·.1) = none := by rfl) : PG X (.Tuple es k pos) (gTup K n t) := by subst h; exact pg_tup hc hg hn hst
end
/-- items of a list, of a tuple, of a range -/
theorem yAt {xs : List V} : ∀ i H x H', i < xs.length → YAt xs i H x H' → H' = H ∧ x = xs.getD i .non := fun i H x H' _ h => ⟨h.1, by rw [List.getD_eq_getElem?_getD, h.2]; rfl⟩
theorem yFn {n : Nat} {f : Nat → V} : ∀ i H x H', i < n → YFn f i H x H' → H' = H ∧ x = f i := fun _ _ _ _ _ h => h
theorem range_getD (xs : List V) : (List.range xs.length).map (fun i => xs.getD i .non) = xs := by
  apply List.ext_getElem?
  intro i
  rw [List.getElem?_map]
  by_cases h : i < xs.length
  · rw [List.getElem?_range h, List.getElem?_eq_getElem h, Option.map_some, List.getD_eq_getElem?_getD, List.getElem?_eq_getElem h]
    rfl
  · rw [List.getElem?_eq_none (by simpa using h), List.getElem?_eq_none (by omega)]
    rfl
theorem range_map_of {α β : Type} {xs : List α} {f : Nat → β} {g : α → β} (h : ∀ (i : Nat) x, xs[i]? = some x → f i = g x) : (List.range xs.length).map f = xs.map g := by
  apply List.ext_getElem?
  intro i
  rw [List.getElem?_map, List.getElem?_map]
  by_cases hi : i < xs.length
  · rw [List.getElem?_range hi, List.getElem?_eq_getElem hi]
    exact congrArg some (h i _ (List.getElem?_eq_getElem hi))
  · rw [List.getElem?_eq_none (by simpa using hi), List.getElem?_eq_none (by omega)]
    rfl
theorem getD_at {xs : List V} {i : Nat} {x : V} (h : xs[i]? = some x) : xs.getD i .non = x := by rw [List.getD_eq_getElem?_getD, h]; rfl
end Ls
/-! The program's reading of a tree's text, as a plain function. -/
namespace Ls
inductive All2 {α β : Type} (R : α → β → Prop) : List α → List β → Prop where
  | nil : All2 R [] []
  | cons {x : α} {y : β} {xs : List α} {ys : List β} : R x y → All2 R xs ys → All2 R (x :: xs) (y :: ys)
namespace All2
variable {α β : Type} {R R' : α → β → Prop}
theorem len : ∀ {xs : List α} {ys : List β}, All2 R xs ys → xs.length = ys.length
  | _, _, nil => rfl
  | _, _, cons _ a => by rw [List.length_cons, List.length_cons, len a]
theorem mono (h : ∀ x y, R x y → R' x y) : ∀ {xs : List α} {ys : List β}, All2 R xs ys → All2 R' xs ys
  | _, _, nil => nil
  | _, _, cons r a => cons (h _ _ r) (mono h a)
theorem app : ∀ {xs us : List α} {ys vs : List β}, All2 R xs ys → All2 R us vs → All2 R (xs ++ us) (ys ++ vs)
  | _, _, _, _, nil, b => b
  | _, _, _, _, cons r a, b => cons r (app a b)
theorem get : ∀ {xs : List α} {ys : List β} {i : Nat} {y : β}, All2 R xs ys → ys[i]? = some y → ∃ x, xs[i]? = some x ∧ R x y
  | _, _, _, _, nil, e => by simp at e
  | _, _, 0, _, cons r _, e => by
    cases e
    exact ⟨_, rfl, r⟩
  | _, _, i + 1, _, cons _ a, e => by
    obtain ⟨v, e1, h⟩ := get (i := i) a (by simpa using e)
    exact ⟨v, by simpa using e1, h⟩
theorem get' : ∀ {xs : List α} {ys : List β} {i : Nat} {x : α}, All2 R xs ys → xs[i]? = some x → ∃ y, ys[i]? = some y ∧ R x y
  | _, _, _, _, nil, e => by simp at e
  | _, _, 0, _, cons r _, e => by
    cases e
    exact ⟨_, rfl, r⟩
  | _, _, i + 1, _, cons _ a, e => by
    obtain ⟨v, e1, h⟩ := get' (i := i) a (by simpa using e)
    exact ⟨v, by simpa using e1, h⟩
theorem snoc {xs : List α} {ys : List β} {x : α} {y : β} (a : All2 R xs ys) (r : R x y) : All2 R (xs ++ [x]) (ys ++ [y]) := app a (cons r nil)
/-- the last of both -/
theorem unsnoc {xs : List α} {ys : List β} {y : β} (a : All2 R xs (ys ++ [y])) : ∃ xs' x, xs = xs' ++ [x] ∧ All2 R xs' ys ∧ R x y := by
  induction ys generalizing xs with
  | nil =>
    cases a with
    | cons r a =>
      cases a
      exact ⟨[], _, rfl, nil, r⟩
  | cons z ys ih =>
    cases a with
    | cons r a =>
      obtain ⟨xs', x, rfl, a', r'⟩ := ih a
      exact ⟨_ :: xs', x, rfl, cons r a', r'⟩
theorem perm {xs xs' : List α} (p : xs'.Perm xs) : ∀ {ys : List β}, All2 R xs ys → ∃ ys', ys'.Perm ys ∧ All2 R xs' ys' := by
  induction p with
  | nil => intro ys a; cases a; exact ⟨[], .nil, nil⟩
  | cons x p ih =>
    intro ys a
    cases a with
    | cons r a =>
      obtain ⟨ys', p', a'⟩ := ih a
      exact ⟨_ :: ys', p'.cons _, cons r a'⟩
  | swap x y l =>
    intro ys a
    cases a with
    | cons r a =>
      cases a with
      | cons r2 a => exact ⟨_ :: _ :: _, List.Perm.swap _ _ _, cons r2 (cons r a)⟩
  | trans p1 p2 ih1 ih2 =>
    intro ys a
    obtain ⟨ys1, q1, a1⟩ := ih2 a
    obtain ⟨ys2, q2, a2⟩ := ih1 a1
    exact ⟨ys2, q2.trans q1, a2⟩
end All2
inductive Wd where
  | op | sl | fk
  deriving DecidableEq
structure N5 where
  wd : Wd
  a : Nat
  b : Nat
  c : Nat
  p : Nat
def N5.nd (n : N5) : Nd := (match n.wd with | .fk => true | _ => false, n.a)
structure Row where
  fork : Nat
  left : Nd
  right : Nd
  span : Nat × Nat
  bnd : Nat × Nat
/-- the stack, its top first; the rows; the slots so far -/
structure PState where
  st : List N5
  rows : List Row
  n : Nat
def closed (s : PState) (place : Nat) : Option PState := match s.st with
  | r :: l :: o :: rest => if r.wd ≠ .op ∧ l.wd ≠ .op ∧ o.wd = .op then some ⟨⟨.fk, l.c, l.b, r.c, o.p⟩ :: rest, s.rows ++ [⟨l.c, l.nd, r.nd, (l.b, r.c), (o.p, place + 1)⟩], s.n⟩ else none
  | _ => none
def pstep (s : PState) (place sign : Nat) : Option PState :=
  if sign = 40 then some ⟨⟨.op, 0, 0, 0, place⟩ :: s.st, s.rows, s.n⟩
  else if sign = 46 then some ⟨⟨.sl, s.n, s.n, s.n, place⟩ :: s.st, s.rows, s.n + 1⟩
  else if sign = 41 then closed s place
  else none
def run : Nat → List Nat → PState → Option PState
  | _, [], s => some s
  | p, c :: cs, s => (pstep s p c).bind (run (p + 1) cs)
theorem run_app : ∀ (xs ys : List Nat) (p : Nat) (s : PState), run p (xs ++ ys) s = (run p xs s).bind (run (p + xs.length) ys)
  | [], ys, p, s => rfl
  | x :: xs, ys, p, s => by
    show (pstep s p x).bind (run (p + 1) (xs ++ ys)) = ((pstep s p x).bind (run (p + 1) xs)).bind (run (p + (xs.length + 1)) ys)
    cases pstep s p x with
    | none => rfl
    | some s' =>
      show run (p + 1) (xs ++ ys) s' = (run (p + 1) xs s').bind (run (p + (xs.length + 1)) ys)
      rw [run_app xs ys (p + 1) s', show p + 1 + xs.length = p + (xs.length + 1) by omega]
theorem run_prefix {cs : List Nat} {s0 fin : PState} (h : run 0 cs s0 = some fin) (i : Nat) (hi : i ≤ cs.length) : ∃ s, run 0 (cs.take i) s0 = some s ∧ run i (cs.drop i) s = some fin := by
  have e := run_app (cs.take i) (cs.drop i) 0 s0
  rw [List.take_append_drop, h, Nat.zero_add, List.length_take, Nat.min_eq_left hi] at e
  cases q : run 0 (cs.take i) s0 with
  | none =>
    rw [q] at e
    cases e
  | some s =>
    rw [q] at e
    exact ⟨s, rfl, e.symm⟩
theorem run_next {cs : List Nat} {s0 fin s : PState} {i c : Nat} (h : run 0 cs s0 = some fin) (hs : run 0 (cs.take i) s0 = some s) (hc : cs[i]? = some c) : ∃ s', pstep s i c = some s' ∧ run 0 (cs.take (i + 1)) s0 = some s' := by
  have hi := (List.getElem?_eq_some_iff.mp hc).1
  obtain ⟨s', h1, _⟩ := run_prefix h (i + 1) hi
  have e : cs.take (i + 1) = cs.take i ++ [c] := by rw [List.take_add_one, hc]; rfl
  have h2 := h1
  rw [e, run_app, hs, List.length_take, Nat.min_eq_left (Nat.le_of_lt hi), Nat.zero_add] at h2
  refine ⟨s', ?_, h1⟩
  have h3 : (pstep s i c).bind (run (i + 1) []) = some s' := h2
  cases q : pstep s i c with
  | none =>
    rw [q] at h3
    cases h3
  | some s2 =>
    rw [q] at h3
    exact h3
theorem pstep_len {s s' : PState} {p c : Nat} (h : pstep s p c = some s') : s'.st.length ≤ s.st.length + 1 ∧ s'.rows.length ≤ s.rows.length + 1 ∧ s'.n ≤ s.n + 1 := by
  unfold pstep at h
  split at h
  · cases h; simp
  · split at h
    · cases h; simp
    · split at h
      · unfold closed at h
        split at h
        · rename_i r l o rest e
          split at h
          · cases h
            rw [e]
            simp
          · cases h
        · cases h
      · cases h
theorem run_len : ∀ (cs : List Nat) (p : Nat) (s s' : PState), run p cs s = some s' → s'.st.length ≤ s.st.length + cs.length ∧ s'.rows.length ≤ s.rows.length + cs.length ∧ s'.n ≤ s.n + cs.length
  | [], p, s, s', h => by cases h; simp
  | c :: cs, p, s, s', h => by
    have h' : (pstep s p c).bind (run (p + 1) cs) = some s' := h
    cases q : pstep s p c with
    | none =>
      rw [q] at h'
      cases h'
    | some s2 =>
      rw [q] at h'
      have h1 := pstep_len q
      have h2 := run_len cs (p + 1) s2 s' h'
      rw [List.length_cons]
      omega
def node5 : Tr → Nat → Nat → N5
  | .dot, o, p => ⟨.sl, o, o, o, p⟩
  | .node l r, o, p => ⟨.fk, o + l.slots - 1, o, o + (l.slots + r.slots) - 1, p⟩
theorem node5_wd : ∀ (t : Tr) (o p : Nat), (node5 t o p).wd ≠ .op
  | .dot, _, _ => by intro h; cases h
  | .node _ _, _, _ => by intro h; cases h
theorem node5_b : ∀ (t : Tr) (o p : Nat), (node5 t o p).b = o
  | .dot, _, _ => rfl
  | .node _ _, _, _ => rfl
theorem node5_c : ∀ (t : Tr) (o p : Nat), (node5 t o p).c = o + t.slots - 1
  | .dot, o, _ => by show o = o + 1 - 1; omega
  | .node _ _, _, _ => rfl
theorem node5_nd : ∀ (t : Tr) (o p : Nat), (node5 t o p).nd = t.nd o
  | .dot, _, _ => rfl
  | .node _ _, _, _ => rfl
namespace Tr
/-- the rows in postorder -/
def rows : Tr → Nat → Nat → List Row
  | dot, _, _ => []
  | node l r, o, p => l.rows o (p + 1) ++ r.rows (o + l.slots) (p + 1 + l.txt.length) ++ [⟨o + l.slots - 1, l.nd o, r.nd (o + l.slots), (o, o + (l.slots + r.slots) - 1), (p, p + (node l r).txt.length)⟩]
/-- by the fork's number -/
def rowsIn : Tr → Nat → Nat → List Row
  | dot, _, _ => []
  | node l r, o, p => l.rowsIn o (p + 1) ++ ⟨o + l.slots - 1, l.nd o, r.nd (o + l.slots), (o, o + (l.slots + r.slots) - 1), (p, p + (node l r).txt.length)⟩ :: r.rowsIn (o + l.slots) (p + 1 + l.txt.length)
theorem rows_perm : ∀ (t : Tr) (o p : Nat), (t.rows o p).Perm (t.rowsIn o p)
  | dot, _, _ => .nil
  | node l r, o, p => by
    show (l.rows o (p + 1) ++ r.rows (o + l.slots) (p + 1 + l.txt.length) ++ [_]).Perm (l.rowsIn o (p + 1) ++ _ :: r.rowsIn (o + l.slots) (p + 1 + l.txt.length))
    rw [List.append_assoc]
    refine (rows_perm l o (p + 1)).append ?_
    exact (List.perm_append_comm (l₁ := r.rows (o + l.slots) (p + 1 + l.txt.length))).trans ((rows_perm r (o + l.slots) (p + 1 + l.txt.length)).cons _)
theorem rowsIn_len : ∀ (t : Tr) (o p : Nat), (t.rowsIn o p).length = t.slots - 1
  | dot, _, _ => rfl
  | node l r, o, p => by
    have h1 := rowsIn_len l o (p + 1)
    have h2 := rowsIn_len r (o + l.slots) (p + 1 + l.txt.length)
    have p1 := slots_pos l
    have p2 := slots_pos r
    show (l.rowsIn o (p + 1) ++ _ :: r.rowsIn (o + l.slots) (p + 1 + l.txt.length)).length = l.slots + r.slots - 1
    rw [List.length_append, List.length_cons, h1, h2]
    omega
theorem rowsIn_fork : ∀ (t : Tr) (o p : Nat), (t.rowsIn o p).map (·.fork) = (List.range (t.slots - 1)).map (o + ·)
  | dot, _, _ => rfl
  | node l r, o, p => by
    have p1 := slots_pos l
    have p2 := slots_pos r
    show (l.rowsIn o (p + 1) ++ _ :: r.rowsIn (o + l.slots) (p + 1 + l.txt.length)).map (·.fork) = (List.range (l.slots + r.slots - 1)).map (o + ·)
    rw [List.map_append, List.map_cons, rowsIn_fork l, rowsIn_fork r, show l.slots + r.slots - 1 = (l.slots - 1) + (1 + (r.slots - 1)) by omega, List.range_add, List.map_append, List.range_add, List.map_append]
    congr 1
    show (o + l.slots - 1) :: (List.range (r.slots - 1)).map (o + l.slots + ·) = List.map (o + ·) (List.map (l.slots - 1 + ·) ([0] ++ (List.range (r.slots - 1)).map (1 + ·)))
    rw [List.map_append, List.map_append, List.map_map, List.map_map]
    show _ = (o + (l.slots - 1 + 0)) :: _
    rw [show o + (l.slots - 1 + 0) = o + l.slots - 1 by omega]
    congr 1
    show List.map (fun x => o + l.slots + x) (List.range (r.slots - 1)) = List.map ((fun x => o + x) ∘ fun x => l.slots - 1 + x) (List.map (fun x => 1 + x) (List.range (r.slots - 1)))
    rw [List.map_map]
    apply List.map_congr_left
    intro a _
    show o + l.slots + a = o + (l.slots - 1 + (1 + a))
    omega
theorem rowsIn_kids : ∀ (t : Tr) (o p : Nat), (t.rowsIn o p).map (fun r => (r.left, r.right)) = t.kids o
  | dot, _, _ => rfl
  | node l r, o, p => by
    show (l.rowsIn o (p + 1) ++ _ :: r.rowsIn (o + l.slots) (p + 1 + l.txt.length)).map (fun r => (r.left, r.right)) = l.kids o ++ _ :: r.kids (o + l.slots)
    rw [List.map_append, List.map_cons, rowsIn_kids l, rowsIn_kids r]
theorem rowsIn_spans : ∀ (t : Tr) (o p : Nat), (t.rowsIn o p).map (·.span) = t.spans o
  | dot, _, _ => rfl
  | node l r, o, p => by
    show (l.rowsIn o (p + 1) ++ _ :: r.rowsIn (o + l.slots) (p + 1 + l.txt.length)).map (·.span) = l.spans o ++ _ :: r.spans (o + l.slots)
    rw [List.map_append, List.map_cons, rowsIn_spans l, rowsIn_spans r]
end Tr
theorem run_txt : ∀ (t : Tr) (o p : Nat) (rest : List Nat) (st : List N5) (rows : List Row), run p (t.txt ++ rest) ⟨st, rows, o⟩ = run (p + t.txt.length) rest ⟨node5 t o p :: st, rows ++ t.rows o p, o + t.slots⟩
  | .dot, o, p, rest, st, rows => by
    show (pstep ⟨st, rows, o⟩ p 46).bind (run (p + 1) rest) = run (p + 1) rest ⟨⟨.sl, o, o, o, p⟩ :: st, rows ++ [], o + 1⟩
    rw [List.append_nil]
    rfl
  | .node l r, o, p, rest, st, rows => by
    have p1 := Tr.slots_pos l
    have p2 := Tr.slots_pos r
    have hl : (Tr.node l r).txt.length = l.txt.length + r.txt.length + 2 := by
      show (40 :: (l.txt ++ r.txt ++ [41])).length = _
      rw [List.length_cons, List.length_append, List.length_append]
      rfl
    have e1 : (Tr.node l r).txt ++ rest = 40 :: (l.txt ++ (r.txt ++ (41 :: rest))) := by
      show (40 :: (l.txt ++ r.txt ++ [41])) ++ rest = _
      simp
    rw [e1]
    show run (p + 1) (l.txt ++ (r.txt ++ (41 :: rest))) ⟨⟨.op, 0, 0, 0, p⟩ :: st, rows, o⟩ = _
    rw [run_txt l o (p + 1), run_txt r (o + l.slots) (p + 1 + l.txt.length)]
    show (closed ⟨node5 r (o + l.slots) (p + 1 + l.txt.length) :: node5 l o (p + 1) :: ⟨.op, 0, 0, 0, p⟩ :: st, rows ++ l.rows o (p + 1) ++ r.rows (o + l.slots) (p + 1 + l.txt.length), o + l.slots + r.slots⟩ (p + 1 + l.txt.length + r.txt.length)).bind (run (p + 1 + l.txt.length + r.txt.length + 1) rest) = _
    unfold closed
    dsimp only
    rw [if_pos ⟨node5_wd _ _ _, node5_wd _ _ _, rfl⟩]
    show run (p + 1 + l.txt.length + r.txt.length + 1) rest _ = _
    rw [node5_c l, node5_b l, node5_c r, node5_nd l, node5_nd r, hl]
    rw [show p + 1 + l.txt.length + r.txt.length + 1 = p + (l.txt.length + r.txt.length + 2) by omega]
    congr 1
    show PState.mk (⟨.fk, o + l.slots - 1, o, o + l.slots + r.slots - 1, p⟩ :: st) (rows ++ l.rows o (p + 1) ++ r.rows (o + l.slots) (p + 1 + l.txt.length) ++ [⟨o + l.slots - 1, l.nd o, r.nd (o + l.slots), (o, o + l.slots + r.slots - 1), (p, p + (l.txt.length + r.txt.length + 2))⟩]) (o + l.slots + r.slots) = PState.mk (⟨.fk, o + l.slots - 1, o, o + (l.slots + r.slots) - 1, p⟩ :: st) (rows ++ (l.rows o (p + 1) ++ r.rows (o + l.slots) (p + 1 + l.txt.length) ++ [⟨o + l.slots - 1, l.nd o, r.nd (o + l.slots), (o, o + (l.slots + r.slots) - 1), (p, p + (Tr.node l r).txt.length)⟩])) (o + (l.slots + r.slots))
    rw [hl, Nat.add_assoc o l.slots r.slots]
    simp only [List.append_assoc]
theorem run_whole (t : Tr) : run 0 t.txt ⟨[], [], 0⟩ = some ⟨[node5 t 0 0], t.rows 0 0, t.slots⟩ := by
  have h := run_txt t 0 0 [] [] []
  rw [List.append_nil] at h
  rw [h]
  show some (PState.mk [node5 t 0 0] ([] ++ t.rows 0 0) (0 + t.slots)) = _
  rw [List.nil_append, Nat.zero_add]
/-- two sorted rearrangements, no two rows of one fork, are one -/
theorem rows_uniq : ∀ {xs ys : List Row}, xs.Perm ys → xs.Pairwise (fun a b => a.fork ≤ b.fork) → ys.Pairwise (fun a b => a.fork ≤ b.fork) → (ys.map (·.fork)).Nodup → xs = ys
  | [], ys, p, _, _, _ => (List.Perm.eq_nil p.symm).symm
  | x :: xs, [], p, _, _, _ => absurd p.length_eq (by simp)
  | x :: xs, y :: ys, p, hx, hy, nd => by
    have hx1 := List.pairwise_cons.mp hx
    have hy1 := List.pairwise_cons.mp hy
    have nd1 := List.nodup_cons.mp nd
    have e : x = y := by
      rcases List.mem_cons.mp (p.mem_iff.mp (List.mem_cons_self (a := x) (l := xs))) with e | h1
      · exact e
      · rcases List.mem_cons.mp (p.mem_iff.mpr (List.mem_cons_self (a := y) (l := ys))) with e | h2
        · exact e.symm
        · have a := hy1.1 x h1
          have b := hx1.1 y h2
          exact absurd (List.mem_map.mpr ⟨x, h1, by show x.fork = y.fork; omega⟩) nd1.1
    subst e
    rw [rows_uniq p.cons_inv hx1.2 hy1.2 nd1.2]
end Ls
/-! lastside.trees: the reading of a text -/
namespace Ls
open PySem PySem.Spec PyProof.Rows L2
def wdS : Wd → Str
  | .op => "open"
  | .sl => "slot"
  | .fk => "fork"
def N5At (H : Hp) (v : V) (n : N5) : Prop := ∃ a : Addr, v = .ref a ∧ H a = some (.tup [.str (wdS n.wd), .int n.a, .int n.b, .int n.c, .int n.p])
def NdAt (H : Hp) (v : V) (n : Nd) : Prop := ∃ a : Addr, v = .ref a ∧ H a = some (.tup [.str (ndS n), .int n.2])
def SpAt (H : Hp) (v : V) (p : Nat × Nat) : Prop := ∃ a : Addr, v = .ref a ∧ H a = some (.tup [.int p.1, .int p.2])
def RowAt (H : Hp) (v : V) (r : Row) : Prop := ∃ (a : Addr) (vl vr vs vb : V), v = .ref a ∧ H a = some (.tup [.int r.fork, vl, vr, vs, vb]) ∧ NdAt H vl r.left ∧ NdAt H vr r.right ∧ SpAt H vs r.span ∧ SpAt H vb r.bnd
theorem N5At.mono {H H' : Hp} {v : V} {n : N5} (s : Same H H') (h : N5At H v n) : N5At H' v n := by
  obtain ⟨a, e, h⟩ := h
  exact ⟨a, e, s _ _ h⟩
theorem NdAt.mono {H H' : Hp} {v : V} {n : Nd} (s : Same H H') (h : NdAt H v n) : NdAt H' v n := by
  obtain ⟨a, e, h⟩ := h
  exact ⟨a, e, s _ _ h⟩
theorem SpAt.mono {H H' : Hp} {v : V} {n : Nat × Nat} (s : Same H H') (h : SpAt H v n) : SpAt H' v n := by
  obtain ⟨a, e, h⟩ := h
  exact ⟨a, e, s _ _ h⟩
theorem RowAt.mono {H H' : Hp} {v : V} {r : Row} (s : Same H H') (h : RowAt H v r) : RowAt H' v r := by
  obtain ⟨a, vl, vr, vs, vb, e, h, h1, h2, h3, h4⟩ := h
  exact ⟨a, vl, vr, vs, vb, e, s _ _ h, h1.mono s, h2.mono s, h3.mono s, h4.mono s⟩
theorem cut3 (xs : List V) (a b c : V) : cutV (xs ++ [a, b, c]) (some (-3)) none = [a, b, c] := by
  unfold cutV
  have e1 : HT.sIx (xs ++ [a, b, c]).length 0 (some (-3)) = xs.length := by
    unfold HT.sIx
    simp
    omega
  have e2 : HT.sIx (xs ++ [a, b, c]).length (xs ++ [a, b, c]).length none = (xs ++ [a, b, c]).length := rfl
  rw [e1, e2, List.drop_left]
  simp
section
variable {P : Program} {w : World} {K : PySem.W.Frag} {mg : Str → Option Value} {base : Heap}
def spEnds : Sp := fun vs H Q _ => ∃ (l : Addr) (xs : List V) (st : List N5) (o a b : N5), vs = [.ref l] ∧ H l = some (.lst xs) ∧ All2 (N5At H) xs (st ++ [o] ++ [a] ++ [b]) ∧ o.wd = .op ∧ a.wd ≠ .op ∧ b.wd ≠ .op ∧ ∀ H', Same H H' → Q (.bl true) H'
theorem wd_open (d : Wd) : decide (V.str (wdS d) = V.str "open") = decide (d = .op) := by cases d <;> decide +kernel
theorem ok_p_ends_fork (T : TX K mg) : FnOk P w K mg base CX0 1 T.p_ends_fork.f T.p_ends_fork.fd ["stack"] spEnds := by
  refine T.p_ends_fork.F.ok sc_p_ends_fork (fun vs H Q E h => ?_) (fun cdv A outer s H vs Q E hr h => ?_)
  · obtain ⟨l, xs, st, o, a, b, rfl, _⟩ := h
    rfl
  · obtain ⟨l, xs, st, o, a, b, rfl, hl, hx, ho, ha, hb, q⟩ := h
    refine ⟨_, (pss_one (ps_ret (pe_cmpR (op_eqD hr.units) (pe_lc (own := [("node", 1)]) rfl sc_p_ends_fork.nd (pi_list (pe_slice sl_list (pv 0) (po_some (pe_un un_neg pe_int)) po_none)) (blkOk_by (N := ["stack", "node"]) (sc := defScope s_p_ends_fork) (by decide +kernel)) (fun _ _ _ _ _ => (pg_name (i := 1) sc_p_ends_fork.nd rfl (by first | exact .inl rfl | exact .inr rfl))) (fun _ _ _ _ _ => pts_nil) (fun _ _ _ _ _ => (pe_cmpR op_eq (pe_ix (ix_tupK (K := K) rfl) (pv 1) pe_int (fun _ _ => rfl)) pe_str (nomark _)))) (pe_lst (pa_cons pe_bl (pa_cons pe_bl (pa_cons pe_bl pa_nil)))) (nomark _)))), ?_⟩
    obtain ⟨xs, v3, rfl, hx, r3⟩ := hx.unsnoc
    obtain ⟨xs, v2, rfl, hx, r2⟩ := hx.unsnoc
    obtain ⟨xs, v1, rfl, hx, r1⟩ := hx.unsnoc
    have ex : xs ++ [v1] ++ [v2] ++ [v3] = xs ++ [v1, v2, v3] := by simp
    refine ⟨_, rfl, 3, rfl, -3, rfl, l, _, rfl, sqL hl, fun c hc => ?_⟩
    rw [ex, cut3]
    have s1 : Same H (upd H c (.lst [v1, v2, v3])) := same_new (Same.refl H) hc
    refine ⟨c, rfl, ⟨_, sqL upd_same⟩, fun D hD => lc_map (walk_list (K := K) (a := c) (xs := [v1, v2, v3])) _ yAt (fun i => .bl (decide (i = 0))) (fun H' s' => sqL (s' _ _ upd_same)) hD (by show 3 ≤ 1000; decide) (fun _ => rfl) ?_ ?_⟩
    · intro i H' Q' hi s' hq
      have key : ∀ v n, N5At H v n → [v1, v2, v3].getD i .non = v → decide (n.wd = .op) = decide (i = 0) → tOp rEq (tOp (rIxT K) (tVar 1) (tC (.int 0))) (tC (.str "open")) ((wipe (start ["stack", "node"] [.ref l]) [1]).set 1 (some ([v1, v2, v3].getD i .non))) H' Q' := by
        rintro v n ⟨x, rfl, hx⟩ e1 e2
        rw [e1]
        refine ⟨_, rfl, x, _, 0, _, rfl, rfl, sqT ((s1.trans s') _ _ hx), rfl, rfl, ?_⟩
        rw [wd_open, e2]
        exact hq H' (Same.refl _)
      match i, hi with
      | 0, _ => exact key v1 o r1 rfl (by rw [ho]; rfl)
      | 1, _ => exact key v2 a r2 rfl (by rw [decide_eq_false ha]; rfl)
      | 2, _ => exact key v3 b r3 rfl (by rw [decide_eq_false hb]; rfl)
    · intro H' s' e
      refine ⟨(by show 3 ≤ sizeLine; decide), fun p hp => ?_⟩
      have d1 : Dp K (upd H' p (.lst [.bl true, .bl false, .bl false])) (.ref D) (.list [.bool true, .bool false, .bool false]) := .lst (sqL ((same_new (Same.refl H') hp) _ _ e)) (.cons (.bl _) (.cons (.bl _) (.cons (.bl _) .nil)))
      have d2 : Dp K (upd H' p (.lst [.bl true, .bl false, .bl false])) (.ref p) (.list [.bool true, .bool false, .bool false]) := .lst (sqL upd_same) (.cons (.bl _) (.cons (.bl _) (.cons (.bl _) .nil)))
      refine ⟨_, _, d1, d2, by decide, by decide, ?_⟩
      exact q _ (s1.trans (same_new s' hp))

theorem no_whole2 : ¬ (HT.sIx 5 0 none = 0 ∧ HT.sIx 5 5 (some 2) = 5) := by decide
theorem cut2 (a b c d e : V) : cutV [a, b, c, d, e] none (some 2) = [a, b] := rfl
theorem walk_enumS {z : Str} : Walk (Itse z) z.cps.size (fun _ => True) (fun i H v H' => ∃ (T : Addr) (c : Nat), v = .ref T ∧ H T = none ∧ H' = upd H T (.tup [.int (i : Nat), .str ⟨#[c]⟩]) ∧ z.cps[i]? = some c) :=
  ⟨fun _ _ hi _ => hi, fun _ _ => rfl, fun _ _ _ _ _ _ y => y⟩
theorem sign_dec (c d : Nat) (x : Str) (h : x = ⟨#[d]⟩) : decide (V.str ⟨#[c]⟩ = V.str x) = decide (c = d) := by
  subst h
  by_cases e : c = d
  · rw [e, decide_eq_true rfl, decide_eq_true rfl]
  · rw [decide_eq_false e, decide_eq_false]
    intro z
    apply e
    injection z with z
    injection z with z
    have := congrArg Array.toList z
    simpa using this
/-- what stands still while the lists at k and r grow -/
structure Fz (Hf H : Hp) (k r : Addr) : Prop where
  s : Same Hf H
  hk : Hf k = none
  hr : Hf r = none
theorem upd_both {Hf H : Hp} (p : Addr) (o : HO) (s : Same Hf H) : Same (upd Hf p o) (upd H p o) := fun b x e => by
  by_cases c : b = p
  · subst c
    rw [upd_same] at e ⊢
    exact e
  · rw [upd_ne c] at e ⊢
    exact s b x e
theorem Fz.new {Hf H : Hp} {k r p : Addr} (f : Fz Hf H k r) (o : HO) {o1 o2 : HO} (h1 : H k = some o1) (h2 : H r = some o2) (hp : H p = none) : Fz (upd Hf p o) (upd H p o) k r :=
  ⟨upd_both p o f.s, by rw [upd_ne (ne_of_none h1 hp)]; exact f.hk, by rw [upd_ne (ne_of_none h2 hp)]; exact f.hr⟩
theorem Fz.go {Hf H H' : Hp} {k r : Addr} (f : Fz Hf H k r) (s : Same H H') : Fz Hf H' k r := ⟨f.s.trans s, f.hk, f.hr⟩
theorem Fz.putk {Hf H : Hp} {k r : Addr} (f : Fz Hf H k r) (o : HO) : Fz Hf (upd H k o) k r := ⟨same_put f.s f.hk, f.hk, f.hr⟩
theorem Fz.putr {Hf H : Hp} {k r : Addr} (f : Fz Hf H k r) (o : HO) : Fz Hf (upd H r o) k r := ⟨same_put f.s f.hr, f.hk, f.hr⟩
theorem nd_wd {n : N5} (h : n.wd ≠ .op) : ndS n.nd = wdS n.wd := by
  obtain ⟨d, a, b, c, p⟩ := n
  cases d
  · exact absurd rfl h
  · rfl
  · rfl
/-- all that the loop of read_forks keeps -/
def ReadInv (H : Hp) (k r : Addr) (txt : List Nat) (i : Nat) (n : Int) (H' : Hp) : Prop :=
  ∃ (s : PState) (Hf : Hp) (ks rs : List V), run 0 (txt.take i) ⟨[], [], 0⟩ = some s ∧ Same H Hf ∧ Fz Hf H' k r ∧ H' k = some (.lst ks) ∧ H' r = some (.lst rs) ∧ All2 (N5At Hf) ks s.st.reverse ∧ All2 (RowAt Hf) rs s.rows ∧ n = (s.n : Int)
def spRead : Sp := fun vs H Q _ => ∃ t : Tr, vs = [.str (S t.txt)] ∧ t.slots ≤ 64 ∧ ∀ H' p ys, Same H H' → H p = none → H' p = some (.lst ys) → All2 (RowAt H') ys (t.rows 0 0) → Q (.ref p) H'
theorem ok_p_read_forks (T : TX K mg) : FnOk P w K mg base CX0 2 T.p_read_forks.f T.p_read_forks.fd ["text"] spRead := by
  refine T.p_read_forks.F.ok sc_p_read_forks (fun vs H Q E h => ?_) (fun cdv A outer s H vs Q E hr h => ?_)
  · obtain ⟨t, rfl, _⟩ := h
    rfl
  · obtain ⟨t, rfl, h64, q⟩ := h
    have htl := Tr.txt_len t
    have hw := run_whole t
    refine ⟨_, (pss_cons (ps_set (i := 1) sc_p_read_forks.nd rfl (by first | exact .inl rfl | exact .inr rfl) (pe_lst pa_nil))
      (pss_cons (ps_set (i := 2) sc_p_read_forks.nd rfl (by first | exact .inl rfl | exact .inr rfl) (pe_lst pa_nil))
      (pss_cons (ps_set (i := 3) sc_p_read_forks.nd rfl (by first | exact .inl rfl | exact .inr rfl) pe_int)
      (pss_cons (ps_for PassesOwn.never rfl (pi_enumS rfl T.b_enumerate (pa_cons (pv 0) pa_nil)) (pg_tup rfl (pgs_cons (pg_name (i := 4) sc_p_read_forks.nd rfl (by first | exact .inl rfl | exact .inr rfl)) (pgs_cons (pg_name (i := 5) sc_p_read_forks.nd rfl (by first | exact .inl rfl | exact .inr rfl)) pgs_nil)))
        (pss_one (ps_if (pt_cmpR op_eq (pv 5) pe_str (nomark _))
        (pss_one (ps_expr (pe_bm PySem.F.plainAttrs_list PySem.F.slot_list_append PySem.F.type_list_append mt_append (pv 1) (pa_cons (pe_tup (pa_cons pe_str (pa_cons pe_int (pa_cons pe_int (pa_cons pe_int (pa_cons (pv 4) pa_nil)))))) pa_nil))))
        (pss_one (ps_if (pt_cmpR op_eq (pv 5) pe_str (nomark _))
        (pss_cons (ps_expr (pe_bm PySem.F.plainAttrs_list PySem.F.slot_list_append PySem.F.type_list_append mt_append (pv 1) (pa_cons (pe_tup (pa_cons pe_str (pa_cons (pv 3) (pa_cons (pv 3) (pa_cons (pv 3) (pa_cons (pv 4) pa_nil)))))) pa_nil)))
      (pss_one (ps_set (i := 3) sc_p_read_forks.nd rfl (by first | exact .inl rfl | exact .inr rfl) (pe_op op_add (pv 3) pe_int))))
        (pss_one (ps_if (PW.pt (pw_and (pt_cmpR op_eq (pv 5) pe_str (nomark _)) (pw_and1 (pt_val (pe_call (ok_p_ends_fork T) (hr.mono (by decide)) (by rfl) T.p_ends_fork.g T.p_ends_fork.F.kp T.p_ends_fork.b .nil pass0 (pa_cons (pv 1) pa_nil))))))
        (pss_cons (ps_set (i := 6) sc_p_read_forks.nd rfl (by first | exact .inl rfl | exact .inr rfl) (pe_bm0 PySem.F.plainAttrs_list PySem.F.slot_list_pop PySem.F.type_list_pop mt_pop (pv 1)))
      (pss_cons (ps_set (i := 7) sc_p_read_forks.nd rfl (by first | exact .inl rfl | exact .inr rfl) (pe_bm0 PySem.F.plainAttrs_list PySem.F.slot_list_pop PySem.F.type_list_pop mt_pop (pv 1)))
      (pss_cons (ps_asg (pe_tup (pa_cons (pe_ix ix_tup (pv 7) pe_int (fun _ _ => rfl)) (pa_cons (pe_ix ix_tup (pv 7) pe_int (fun _ _ => rfl)) (pa_cons (pe_ix ix_tup (pv 6) pe_int (fun _ _ => rfl)) (pa_cons (pe_ix ix_tup (pe_bm0 PySem.F.plainAttrs_list PySem.F.slot_list_pop PySem.F.type_list_pop mt_pop (pv 1)) pe_int (fun _ _ => rfl)) pa_nil))))) (pg_tup rfl (pgs_cons (pg_name (i := 8) sc_p_read_forks.nd rfl (by first | exact .inl rfl | exact .inr rfl)) (pgs_cons (pg_name (i := 9) sc_p_read_forks.nd rfl (by first | exact .inl rfl | exact .inr rfl)) (pgs_cons (pg_name (i := 10) sc_p_read_forks.nd rfl (by first | exact .inl rfl | exact .inr rfl)) (pgs_cons (pg_name (i := 11) sc_p_read_forks.nd rfl (by first | exact .inl rfl | exact .inr rfl)) pgs_nil))))))
      (pss_cons (ps_expr (pe_bm PySem.F.plainAttrs_list PySem.F.slot_list_append PySem.F.type_list_append mt_append (pv 2) (pa_cons (pe_tup (pa_cons (pv 9) (pa_cons (pe_slice sl_tupA (pv 7) po_none (po_some pe_int)) (pa_cons (pe_slice sl_tupA (pv 6) po_none (po_some pe_int)) (pa_cons (pe_tup (pa_cons (pv 8) (pa_cons (pv 10) pa_nil))) (pa_cons (pe_tup (pa_cons (pv 11) (pa_cons (pe_op op_add (pv 4) pe_int) pa_nil))) pa_nil)))))) pa_nil)))
      (pss_one (ps_expr (pe_bm PySem.F.plainAttrs_list PySem.F.slot_list_append PySem.F.type_list_append mt_append (pv 1) (pa_cons (pe_tup (pa_cons pe_str (pa_cons (pv 9) (pa_cons (pv 8) (pa_cons (pv 10) (pa_cons (pv 11) pa_nil)))))) pa_nil))))))))
        (pss_one (ps_ret pe_non)))))))))
      (pss_cons (ps_if (PW.pt (pw_or (pt_cmpR op_ne (pe_callB call_len_seq (by rfl) T.b_len (by decide +kernel) (pa_cons (pv 1) pa_nil)) pe_int (nomark _)) (pw_or1 (pt_cmpR op_eq (pe_ix ix_tup (pe_ix ix_list (pv 1) pe_int (fun _ _ => rfl)) pe_int (fun _ _ => rfl)) pe_str (nomark _)))))
        (pss_one (ps_ret pe_non))
        pss_nil)
      (pss_one (ps_ret (pv 2)))))))), ?_⟩
    refine ⟨Nat.zero_le _, fun k hk => ⟨Nat.zero_le _, fun r hr' => ⟨_, rfl, S t.txt, rfl, ?_⟩⟩⟩
    have hkr : k ≠ r := ne_of_none (upd_same (a := k)) hr'
    have hr0 : H r = none := by rw [upd_ne hkr.symm] at hr'; exact hr'
    refine for_it walk_enumS (fun i σ H' => ∃ (n : Int) (v4 v5 v6 v7 v8 v9 v10 v11 : Option V), σ = [some (.str (S t.txt)), some (.ref k), some (.ref r), some (.int n), v4, v5, v6, v7, v8, v9, v10, v11] ∧ ReadInv H k r t.txt i n H')
      ⟨0, none, none, none, none, none, none, none, none, rfl, ⟨[], [], 0⟩, H, [], [], rfl, Same.refl H, ⟨same_put (same_put (Same.refl H) hk) hr0, hk, hr0⟩, by rw [upd_ne hkr, upd_same], upd_same, .nil, .nil, rfl⟩ (fun _ _ _ _ _ => trivial) ?_ ?_
    · rintro i x σ H1 H2 hi ⟨n, v4, v5, v6, v7, v8, v9, v10, v11, rfl, s, Hf, ks, rs, h1, h2, h3, h4, h5, h6, h7, rfl⟩ ⟨T', c, rfl, hT', rfl, hc⟩
      have hc' : t.txt[i]? = some c := by
        have : (S t.txt).cps.toList[i]? = some c := by rw [Array.getElem?_toList]; exact hc
        rw [S_cps] at this
        exact this
      have hi' : i < t.txt.length := (List.getElem?_eq_some_iff.mp hc').1
      obtain ⟨s', hs', hrun⟩ := run_next hw h1 hc'
      have hlen := run_len _ _ _ _ h1
      rw [List.length_take] at hlen
      have l1 : s.st.length ≤ 190 := by have := hlen.1; simp at this; omega
      have l2 : s.rows.length ≤ 190 := by have := hlen.2.1; simp at this; omega
      have lk : ks.length = s.st.length := by rw [h6.len, List.length_reverse]
      have lr : rs.length = s.rows.length := h7.len
      have z190 : 190 < sizeLine := small1000 (by decide)
      refine ⟨T', _, rfl, sqT upd_same, rfl, _, _, rfl, _, _, rfl, rfl, ?_⟩
      have h3' : Fz Hf (upd H1 T' (.tup [.int (i : Nat), .str ⟨#[c]⟩])) k r := h3.go (same_new (Same.refl H1) hT')
      have h4' : (upd H1 T' (.tup [.int (i : Nat), .str ⟨#[c]⟩])) k = some (.lst ks) := by rw [upd_ne (ne_of_none h4 hT')]; exact h4
      have h5' : (upd H1 T' (.tup [.int (i : Nat), .str ⟨#[c]⟩])) r = some (.lst rs) := by rw [upd_ne (ne_of_none h5 hT')]; exact h5
      generalize upd H1 T' (.tup [.int (i : Nat), .str ⟨#[c]⟩]) = H2 at h3' h4' h5' ⊢
      clear h3 h4 h5
      refine ⟨_, rfl, rfl, _, rfl, ?_⟩
      rw [sign_dec c 40 "(" (by decide +kernel)]
      unfold pstep at hs'
      by_cases c1 : c = 40
      · rw [if_pos c1] at hs'
        cases hs'
        rw [decide_eq_true c1]
        refine ⟨_, rfl, .inl ⟨rfl, _, sqL h4'⟩, _, rfl, (by show 5 ≤ sizeLine; decide), fun p hp => ?_⟩
        have h4n := (same_new (Same.refl H2) hp (o := .tup [.str "open", .int 0, .int 0, .int 0, .int (i : Nat)])) _ _ h4'
        have h5n := (same_new (Same.refl H2) hp (o := .tup [.str "open", .int 0, .int 0, .int 0, .int (i : Nat)])) _ _ h5'
        have f1 := h3'.new (.tup [.str "open", .int 0, .int 0, .int 0, .int (i : Nat)]) h4' h5' hp
        have sf : Same Hf (upd Hf p (.tup [.str "open", .int 0, .int 0, .int 0, .int (i : Nat)])) := same_new (Same.refl Hf) (h3'.s.free hp)
        refine ⟨k, ks, _, rfl, rfl, h4n, by omega, _, _, _, _, _, _, _, _, _, rfl, _, _, _, _, hrun, h2.trans sf, f1.putk _, upd_same, by rw [upd_ne hkr.symm]; exact h5n, ?_, h7.mono fun _ _ z => z.mono sf, rfl⟩
        show All2 _ (ks ++ [_]) (List.reverse (_ :: s.st))
        rw [List.reverse_cons]
        exact (h6.mono fun _ _ z => z.mono sf).snoc ⟨p, rfl, upd_same⟩
      · rw [if_neg c1] at hs'
        rw [decide_eq_false c1]
        refine ⟨_, rfl, rfl, _, rfl, ?_⟩
        rw [sign_dec c 46 "." (by decide +kernel)]
        by_cases c2 : c = 46
        · rw [if_pos c2] at hs'
          cases hs'
          rw [decide_eq_true c2]
          refine ⟨_, rfl, .inl ⟨rfl, _, sqL h4'⟩, _, rfl, _, rfl, _, rfl, _, rfl, (by show 5 ≤ sizeLine; decide), fun p hp => ?_⟩
          have h4n := (same_new (Same.refl H2) hp (o := .tup [.str "slot", .int (s.n : Int), .int (s.n : Int), .int (s.n : Int), .int (i : Nat)])) _ _ h4'
          have h5n := (same_new (Same.refl H2) hp (o := .tup [.str "slot", .int (s.n : Int), .int (s.n : Int), .int (s.n : Int), .int (i : Nat)])) _ _ h5'
          have f1 := h3'.new (.tup [.str "slot", .int (s.n : Int), .int (s.n : Int), .int (s.n : Int), .int (i : Nat)]) h4' h5' hp
          have sf : Same Hf (upd Hf p (.tup [.str "slot", .int (s.n : Int), .int (s.n : Int), .int (s.n : Int), .int (i : Nat)])) := same_new (Same.refl Hf) (h3'.s.free hp)
          refine ⟨k, ks, _, rfl, rfl, h4n, by omega, ?_⟩
          refine ⟨_, rfl, _, _, rfl, rfl, ?_⟩
          refine ⟨_, _, _, _, _, _, _, _, _, rfl, _, _, _, _, hrun, h2.trans sf, f1.putk _, upd_same, by rw [upd_ne hkr.symm]; exact h5n, ?_, h7.mono fun _ _ z => z.mono sf, rfl⟩
          show All2 _ (ks ++ [_]) (List.reverse (_ :: s.st))
          rw [List.reverse_cons]
          exact (h6.mono fun _ _ z => z.mono sf).snoc ⟨p, rfl, upd_same⟩
        · rw [if_neg c2] at hs'
          rw [decide_eq_false c2]
          by_cases c3 : c = 41
          · rw [if_pos c3] at hs'
            unfold closed at hs'
            split at hs'
            case h_2 => cases hs'
            rename_i R L O rest est
            split at hs'
            case isFalse => cases hs'
            rename_i hw3
            obtain ⟨w1, w2, w3⟩ := hw3
            cases hs'
            rw [est, List.reverse_cons, List.reverse_cons, List.reverse_cons] at h6
            refine ⟨_, rfl, rfl, _, rfl, ?_⟩
            rw [sign_dec c 41 ")" (by decide +kernel), decide_eq_true c3]
            refine iteT ?_
            refine ⟨_, rfl, k, ks, rest.reverse, O, L, R, rfl, h4', h6.mono fun _ _ z => z.mono h3'.s, w3, w2, w1, fun H3 s3 => ⟨_, rfl, ?_⟩⟩
            have f3 := h3'.go s3
            have h4c := s3 _ _ h4'
            have h5c := s3 _ _ h5'
            clear h3' h4' h5' s3
            obtain ⟨ks3, vR, rfl, h6a, hR⟩ := h6.unsnoc
            obtain ⟨ks2, vL, rfl, h6b, hL⟩ := h6a.unsnoc
            obtain ⟨ks1, vO, rfl, h6c, hO⟩ := h6b.unsnoc
            have d1 : (ks1 ++ [vO] ++ [vL] ++ [vR]).dropLast = ks1 ++ [vO] ++ [vL] := List.dropLast_concat
            have d2 : (ks1 ++ [vO] ++ [vL]).dropLast = ks1 ++ [vO] := List.dropLast_concat
            have d3 : (ks1 ++ [vO]).dropLast = ks1 := List.dropLast_concat
            have e1 : (ks1 ++ [vO] ++ [vL] ++ [vR])[(ks1 ++ [vO] ++ [vL] ++ [vR]).length - 1]? = some vR := by simp
            have e2 : (ks1 ++ [vO] ++ [vL])[(ks1 ++ [vO] ++ [vL]).length - 1]? = some vL := by simp
            have e3 : (ks1 ++ [vO])[(ks1 ++ [vO]).length - 1]? = some vO := by simp
            refine iteT ?_
            refine ⟨_, rfl, .inl ⟨rfl, _, sqL h4c⟩, k, _, vR, rfl, rfl, h4c, e1, ?_⟩
            rw [d1]
            have f4 := f3.putk (.lst (ks1 ++ [vO] ++ [vL]))
            have h5d : (upd H3 k (.lst (ks1 ++ [vO] ++ [vL]))) r = some (.lst rs) := by rw [upd_ne hkr.symm]; exact h5c
            have h4d : (upd H3 k (.lst (ks1 ++ [vO] ++ [vL]))) k = some (.lst (ks1 ++ [vO] ++ [vL])) := upd_same
            generalize upd H3 k (.lst (ks1 ++ [vO] ++ [vL])) = H4 at f4 h5d h4d ⊢
            refine ⟨_, rfl, .inl ⟨rfl, _, sqL h4d⟩, k, _, vL, rfl, rfl, h4d, e2, ?_⟩
            rw [d2]
            have f5 := f4.putk (.lst (ks1 ++ [vO]))
            have h5e : (upd H4 k (.lst (ks1 ++ [vO]))) r = some (.lst rs) := by rw [upd_ne hkr.symm]; exact h5d
            have h4e : (upd H4 k (.lst (ks1 ++ [vO]))) k = some (.lst (ks1 ++ [vO])) := upd_same
            generalize upd H4 k (.lst (ks1 ++ [vO])) = H5 at f5 h5e h4e ⊢
            obtain ⟨aR, rfl, hR⟩ := hR
            obtain ⟨aL, rfl, hL⟩ := hL
            obtain ⟨aO, rfl, hO⟩ := hO
            have r1 := f5.s _ _ hL
            have r2 := f5.s _ _ hR
            refine ⟨_, rfl, aL, _, 2, _, rfl, rfl, sqT r1, rfl, ?_⟩
            refine ⟨_, rfl, aL, _, 3, _, rfl, rfl, sqT r1, rfl, ?_⟩
            refine ⟨_, rfl, aR, _, 3, _, rfl, rfl, sqT r2, rfl, ?_⟩
            refine ⟨_, rfl, .inl ⟨rfl, _, sqL h4e⟩, k, _, _, rfl, rfl, h4e, e3, ?_⟩
            rw [d3]
            have f6 := f5.putk (.lst ks1)
            have h5f : (upd H5 k (.lst ks1)) r = some (.lst rs) := by rw [upd_ne hkr.symm]; exact h5e
            have h4f : (upd H5 k (.lst ks1)) k = some (.lst ks1) := upd_same
            generalize upd H5 k (.lst ks1) = H6 at f6 h5f h4f ⊢
            refine ⟨aO, _, 4, _, rfl, rfl, sqT (f6.s _ _ hO), rfl, ?_⟩
            refine ⟨(by show 4 ≤ sizeLine; decide), fun p hp => ?_⟩
            refine ⟨p, _, rfl, sqT upd_same, rfl, _, _, rfl, _, _, rfl, _, _, rfl, _, _, rfl, rfl, ?_⟩
            have sp := same_new (Same.refl H6) hp (o := .tup [.int (L.b : Nat), .int (L.c : Nat), .int (R.c : Nat), .int (O.p : Nat)])
            have f7 := f6.go sp
            have h4g := sp _ _ h4f
            have h5g := sp _ _ h5f
            generalize upd H6 p (.tup [.int (L.b : Nat), .int (L.c : Nat), .int (R.c : Nat), .int (O.p : Nat)]) = H7 at f7 h4g h5g ⊢
            clear sp hp h4f h5f
            refine ⟨_, rfl, .inl ⟨rfl, _, sqL h5g⟩, ?_⟩
            refine ⟨_, rfl, _, rfl, 2, rfl, aL, _, rfl, sqT (f7.s _ _ hL), fun z => absurd z no_whole2, fun _ p1 hp1 => ?_⟩
            rw [cut2]
            have h4h := (same_new (Same.refl H7) hp1 (o := .tup [.str (wdS L.wd), .int (L.a : Nat)])) _ _ h4g
            have h5h := (same_new (Same.refl H7) hp1 (o := .tup [.str (wdS L.wd), .int (L.a : Nat)])) _ _ h5g
            have f8 := f7.new (.tup [.str (wdS L.wd), .int (L.a : Nat)]) h4g h5g hp1
            have m1 : Same Hf (upd Hf p1 (.tup [.str (wdS L.wd), .int (L.a : Nat)])) := same_new (Same.refl Hf) (f7.s.free hp1)
            have q1 : (upd Hf p1 (.tup [.str (wdS L.wd), .int (L.a : Nat)])) p1 = some (.tup [.str (wdS L.wd), .int (L.a : Nat)]) := upd_same
            generalize upd H7 p1 (.tup [.str (wdS L.wd), .int (L.a : Nat)]) = H8 at f8 h4h h5h ⊢
            generalize upd Hf p1 (.tup [.str (wdS L.wd), .int (L.a : Nat)]) = Hf1 at f8 m1 q1
            clear h4g h5g hp1
            refine ⟨_, rfl, 2, rfl, aR, _, rfl, sqT (f8.s _ _ (m1 _ _ hR)), fun z => absurd z no_whole2, fun _ p2 hp2 => ?_⟩
            rw [cut2]
            have h4i := (same_new (Same.refl H8) hp2 (o := .tup [.str (wdS R.wd), .int (R.a : Nat)])) _ _ h4h
            have h5i := (same_new (Same.refl H8) hp2 (o := .tup [.str (wdS R.wd), .int (R.a : Nat)])) _ _ h5h
            have f9 := f8.new (.tup [.str (wdS R.wd), .int (R.a : Nat)]) h4h h5h hp2
            have m2 : Same Hf1 (upd Hf1 p2 (.tup [.str (wdS R.wd), .int (R.a : Nat)])) := same_new (Same.refl Hf1) (f8.s.free hp2)
            have q2 : (upd Hf1 p2 (.tup [.str (wdS R.wd), .int (R.a : Nat)])) p2 = some (.tup [.str (wdS R.wd), .int (R.a : Nat)]) := upd_same
            generalize upd H8 p2 (.tup [.str (wdS R.wd), .int (R.a : Nat)]) = H9 at f9 h4i h5i ⊢
            generalize upd Hf1 p2 (.tup [.str (wdS R.wd), .int (R.a : Nat)]) = Hf2 at f9 m2 q2
            clear h4h h5h hp2
            refine ⟨_, rfl, _, rfl, (by show 2 ≤ sizeLine; decide), fun p3 hp3 => ?_⟩
            have h4j := (same_new (Same.refl H9) hp3 (o := .tup [.int (L.b : Nat), .int (R.c : Nat)])) _ _ h4i
            have h5j := (same_new (Same.refl H9) hp3 (o := .tup [.int (L.b : Nat), .int (R.c : Nat)])) _ _ h5i
            have fa := f9.new (.tup [.int (L.b : Nat), .int (R.c : Nat)]) h4i h5i hp3
            have m3 : Same Hf2 (upd Hf2 p3 (.tup [.int (L.b : Nat), .int (R.c : Nat)])) := same_new (Same.refl Hf2) (f9.s.free hp3)
            have q3 : (upd Hf2 p3 (.tup [.int (L.b : Nat), .int (R.c : Nat)])) p3 = some (.tup [.int (L.b : Nat), .int (R.c : Nat)]) := upd_same
            generalize upd H9 p3 (.tup [.int (L.b : Nat), .int (R.c : Nat)]) = Ha at fa h4j h5j ⊢
            generalize upd Hf2 p3 (.tup [.int (L.b : Nat), .int (R.c : Nat)]) = Hf3 at fa m3 q3
            clear h4i h5i hp3
            refine ⟨_, rfl, ⟨_, rfl, _, _, rfl, rfl, (by show 2 ≤ sizeLine; decide), fun p4 hp4 => ?_⟩⟩
            have h4k := (same_new (Same.refl Ha) hp4 (o := .tup [.int (O.p : Nat), .int ((i : Int) + 1)])) _ _ h4j
            have h5k := (same_new (Same.refl Ha) hp4 (o := .tup [.int (O.p : Nat), .int ((i : Int) + 1)])) _ _ h5j
            have fb := fa.new (.tup [.int (O.p : Nat), .int ((i : Int) + 1)]) h4j h5j hp4
            have m4 : Same Hf3 (upd Hf3 p4 (.tup [.int (O.p : Nat), .int ((i : Int) + 1)])) := same_new (Same.refl Hf3) (fa.s.free hp4)
            have q4 : (upd Hf3 p4 (.tup [.int (O.p : Nat), .int ((i : Int) + 1)])) p4 = some (.tup [.int (O.p : Nat), .int ((i : Int) + 1)]) := upd_same
            generalize upd Ha p4 (.tup [.int (O.p : Nat), .int ((i : Int) + 1)]) = Hb at fb h4k h5k ⊢
            generalize upd Hf3 p4 (.tup [.int (O.p : Nat), .int ((i : Int) + 1)]) = Hf4 at fb m4 q4
            clear h4j h5j hp4
            refine ⟨(by show 5 ≤ sizeLine; decide), fun p5 hp5 => ?_⟩
            have h4l := (same_new (Same.refl Hb) hp5 (o := .tup [.int (L.c : Nat), .ref p1, .ref p2, .ref p3, .ref p4])) _ _ h4k
            have h5l := (same_new (Same.refl Hb) hp5 (o := .tup [.int (L.c : Nat), .ref p1, .ref p2, .ref p3, .ref p4])) _ _ h5k
            have fc := fb.new (.tup [.int (L.c : Nat), .ref p1, .ref p2, .ref p3, .ref p4]) h4k h5k hp5
            have m5 : Same Hf4 (upd Hf4 p5 (.tup [.int (L.c : Nat), .ref p1, .ref p2, .ref p3, .ref p4])) := same_new (Same.refl Hf4) (fb.s.free hp5)
            have q5 : (upd Hf4 p5 (.tup [.int (L.c : Nat), .ref p1, .ref p2, .ref p3, .ref p4])) p5 = some (.tup [.int (L.c : Nat), .ref p1, .ref p2, .ref p3, .ref p4]) := upd_same
            generalize upd Hb p5 (.tup [.int (L.c : Nat), .ref p1, .ref p2, .ref p3, .ref p4]) = Hc at fc h4l h5l ⊢
            generalize upd Hf4 p5 (.tup [.int (L.c : Nat), .ref p1, .ref p2, .ref p3, .ref p4]) = Hf5 at fc m5 q5
            clear h4k h5k hp5
            refine ⟨r, rs, _, rfl, rfl, h5l, by omega, ?_⟩
            have fd := fc.putr (.lst (rs ++ [.ref p5]))
            have h4m : (upd Hc r (.lst (rs ++ [.ref p5]))) k = some (.lst ks1) := by rw [upd_ne hkr]; exact h4l
            have h5m : (upd Hc r (.lst (rs ++ [.ref p5]))) r = some (.lst (rs ++ [.ref p5])) := upd_same
            generalize upd Hc r (.lst (rs ++ [.ref p5])) = Hd at fd h4m h5m ⊢
            refine ⟨_, rfl, .inl ⟨rfl, _, sqL h4m⟩, _, rfl, _, rfl, _, rfl, _, rfl, (by show 5 ≤ sizeLine; decide), fun p6 hp6 => ?_⟩
            have h4n := (same_new (Same.refl Hd) hp6 (o := .tup [.str "fork", .int (L.c : Nat), .int (L.b : Nat), .int (R.c : Nat), .int (O.p : Nat)])) _ _ h4m
            have h5n := (same_new (Same.refl Hd) hp6 (o := .tup [.str "fork", .int (L.c : Nat), .int (L.b : Nat), .int (R.c : Nat), .int (O.p : Nat)])) _ _ h5m
            have fe := fd.new (.tup [.str "fork", .int (L.c : Nat), .int (L.b : Nat), .int (R.c : Nat), .int (O.p : Nat)]) h4m h5m hp6
            have m6 : Same Hf5 (upd Hf5 p6 (.tup [.str "fork", .int (L.c : Nat), .int (L.b : Nat), .int (R.c : Nat), .int (O.p : Nat)])) := same_new (Same.refl Hf5) (fd.s.free hp6)
            have q6 : (upd Hf5 p6 (.tup [.str "fork", .int (L.c : Nat), .int (L.b : Nat), .int (R.c : Nat), .int (O.p : Nat)])) p6 = some (.tup [.str "fork", .int (L.c : Nat), .int (L.b : Nat), .int (R.c : Nat), .int (O.p : Nat)]) := upd_same
            have m56 : Same Hf4 (upd Hf5 p6 (.tup [.str "fork", .int (L.c : Nat), .int (L.b : Nat), .int (R.c : Nat), .int (O.p : Nat)])) := m5.trans m6
            have m46 := m4.trans m56
            have m36 := m3.trans m46
            have m26 := m2.trans m36
            have mall := m1.trans m26
            refine ⟨k, ks1, _, rfl, rfl, h4n, ?_, _, _, _, _, _, _, _, _, _, rfl, _, _, _, _, hrun, h2.trans mall, fe.putk _, upd_same, by rw [upd_ne hkr.symm]; exact h5n, ?_, ?_, rfl⟩
            · rw [List.length_append, List.length_append, List.length_append] at lk
              omega
            · show All2 _ (ks1 ++ [_]) (List.reverse (_ :: rest))
              rw [List.reverse_cons]
              exact (h6c.mono fun _ _ z => z.mono mall).snoc (show N5At _ (V.ref p6) ⟨.fk, L.c, L.b, R.c, O.p⟩ from ⟨p6, rfl, q6⟩)
            · refine (h7.mono fun _ _ z => z.mono mall).snoc ⟨p5, .ref p1, .ref p2, .ref p3, .ref p4, rfl, m6 _ _ q5, ⟨p1, rfl, ?_⟩, ⟨p2, rfl, ?_⟩, ⟨p3, rfl, m46 _ _ q3⟩, ⟨p4, rfl, m56 _ _ q4⟩⟩
              · rw [nd_wd w2]; exact m26 _ _ q1
              · rw [nd_wd w1]; exact m36 _ _ q2
          · rw [if_neg c3] at hs'
            cases hs'
    · rintro σ H' ⟨n, v4, v5, v6, v7, v8, v9, v10, v11, rfl, s, Hf, ks, rs, h1, h2, h3, h4, h5, h6, h7, rfl⟩
      have ez : (S t.txt).cps.size = t.txt.length := S_len _
      rw [ez, List.take_length, hw] at h1
      cases h1
      obtain ⟨ks', v, rfl, h6, hv⟩ := All2.unsnoc (ys := []) h6
      cases h6
      obtain ⟨a, rfl, ha⟩ := hv
      refine ⟨_, rfl, k, [.ref a], rfl, .inl (sqL h4), rfl, _, rfl, ?_⟩
      refine ⟨_, rfl, k, [.ref a], 0, _, rfl, rfl, sqL h4, rfl, a, _, 0, _, rfl, rfl, sqT (h3.s _ _ ha), rfl, rfl, _, rfl, ?_⟩
      have e0 : decide (V.str (wdS (node5 t 0 0).wd) = V.str "open") = false := by
        rw [wd_open, decide_eq_false (node5_wd t 0 0)]
      rw [e0]
      refine ⟨_, rfl, ?_⟩
      exact q H' r rs (h2.trans h3.s) hr0 h5 (h7.mono fun _ _ z => z.mono h3.s)
end
end Ls
/-! lastside.trees: the ways -/
namespace Ls
open PySem PySem.Spec PyProof.Rows L2
/-- what stands still while the things at the addresses of L change -/
structure Fzl (L : List Addr) (Hf H : Hp) : Prop where
  s : Same Hf H
  free : ∀ a ∈ L, Hf a = none
  at_ : ∀ a ∈ L, H a ≠ none
theorem Fzl.new {L : List Addr} {Hf H : Hp} {p : Addr} (f : Fzl L Hf H) (o : HO) (hp : H p = none) : Fzl L (upd Hf p o) (upd H p o) := by
  have ne : ∀ a ∈ L, a ≠ p := fun a ha e => f.at_ a ha (e ▸ hp)
  exact ⟨upd_both p o f.s, fun a ha => by rw [upd_ne (ne a ha)]; exact f.free a ha, fun a ha => by rw [upd_ne (ne a ha)]; exact f.at_ a ha⟩
theorem Fzl.sub {L : List Addr} {Hf H : Hp} {p : Addr} (f : Fzl L Hf H) (o : HO) (hp : H p = none) : Same Hf (upd Hf p o) := same_new (Same.refl Hf) (f.s.free hp)
theorem Fzl.go {L : List Addr} {Hf H H' : Hp} (f : Fzl L Hf H) (s : Same H H') : Fzl L Hf H' := ⟨f.s.trans s, f.free, fun a ha e => by
  cases h : H a with
  | none => exact f.at_ a ha h
  | some o => rw [s _ _ h] at e; cases e⟩
theorem Fzl.put {L : List Addr} {Hf H : Hp} {k : Addr} (f : Fzl L Hf H) (hk : k ∈ L) (o : HO) : Fzl L Hf (upd H k o) := ⟨same_put f.s (f.free k hk), f.free, fun a ha e => by
  by_cases c : a = k
  · subst c
    rw [upd_same] at e
    cases e
  · rw [upd_ne c] at e
    exact f.at_ a ha e⟩
/-- a new thing that may change -/
theorem Fzl.add {L : List Addr} {Hf H : Hp} {p : Addr} (f : Fzl L Hf H) (o : HO) (hp : H p = none) : Fzl (p :: L) Hf (upd H p o) := by
  have ne : ∀ a ∈ L, a ≠ p := fun a ha e => f.at_ a ha (e ▸ hp)
  refine ⟨same_put f.s (f.s.free hp), fun a ha => ?_, fun a ha => ?_⟩
  · rcases List.mem_cons.mp ha with e | h
    · rw [e]; exact f.s.free hp
    · exact f.free a h
  · rcases List.mem_cons.mp ha with e | h
    · rw [e, upd_same]; intro z; cases z
    · rw [upd_ne (ne a h)]; exact f.at_ a h
theorem Fzl.nil (H : Hp) : Fzl [] H H := ⟨Same.refl H, (fun _ h => nomatch h), (fun _ h => nomatch h)⟩
theorem Fzl.ne {L : List Addr} {Hf H : Hp} {a p : Addr} (f : Fzl L Hf H) (ha : a ∈ L) (hp : H p = none) : a ≠ p := fun e => f.at_ a ha (e ▸ hp)
namespace Tr
def lays : Tr → Nat → List (Nat × Bool) → List (List (Nat × Bool))
  | dot, _, w => [w]
  | node l r, o, w => l.lays o (w ++ [(o + l.slots - 1, true)]) ++ r.lays (o + l.slots) (w ++ [(o + l.slots - 1, false)])
theorem lays_eq : ∀ (t : Tr) (o : Nat) (w : List (Nat × Bool)), t.lays o w = (List.range t.slots).map fun i => w ++ t.way o (o + i)
  | dot, o, w => by
    show [w] = [w ++ []]
    rw [List.append_nil]
  | node l r, o, w => by
    have p1 := slots_pos l
    show l.lays o _ ++ r.lays (o + l.slots) _ = (List.range (l.slots + r.slots)).map _
    rw [lays_eq l, lays_eq r, List.range_add, List.map_append, List.map_map]
    congr 1
    · refine List.map_congr_left fun i hi => ?_
      have h := List.mem_range.mp hi
      show w ++ [(o + l.slots - 1, true)] ++ l.way o (o + i) = w ++ (if o + i < o + l.slots then (o + l.slots - 1, true) :: l.way o (o + i) else _)
      rw [if_pos (by omega), List.append_assoc]
      rfl
    · refine List.map_congr_left fun i hi => ?_
      show w ++ [(o + l.slots - 1, false)] ++ r.way (o + l.slots) (o + l.slots + i) = w ++ (if o + (l.slots + i) < o + l.slots then _ else (o + l.slots - 1, false) :: r.way (o + l.slots) (o + (l.slots + i)))
      rw [if_neg (by omega), List.append_assoc, ← Nat.add_assoc]
      rfl
theorem lays_len (t : Tr) (o : Nat) (w : List (Nat × Bool)) : (t.lays o w).length = t.slots := by rw [lays_eq, List.length_map, List.length_range]
theorem lays_ways (t : Tr) : t.lays 0 [] = t.ways := by
  rw [lays_eq]
  unfold ways
  refine List.map_congr_left fun i _ => ?_
  rw [List.nil_append, Nat.zero_add]
end Tr
/-- a pending tree: its first slot, the way to it -/
abbrev Pn := Tr × Nat × List (Nat × Bool)
def Pn.lays (p : Pn) : List (List (Nat × Bool)) := p.1.lays p.2.1 p.2.2
def pMeas (ps : List Pn) : Nat := (ps.map fun p => 2 * p.1.slots - 1).sum
section
variable {P : Program} {w : World} {K : PySem.W.Frag} {mg : Str → Option Value} {base : Heap}
def PnAt (K : PySem.W.Frag) (H : Hp) (v : V) (p : Pn) : Prop := ∃ (a : Addr) (nv wv : V), v = .ref a ∧ H a = some (.tup [nv, wv]) ∧ Dp K H nv (ndD (p.1.nd p.2.1)) ∧ Dp K H wv (wayD p.2.2)
theorem PnAt.mono {H H' : Hp} {v : V} {p : Pn} (s : Same H H') (h : PnAt K H v p) : PnAt K H' v p := by
  obtain ⟨a, nv, wv, e, h, h1, h2⟩ := h
  exact ⟨a, nv, wv, e, s _ _ h, dp_mono s h1, dp_mono s h2⟩
theorem cat_way {H Hf : Hp} {L : List Addr} {wv : V} {b c : Addr} {wl : List (Nat × Bool)} {f : Nat} {sd : Bool} {Q : VK} (fz : Fzl L Hf H) (hw : Dp K Hf wv (wayD wl)) (hz : wl.length < 1000) (hb : Hf b = some (.tup [.ref c])) (hc : Hf c = some (.tup [.int (f : Nat), .str (sideS sd)]))
    (q : ∀ v H' Hf', Same H H' → Same Hf Hf' → Fzl L Hf' H' → Dp K Hf' v (wayD (wl ++ [(f, sd)])) → Q v H') : rCatA K wv (.ref b) H Q := by
  have hstep : Dp K Hf (.ref c) (stepD (f, sd)) := .tup (sqT hc) (.cons (.int _) (.cons (.str _) .nil))
  obtain ⟨a, xs, rfl, ha, hxs⟩ := dp_tup hw
  have hl : xs.length = wl.length := by rw [dpAll_len hxs, List.length_map]
  have h1000 := small1000 (n := 1000) (Nat.le_refl _)
  refine ⟨a, b, xs, [.ref c], rfl, rfl, sqt fz.s ha, sqT (fz.s _ _ hb), by simp only [List.length_cons, List.length_nil]; omega, fun e => ?_, (fun _ e => by cases e), fun _ _ p hp => ?_⟩
  · subst e
    have : wl = [] := List.length_eq_zero_iff.mp hl.symm
    subst this
    exact q _ _ _ (Same.refl H) (Same.refl Hf) fz (.tup (sqT hb) (.cons hstep .nil))
  · refine q _ _ _ (same_new (Same.refl H) hp) (fz.sub _ hp) (fz.new _ hp) (.tup (sqT upd_same) ?_)
    rw [List.map_append]
    exact dpAll_mono (fz.sub _ hp) (dpAll_app hxs (.cons hstep .nil))
def spLay : Sp := fun vs H Q _ => ∃ (t : Tr) (vt vl vr : V), vs = [vt, vl, vr] ∧ t.slots ≤ 64 ∧ Dp K H vt (ndD (t.nd 0)) ∧ Dp K H vl (.tuple ((t.kids 0).map fun k => ndD k.1)) ∧ Dp K H vr (.tuple ((t.kids 0).map fun k => ndD k.2)) ∧
  ∀ H' p x y, Same H H' → H' p = some (.tup [x, y]) → Dp K H' y (.tuple (t.ways.map wayD)) → Q (.ref p) H'
theorem pm_cons (p : Pn) (ps : List Pn) : pMeas (p :: ps) = 2 * p.1.slots - 1 + pMeas ps := rfl
theorem pm_len : ∀ ps : List Pn, ps.length ≤ pMeas ps
  | [] => Nat.le_refl _
  | p :: ps => by
    have := pm_len ps
    have h := Tr.slots_pos p.1
    rw [pm_cons, List.length_cons]
    omega
def LayInv (K : PySem.W.Frag) (t : Tr) (vl vr : V) (k pr wy : Addr) (H : Hp) (m : Nat) (H' : Hp) : Prop :=
  ∃ (Hf : Hp) (ps : List Pn) (ks pv wv : List V) (ws : List (List (Nat × Bool))), m = pMeas ps ∧ Same H Hf ∧ Fzl [k, wy, pr] Hf H' ∧ H' k = some (.lst ks) ∧ H' pr = some (.lst pv) ∧ H' wy = some (.lst wv) ∧
    All2 (PnAt K Hf) ks ps.reverse ∧ DpAll K Hf wv (ws.map wayD) ∧ pv.length + pMeas ps ≤ 2 * t.slots ∧ ws ++ ps.flatMap Pn.lays = t.ways ∧ ∀ p ∈ ps, KidsOk (t.kids 0) p.1 p.2.1 ∧ p.2.1 + p.1.slots ≤ t.slots ∧ p.2.2.length + p.1.slots ≤ t.slots
theorem ok_p_lay_ways (T : TX K mg) : FnOk P w K mg base CX0 1 T.p_lay_ways.f T.p_lay_ways.fd ["root", "lefts", "rights"] (spLay (K := K)) := by
  refine T.p_lay_ways.F.ok sc_p_lay_ways (fun vs H Q E h => ?_) (fun cdv A outer s H vs Q E hr h => ?_)
  · obtain ⟨t, vt, vl, vr, rfl, _⟩ := h
    rfl
  · obtain ⟨t, vt, vl, vr, rfl, h64, dt, dl, dr, q⟩ := h
    refine ⟨_, (pss_cons (ps_set (i := 3) sc_p_lay_ways.nd rfl (by first | exact .inl rfl | exact .inr rfl) (pe_lst pa_nil))
      (pss_cons (ps_set (i := 4) sc_p_lay_ways.nd rfl (by first | exact .inl rfl | exact .inr rfl) (pe_lst pa_nil))
      (pss_cons (ps_set (i := 5) sc_p_lay_ways.nd rfl (by first | exact .inl rfl | exact .inr rfl) (pe_lst (pa_cons (pe_tup (pa_cons (pv 0) (pa_cons (pe_tup pa_nil) pa_nil))) pa_nil)))
      (pss_cons (ps_while PassesOwn.never (pt_truth (pv 5) (by intro _; rfl))
        (pss_cons (ps_asg (pe_bm0 PySem.F.plainAttrs_list PySem.F.slot_list_pop PySem.F.type_list_pop mt_pop (pv 5)) (pg_tup rfl (pgs_cons (pg_tup rfl (pgs_cons (pg_name (i := 6) sc_p_lay_ways.nd rfl (by first | exact .inl rfl | exact .inr rfl)) (pgs_cons (pg_name (i := 7) sc_p_lay_ways.nd rfl (by first | exact .inl rfl | exact .inr rfl)) pgs_nil))) (pgs_cons (pg_name (i := 8) sc_p_lay_ways.nd rfl (by first | exact .inl rfl | exact .inr rfl)) pgs_nil))))
      (pss_one (ps_if (pt_cmpR op_eq (pv 6) pe_str (nomark _))
        (pss_one (ps_expr (pe_bm PySem.F.plainAttrs_list PySem.F.slot_list_append PySem.F.type_list_append mt_append (pv 4) (pa_cons (pv 8) pa_nil))))
        (pss_cons (ps_expr (pe_bm PySem.F.plainAttrs_list PySem.F.slot_list_append PySem.F.type_list_append mt_append (pv 3) (pa_cons (pv 7) pa_nil)))
      (pss_cons (ps_expr (pe_bm PySem.F.plainAttrs_list PySem.F.slot_list_append PySem.F.type_list_append mt_append (pv 5) (pa_cons (pe_tup (pa_cons (pe_ix ix_tup (pv 2) (pv 7) (fun _ _ => rfl)) (pa_cons (pe_op op_catA (pv 8) (pe_tup (pa_cons (pe_tup (pa_cons (pv 7) (pa_cons pe_str pa_nil))) pa_nil))) pa_nil))) pa_nil)))
      (pss_one (ps_expr (pe_bm PySem.F.plainAttrs_list PySem.F.slot_list_append PySem.F.type_list_append mt_append (pv 5) (pa_cons (pe_tup (pa_cons (pe_ix ix_tup (pv 1) (pv 7) (fun _ _ => rfl)) (pa_cons (pe_op op_catA (pv 8) (pe_tup (pa_cons (pe_tup (pa_cons (pv 7) (pa_cons pe_str pa_nil))) pa_nil))) pa_nil))) pa_nil))))))))))
      (pss_one (ps_ret (pe_tup (pa_cons (pe_callTy call_tuple_of (by rfl) T.b_tuple (by decide +kernel) (pa_cons (pv 3) pa_nil)) (pa_cons (pe_callTy call_tuple_of (by rfl) T.b_tuple (by decide +kernel) (pa_cons (pv 4) pa_nil)) pa_nil))))))))), ?_⟩
    refine ⟨Nat.zero_le _, fun pr hpr => ⟨Nat.zero_le _, fun wy hwy => ?_⟩⟩
    have f1 := (Fzl.nil H).add (.lst []) hpr
    have f2 := f1.add (.lst []) hwy
    have a1 : (upd (upd H pr (.lst [])) wy (.lst [])) pr = some (.lst []) := by rw [upd_ne (f1.ne (List.mem_singleton.mpr rfl) hwy), upd_same]
    have a2 : (upd (upd H pr (.lst [])) wy (.lst [])) wy = some (.lst []) := upd_same
    generalize upd (upd H pr (.lst [])) wy (.lst []) = H1 at f2 a1 a2 ⊢
    refine ⟨_, rfl, Nat.zero_le _, fun e he => ⟨(by show 2 ≤ sizeLine; decide), fun b hb => ⟨(by show 1 ≤ sizeLine; decide), fun k hk => ?_⟩⟩⟩
    have f3 := f2.new (.tup []) he
    have f4 := f3.new (.tup [vt, .ref e]) hb
    have s3 := f2.sub (.tup []) he
    have s4 := f3.sub (.tup [vt, .ref e]) hb
    have a1' := (same_new (same_new (Same.refl H1) he) hb (o := .tup [vt, .ref e])) _ _ a1
    have a2' := (same_new (same_new (Same.refl H1) he) hb (o := .tup [vt, .ref e])) _ _ a2
    have b1 := s4 _ _ (upd_same (a := e))
    have b2 : (upd (upd H e (.tup [])) b (.tup [vt, .ref e])) b = some (.tup [vt, .ref e]) := upd_same
    have s34 := s3.trans s4
    generalize upd (upd H e (.tup [])) b (.tup [vt, .ref e]) = Hf at f4 b1 b2 s34 ⊢
    have f5 := f4.add (.lst [.ref b]) hk
    have nkp : k ≠ pr := (f4.ne (by simp) hk).symm
    have nkw : k ≠ wy := (f4.ne (by simp) hk).symm
    have npw : pr ≠ wy := f1.ne (List.mem_singleton.mpr rfl) hwy
    refine ⟨fun m σ H' => ∃ v6 v7 v8, σ = [some vt, some vl, some vr, some (.ref pr), some (.ref wy), some (.ref k), v6, v7, v8] ∧ LayInv K t vl vr k pr wy H m H',
      ⟨_, none, none, none, rfl, Hf, [(t, 0, [])], _, _, _, [], rfl, s34, f5, upd_same, by rw [upd_ne nkp.symm]; exact a1', by rw [upd_ne nkw.symm]; exact a2', .cons ⟨b, vt, .ref e, rfl, b2, dp_mono s34 dt, .tup (sqT b1) .nil⟩ .nil, .nil, ?_, ?_, ?_⟩, ?_⟩
    · show 0 + (2 * t.slots - 1 + 0) ≤ _
      omega
    · show [] ++ (t.lays 0 [] ++ []) = _
      rw [List.append_nil, List.nil_append, Tr.lays_ways]
    · intro p hp
      rw [List.mem_singleton.mp hp]
      refine ⟨KidsOk.self t, ?_, ?_⟩
      · show 0 + t.slots ≤ _
        omega
      · show 0 + t.slots ≤ _
        omega
    rintro m σ H' ⟨v6, v7, v8, rfl, Hf, ps, ks, pv, wv, ws, rfl, g1, g2, g3, g4, g5, g6, g7, g8, g9, g10⟩
    have hww : wv.length = ws.length := by rw [dpAll_len g7, List.length_map]
    have hwl : ws.length + (ps.flatMap Pn.lays).length = t.slots := by
      rw [← List.length_append, g9]
      unfold Tr.ways
      rw [List.length_map, List.length_range]
    have z200 : 200 < sizeLine := small1000 (by decide)
    cases ps with
    | nil =>
      cases g6
      refine ⟨_, rfl, _, .inl ⟨_, sqL g3, rfl⟩, ?_⟩
      refine ⟨_, rfl, pr, pv, rfl, .inl ⟨sqL g4, fun l hl => ⟨_, rfl, wy, wv, rfl, .inl ⟨?_, fun l2 hl2 => ?_⟩⟩⟩⟩
      · exact sqL ((same_new (Same.refl H') hl) _ _ g5)
      · refine ⟨(by show 2 ≤ sizeLine; decide), fun c hc => ?_⟩
        have sA := same_new (Same.refl H') hl (o := .tup pv)
        have sB := same_new (Same.refl _) hl2 (o := .tup wv)
        have sC := same_new (Same.refl _) hc (o := .tup [.ref l, .ref l2])
        rw [show List.flatMap Pn.lays [] = [] from rfl, List.append_nil] at g9
        rw [g9] at g7
        exact q _ c _ _ ((((g1.trans g2.s).trans sA).trans sB).trans sC) upd_same (.tup (sqT (sC _ _ upd_same)) (dpAll_mono (((g2.s.trans sA).trans sB).trans sC) g7))
    | cons p ps =>
      rw [List.reverse_cons] at g6
      obtain ⟨ks', v, rfl, g6', hv⟩ := g6.unsnoc
      have hks : ks'.length = ps.length := by rw [g6'.len, List.length_reverse]
      have hpl := pm_len (p :: ps)
      rw [List.length_cons] at hpl
      have ek : (ks' ++ [v])[(ks' ++ [v]).length - 1]? = some v := by simp
      have dk : (ks' ++ [v]).dropLast = ks' := List.dropLast_concat
      have hne : (!(ks' ++ [v]).isEmpty) = true := by cases ks' <;> rfl
      refine ⟨_, rfl, _, .inl ⟨_, sqL g3, rfl⟩, ?_⟩
      rw [hne]
      obtain ⟨u, o, wl⟩ := p
      obtain ⟨a, nv, wyv, rfl, ha, dn, dw⟩ := hv
      obtain ⟨k1, k2, k3⟩ := g10 _ (List.mem_cons_self ..)
      have k1 : KidsOk (t.kids 0) u o := k1
      have k2 : o + u.slots ≤ t.slots := k2
      have k3 : wl.length + u.slots ≤ t.slots := k3
      have dn : Dp K Hf nv (ndD (u.nd o)) := dn
      have dw : Dp K Hf wyv (wayD wl) := dw
      refine ⟨fun σ' H2 => ∃ v6 v7 v8 m', m' < pMeas ((u, o, wl) :: ps) ∧ σ' = [some vt, some vl, some vr, some (.ref pr), some (.ref wy), some (.ref k), v6, v7, v8] ∧ LayInv K t vl vr k pr wy H m' H2,
        fun σ' H2 ⟨v6, v7, v8, m', z1, z2, z3⟩ => ⟨m', z1, v6, v7, v8, z2, z3⟩, ?_⟩
      refine ⟨_, rfl, .inl ⟨rfl, _, sqL g3⟩, k, _, _, rfl, rfl, g3, ek, ?_⟩
      rw [dk]
      have g2a := g2.put (k := k) (by simp) (.lst ks')
      have g3a : (upd H' k (.lst ks')) k = some (.lst ks') := upd_same
      have g4a : (upd H' k (.lst ks')) pr = some (.lst pv) := by rw [upd_ne nkp.symm]; exact g4
      have g5a : (upd H' k (.lst ks')) wy = some (.lst wv) := by rw [upd_ne nkw.symm]; exact g5
      generalize upd H' k (.lst ks') = H2 at g2a g3a g4a g5a ⊢
      obtain ⟨b', zs, rfl, hzs, dzs⟩ := dp_tup dn
      cases dzs with
      | cons z1 dzs =>
        cases dzs with
        | cons z2 dzs =>
          cases dzs
          cases dp_str z1
          cases dp_int z2
          refine ⟨a, _, rfl, sqT (g2a.s _ _ ha), rfl, _, _, rfl, b', _, rfl, sqt g2a.s hzs, rfl, _, _, rfl, _, _, rfl, rfl, _, _, rfl, rfl, ?_⟩
          refine ⟨_, rfl, rfl, _, rfl, ?_⟩
          cases u with
          | dot =>
            have e : decide (V.str (ndS ((Tr.dot).nd o)) = V.str "slot") = true := decide_eq_true rfl
            rw [e]
            refine ⟨_, rfl, .inl ⟨rfl, _, sqL g5a⟩, _, rfl, wy, wv, _, rfl, rfl, g5a, by omega, ?_⟩
            refine ⟨_, _, _, _, ?_, rfl, Hf, ps, ks', pv, wv ++ [wyv], ws ++ [wl], rfl, g1, g2a.put (k := wy) (by simp) _, by rw [upd_ne nkw]; exact g3a, by rw [upd_ne npw]; exact g4a, upd_same, g6', ?_, ?_, ?_, ?_⟩
            · rw [pm_cons]
              show _ < 2 * 1 - 1 + _
              omega
            · rw [List.map_append]
              exact dpAll_app g7 (.cons dw .nil)
            · rw [pm_cons] at g8
              omega
            · rw [List.append_assoc]
              exact g9
            · exact fun p hp => g10 p (List.mem_cons_of_mem _ hp)
          | node l r =>
            have e : decide (V.str (ndS ((Tr.node l r).nd o)) = V.str "slot") = false := by
              show decide (V.str "fork" = V.str "slot") = false
              decide +kernel
            rw [e]
            have p1 := Tr.slots_pos l
            have p2 := Tr.slots_pos r
            have k2 : o + (l.slots + r.slots) ≤ t.slots := k2
            have k3 : wl.length + (l.slots + r.slots) ≤ t.slots := k3
            have g8 : pv.length + (2 * (l.slots + r.slots) - 1 + pMeas ps) ≤ 2 * t.slots := g8
            have hpl : ps.length + 1 ≤ 2 * (l.slots + r.slots) - 1 + pMeas ps := hpl
            have kr := k1.root
            refine ⟨_, rfl, .inl ⟨rfl, _, sqL g4a⟩, _, rfl, pr, pv, _, rfl, rfl, g4a, by omega, ?_⟩
            have g2b := g2a.put (k := pr) (by simp) (.lst (pv ++ [.int ((Tr.node l r).nd o).2]))
            have g4b : (upd H2 pr (.lst (pv ++ [.int ((Tr.node l r).nd o).2]))) pr = some (.lst (pv ++ [.int ((Tr.node l r).nd o).2])) := upd_same
            have g3b : (upd H2 pr (.lst (pv ++ [.int ((Tr.node l r).nd o).2]))) k = some (.lst ks') := by rw [upd_ne nkp]; exact g3a
            have g5b : (upd H2 pr (.lst (pv ++ [.int ((Tr.node l r).nd o).2]))) wy = some (.lst wv) := by rw [upd_ne npw.symm]; exact g5a
            generalize upd H2 pr (.lst (pv ++ [.int ((Tr.node l r).nd o).2])) = H3 at g2b g3b g4b g5b ⊢
            obtain ⟨c, ys, y, rfl, hcs, hcl, hy, dy⟩ := tup_at dr (show ((t.kids 0).map fun k => ndD k.2)[o + l.slots - 1]? = some (ndD (r.nd (o + l.slots))) by rw [List.getElem?_map, kr]; rfl)
            obtain ⟨c', ys', y', rfl, hcs', hcl', hy', dy'⟩ := tup_at dl (show ((t.kids 0).map fun k => ndD k.1)[o + l.slots - 1]? = some (ndD (l.nd o)) by rw [List.getElem?_map, kr]; rfl)
            refine ⟨_, rfl, .inl ⟨rfl, _, sqL g3b⟩, ?_⟩
            refine ⟨_, rfl, _, rfl, c, ys, _, y, rfl, rfl, sqt (g1.trans g2b.s) hcs, at_of rfl hy, ?_⟩
            refine ⟨_, rfl, _, rfl, (by show 2 ≤ sizeLine; decide), fun q1R hq1R => ⟨(by show 1 ≤ sizeLine; decide), fun q2R hq2R => ?_⟩⟩
            have xRa := g2b.new (.tup [.int (((Tr.node l r).nd o).2 : Nat), .str "R"]) hq1R
            have xRb := xRa.new (.tup [.ref q1R]) hq2R
            have yRa := g2b.sub (.tup [.int (((Tr.node l r).nd o).2 : Nat), .str "R"]) hq1R
            have yRb := xRa.sub (.tup [.ref q1R]) hq2R
            have tRa : (upd (upd Hf q1R (.tup [.int (((Tr.node l r).nd o).2 : Nat), .str "R"])) q2R (.tup [.ref q1R])) q2R = some (.tup [.ref q1R]) := upd_same
            have tRb : (upd (upd Hf q1R (.tup [.int (((Tr.node l r).nd o).2 : Nat), .str "R"])) q2R (.tup [.ref q1R])) q1R = some (.tup [.int (((Tr.node l r).nd o).2 : Nat), .str (sideS false)]) := by rw [← R_str]; exact yRb _ _ upd_same
            have nR : Same H3 (upd (upd H3 q1R (.tup [.int (((Tr.node l r).nd o).2 : Nat), .str "R"])) q2R (.tup [.ref q1R])) := same_new (same_new (Same.refl H3) hq1R) hq2R
            have mR := yRa.trans yRb
            generalize upd (upd Hf q1R (.tup [.int (((Tr.node l r).nd o).2 : Nat), .str "R"])) q2R (.tup [.ref q1R]) = HfR at xRb tRa tRb mR
            generalize upd (upd H3 q1R (.tup [.int (((Tr.node l r).nd o).2 : Nat), .str "R"])) q2R (.tup [.ref q1R]) = HhR at xRb nR ⊢
            clear yRa yRb xRa hq1R hq2R
            refine cat_way (sd := false) xRb (dp_mono mR dw) (by omega) tRa tRb fun vR HgR HfgR uR ufR fzR dvR => ?_
            refine ⟨(by show 2 ≤ sizeLine; decide), fun q3R hq3R => ?_⟩
            have wR := fzR.new (.tup [y, vR]) hq3R
            have wsR := fzR.sub (.tup [y, vR]) hq3R
            have wnR : Same HgR (upd HgR q3R (.tup [y, vR])) := same_new (Same.refl _) hq3R
            have weR : (upd HfgR q3R (.tup [y, vR])) q3R = some (.tup [y, vR]) := upd_same
            generalize upd HfgR q3R (.tup [y, vR]) = HfzR at wR wsR weR
            generalize upd HgR q3R (.tup [y, vR]) = HzR at wR wnR ⊢
            have fullR := mR.trans (ufR.trans wsR)
            have fullhR := nR.trans (uR.trans wnR)
            have g3cR := fullhR _ _ g3b
            have g4cR := fullhR _ _ g4b
            have g5cR := fullhR _ _ g5b
            refine ⟨k, ks', _, rfl, rfl, g3cR, by (try simp only [List.length_append, List.length_singleton]); omega, ?_⟩
            have g2dR := wR.put (k := k) (by simp) (.lst (ks' ++ [.ref q3R]))
            have g3dR : (upd HzR k (.lst (ks' ++ [.ref q3R]))) k = some (.lst (ks' ++ [.ref q3R])) := upd_same
            have g4dR : (upd HzR k (.lst (ks' ++ [.ref q3R]))) pr = some (.lst (pv ++ [.int ((Tr.node l r).nd o).2])) := by rw [upd_ne nkp.symm]; exact g4cR
            have g5dR : (upd HzR k (.lst (ks' ++ [.ref q3R]))) wy = some (.lst wv) := by rw [upd_ne nkw.symm]; exact g5cR
            generalize upd HzR k (.lst (ks' ++ [.ref q3R])) = HyR at g2dR g3dR g4dR g5dR ⊢
            clear g3cR g4cR g5cR wR
            refine ⟨_, rfl, .inl ⟨rfl, _, sqL g3dR⟩, ?_⟩
            refine ⟨_, rfl, _, rfl, c', ys', _, y', rfl, rfl, sqt (g1.trans (fullR.trans g2dR.s)) hcs', at_of rfl hy', ?_⟩
            refine ⟨_, rfl, _, rfl, (by show 2 ≤ sizeLine; decide), fun q1L hq1L => ⟨(by show 1 ≤ sizeLine; decide), fun q2L hq2L => ?_⟩⟩
            have xLa := g2dR.new (.tup [.int (((Tr.node l r).nd o).2 : Nat), .str "L"]) hq1L
            have xLb := xLa.new (.tup [.ref q1L]) hq2L
            have yLa := g2dR.sub (.tup [.int (((Tr.node l r).nd o).2 : Nat), .str "L"]) hq1L
            have yLb := xLa.sub (.tup [.ref q1L]) hq2L
            have tLa : (upd (upd HfzR q1L (.tup [.int (((Tr.node l r).nd o).2 : Nat), .str "L"])) q2L (.tup [.ref q1L])) q2L = some (.tup [.ref q1L]) := upd_same
            have tLb : (upd (upd HfzR q1L (.tup [.int (((Tr.node l r).nd o).2 : Nat), .str "L"])) q2L (.tup [.ref q1L])) q1L = some (.tup [.int (((Tr.node l r).nd o).2 : Nat), .str (sideS true)]) := by rw [← L_str]; exact yLb _ _ upd_same
            have nL : Same HyR (upd (upd HyR q1L (.tup [.int (((Tr.node l r).nd o).2 : Nat), .str "L"])) q2L (.tup [.ref q1L])) := same_new (same_new (Same.refl HyR) hq1L) hq2L
            have mL := yLa.trans yLb
            generalize upd (upd HfzR q1L (.tup [.int (((Tr.node l r).nd o).2 : Nat), .str "L"])) q2L (.tup [.ref q1L]) = HfL at xLb tLa tLb mL
            generalize upd (upd HyR q1L (.tup [.int (((Tr.node l r).nd o).2 : Nat), .str "L"])) q2L (.tup [.ref q1L]) = HhL at xLb nL ⊢
            clear yLa yLb xLa hq1L hq2L
            refine cat_way (sd := true) xLb (dp_mono (fullR.trans mL) dw) (by omega) tLa tLb fun vL HgL HfgL uL ufL fzL dvL => ?_
            refine ⟨(by show 2 ≤ sizeLine; decide), fun q3L hq3L => ?_⟩
            have wL := fzL.new (.tup [y', vL]) hq3L
            have wsL := fzL.sub (.tup [y', vL]) hq3L
            have wnL : Same HgL (upd HgL q3L (.tup [y', vL])) := same_new (Same.refl _) hq3L
            have weL : (upd HfgL q3L (.tup [y', vL])) q3L = some (.tup [y', vL]) := upd_same
            generalize upd HfgL q3L (.tup [y', vL]) = HfzL at wL wsL weL
            generalize upd HgL q3L (.tup [y', vL]) = HzL at wL wnL ⊢
            have fullL := mL.trans (ufL.trans wsL)
            have fullhL := nL.trans (uL.trans wnL)
            have g3cL := fullhL _ _ g3dR
            have g4cL := fullhL _ _ g4dR
            have g5cL := fullhL _ _ g5dR
            refine ⟨k, (ks' ++ [.ref q3R]), _, rfl, rfl, g3cL, by (try simp only [List.length_append, List.length_singleton]); omega, ?_⟩
            have g2dL := wL.put (k := k) (by simp) (.lst ((ks' ++ [.ref q3R]) ++ [.ref q3L]))
            have g3dL : (upd HzL k (.lst ((ks' ++ [.ref q3R]) ++ [.ref q3L]))) k = some (.lst ((ks' ++ [.ref q3R]) ++ [.ref q3L])) := upd_same
            have g4dL : (upd HzL k (.lst ((ks' ++ [.ref q3R]) ++ [.ref q3L]))) pr = some (.lst (pv ++ [.int ((Tr.node l r).nd o).2])) := by rw [upd_ne nkp.symm]; exact g4cL
            have g5dL : (upd HzL k (.lst ((ks' ++ [.ref q3R]) ++ [.ref q3L]))) wy = some (.lst wv) := by rw [upd_ne nkw.symm]; exact g5cL
            generalize upd HzL k (.lst ((ks' ++ [.ref q3R]) ++ [.ref q3L])) = HyL at g2dL g3dL g4dL g5dL ⊢
            clear g3cL g4cL g5cL wL
            have sA := fullR.trans fullL
            refine ⟨_, _, _, _, ?_, rfl, HfzL, (l, o, wl ++ [(o + l.slots - 1, true)]) :: (r, o + l.slots, wl ++ [(o + l.slots - 1, false)]) :: ps, _, _, wv, ws, rfl, g1.trans sA, g2dL, g3dL, g4dL, g5dL, ?_, dpAll_mono sA g7, ?_, ?_, ?_⟩
            · rw [pm_cons, pm_cons, pm_cons]
              show 2 * l.slots - 1 + (2 * r.slots - 1 + pMeas ps) < 2 * (l.slots + r.slots) - 1 + pMeas ps
              omega
            · rw [List.reverse_cons, List.reverse_cons]
              exact ((g6'.mono fun _ _ z => z.mono sA).snoc ⟨q3R, y, vR, rfl, fullL _ _ weR, dp_mono (g1.trans sA) dy, dp_mono (wsR.trans fullL) dvR⟩).snoc ⟨q3L, y', vL, rfl, weL, dp_mono (g1.trans sA) dy', dp_mono wsL dvL⟩
            · rw [List.length_append, pm_cons, pm_cons, List.length_singleton]
              show pv.length + 1 + (2 * l.slots - 1 + (2 * r.slots - 1 + pMeas ps)) ≤ _
              omega
            · show ws ++ (l.lays o (wl ++ [(o + l.slots - 1, true)]) ++ (r.lays (o + l.slots) (wl ++ [(o + l.slots - 1, false)]) ++ ps.flatMap Pn.lays)) = _
              rw [← List.append_assoc (l.lays o (wl ++ [(o + l.slots - 1, true)]))]
              exact g9
            · intro p hp
              rcases List.mem_cons.mp hp with e | hp
              · subst e
                refine ⟨k1.left, ?_, ?_⟩
                · show o + l.slots ≤ _
                  omega
                · show (wl ++ [_]).length + l.slots ≤ _
                  rw [List.length_append, List.length_singleton]
                  omega
              · rcases List.mem_cons.mp hp with e | hp
                · subst e
                  refine ⟨k1.right, ?_, ?_⟩
                  · show o + l.slots + r.slots ≤ _
                    omega
                  · show (wl ++ [_]).length + r.slots ≤ _
                    rw [List.length_append, List.length_singleton]
                    omega
                · exact g10 p (List.mem_cons_of_mem _ hp)
end
end Ls
/-! lastside.trees: Tree.__init__ and least_depth -/
namespace Ls
open PySem PySem.Spec PyProof.Rows L2
section
variable {P : Program} {w : World} {K : PySem.W.Frag} {mg : Str → Option Value} {base : Heap}
theorem sqT_wo {H : Hp} {p a C dx : Addr} {fs : List (Str × V)} {xs : List V} (hp : H p = some (.ins C dx fs)) (h : SqT K H a xs) : SqT K (wo H p) a xs := by
  rcases h with (h | ⟨o, h⟩) | h
  · exact .inl (.inl (by rw [wo_ne (ne_of h hp (by intro z; cases z))]; exact h))
  · exact .inl (.inr ⟨o, by rw [wo_ne (ne_of h hp (by intro z; cases z))]; exact h⟩)
  · exact .inr h
theorem sqL_wo {H : Hp} {p a C dx : Addr} {fs : List (Str × V)} {xs : List V} (hp : H p = some (.ins C dx fs)) (h : SqL K H a xs) : SqL K (wo H p) a xs := by
  rcases h with (h | ⟨o, h⟩) | h
  · exact .inl (.inl (by rw [wo_ne (ne_of h hp (by intro z; cases z))]; exact h))
  · exact .inl (.inr ⟨o, by rw [wo_ne (ne_of h hp (by intro z; cases z))]; exact h⟩)
  · exact .inr h
mutual
/-- data do not stand in an instance -/
theorem dp_wo {H : Hp} {p C dx : Addr} {fs : List (Str × V)} (hp : H p = some (.ins C dx fs)) : ∀ {v : V} {d : PyData}, Dp K H v d → Dp K (wo H p) v d
  | _, _, .non => .non
  | _, _, .bl b => .bl b
  | _, _, .int i => .int i
  | _, _, .str x => .str x
  | _, _, .lst h a => .lst (sqL_wo hp h) (dpAll_wo hp a)
  | _, _, .tup h a => .tup (sqT_wo hp h) (dpAll_wo hp a)
theorem dpAll_wo {H : Hp} {p C dx : Addr} {fs : List (Str × V)} (hp : H p = some (.ins C dx fs)) : ∀ {vs : List V} {ds : List PyData}, DpAll K H vs ds → DpAll K (wo H p) vs ds
  | _, _, .nil => .nil
  | _, _, .cons h a => .cons (dp_wo hp h) (dpAll_wo hp a)
end
theorem tup_wo {H : Hp} {p a C dx : Addr} {fs : List (Str × V)} {xs : List V} (hp : H p = some (.ins C dx fs)) (h : H a = some (.tup xs)) : wo H p a = some (.tup xs) := by
  rw [wo_ne (ne_of h hp (by intro z; cases z))]; exact h
theorem RowAt.wo {H : Hp} {p C dx : Addr} {fs : List (Str × V)} {v : V} {r : Row} (hp : H p = some (.ins C dx fs)) (h : RowAt H v r) : RowAt (wo H p) v r := by
  obtain ⟨a, vl, vr, vs, vb, e, h, ⟨a1, e1, h1⟩, ⟨a2, e2, h2⟩, ⟨a3, e3, h3⟩, ⟨a4, e4, h4⟩⟩ := h
  exact ⟨a, vl, vr, vs, vb, e, tup_wo hp h, ⟨a1, e1, tup_wo hp h1⟩, ⟨a2, e2, tup_wo hp h2⟩, ⟨a3, e3, tup_wo hp h3⟩, ⟨a4, e4, tup_wo hp h4⟩⟩
def colV (H : Hp) (j : Nat) (v : V) : V := match v with
  | .ref a => match H a with
    | some (.tup zs) => zs.getD j .non
    | _ => .non
  | _ => .non
theorem colV_at {H : Hp} {a : Addr} {zs : List V} (j : Nat) (h : H a = some (.tup zs)) : colV H j (.ref a) = zs.getD j .non := by
  show (match H a with
    | some (.tup zs) => zs.getD j .non
    | _ => .non) = _
  rw [h]
theorem lc_col {v0 v1 v2 v3 v4 : Option V} {H1 W : Hp} {c D : Addr} {Qd : Hp → Prop} {xs : List V} {rs : List Row} {j : Nat} (hj : j < 5) (hr : All2 (RowAt W) xs rs) (s : Same W H1) (hc : H1 c = some (.lst xs)) (hD : H1 D = none) (hz : xs.length ≤ 1000)
    (hd : ∀ H', Same H1 H' → H' D = some (.lst (xs.map (colV W j))) → Qd H') :
    ∃ W : Nat → Nat → Hp → Prop, (∃ m, W 0 m (upd H1 D (.lst []))) ∧ ∀ i m H, W i m H →
      ((Itl K c).stop i H ∧ Qd H) ∨ ((Itl K c).go i H ∧ ∃ Nx : Hp → Prop, (∀ H', Nx H' → ∃ m', m' < m ∧ W (i + 1) m' H') ∧ ∀ x H', (Itl K c).yld i H x H' → (gName 4) x (wipe [v0, v1, v2, v3, v4] [4]) H' fun σ2 H2 => wipe σ2 [4] = wipe [v0, v1, v2, v3, v4] [4] ∧ tYes σ2 H2 fun b H3 =>
        if b = true then (tOp (rIxT K) (tVar 4) (tC (.int (j : Nat)))) σ2 H3 fun y H4 => ∃ acc, H4 D = some (.lst acc) ∧ acc.length < sizeLine ∧ Nx (upd H4 D (.lst (acc ++ [y]))) else Nx H3) := by
  refine lc_map (walk_list (K := K) (a := c) (xs := xs)) _ yAt (fun i => colV W j (xs.getD i .non)) (fun H' s' => sqL (s' _ _ hc)) hD hz (fun _ => rfl) ?_ ?_
  · intro i H' Q' hi s' q
    obtain ⟨r, _, a, vl, vr, vs, vb, e, ha, _⟩ := hr.get' (List.getElem?_eq_getElem hi)
    have e2 : xs.getD i .non = .ref a := by rw [List.getD_eq_getElem?_getD, List.getElem?_eq_getElem hi, e]; rfl
    rw [e2, colV_at j ha] at q
    rw [e2]
    refine ⟨_, rfl, a, _, (j : Nat), _, rfl, rfl, sqT (s' _ _ (s _ _ ha)), at_of (j := j) rfl ?_, q H' (Same.refl _)⟩
    rw [List.getD_eq_getElem?_getD, List.getElem?_eq_getElem (show j < [V.int r.fork, vl, vr, vs, vb].length from hj)]
    rfl
  · intro H' s' e
    rw [range_map_of (g := colV W j) fun i x hx => by rw [getD_at hx]] at e
    exact hd H' s' e
theorem nd_dp {H : Hp} {v : V} {n : Nd} (h : NdAt H v n) : Dp K H v (ndD n) := by
  obtain ⟨a, rfl, h⟩ := h
  exact .tup (sqT h) (.cons (.str _) (.cons (.int _) .nil))
theorem sp_dp {H : Hp} {v : V} {n : Nat × Nat} (h : SpAt H v n) : Dp K H v (spD n) := by
  obtain ⟨a, rfl, h⟩ := h
  exact .tup (sqT h) (.cons (.int _) (.cons (.int _) .nil))
theorem col1 {H : Hp} : ∀ {xs : List V} {rs : List Row}, All2 (RowAt H) xs rs → DpAll K H (xs.map (colV H 1)) (rs.map fun r => ndD r.left)
  | _, _, .nil => .nil
  | _, _, .cons ⟨a, vl, vr, vs, vb, e, h, h1, h2, h3, h4⟩ q => by
    subst e
    refine .cons ?_ (col1 q)
    rw [colV_at 1 h]
    exact nd_dp h1
theorem col2 {H : Hp} : ∀ {xs : List V} {rs : List Row}, All2 (RowAt H) xs rs → DpAll K H (xs.map (colV H 2)) (rs.map fun r => ndD r.right)
  | _, _, .nil => .nil
  | _, _, .cons ⟨a, vl, vr, vs, vb, e, h, h1, h2, h3, h4⟩ q => by
    subst e
    refine .cons ?_ (col2 q)
    rw [colV_at 2 h]
    exact nd_dp h2
theorem col3 {H : Hp} : ∀ {xs : List V} {rs : List Row}, All2 (RowAt H) xs rs → DpAll K H (xs.map (colV H 3)) (rs.map fun r => spD r.span)
  | _, _, .nil => .nil
  | _, _, .cons ⟨a, vl, vr, vs, vb, e, h, h1, h2, h3, h4⟩ q => by
    subst e
    refine .cons ?_ (col3 q)
    rw [colV_at 3 h]
    exact sp_dp h3
/-- the fork's number of a row -/
def keyV (H : Hp) (v : V) : Int := match colV H 0 v with
  | .int i => i
  | _ => 0
theorem keyV_row {H : Hp} {v : V} {r : Row} (h : RowAt H v r) : keyV H v = r.fork := by
  obtain ⟨a, vl, vr, vs, vb, rfl, h, _⟩ := h
  unfold keyV
  rw [colV_at 0 h]
  rfl
theorem all2_mem {α β : Type} {R : α → β → Prop} : ∀ {xs : List α} {ys : List β} {x : α}, All2 R xs ys → x ∈ xs → ∃ y, y ∈ ys ∧ R x y
  | _, _, _, .nil, h => nomatch h
  | _, _, _, .cons r a, h => by
    rcases List.mem_cons.mp h with e | h
    · subst e
      exact ⟨_, List.mem_cons_self .., r⟩
    · obtain ⟨y, hy, q⟩ := all2_mem a h
      exact ⟨y, List.mem_cons_of_mem _ hy, q⟩
theorem key_pair {H : Hp} : ∀ {xs : List V} {rs : List Row}, All2 (RowAt H) xs rs → xs.Pairwise (fun x y => keyV H x ≤ keyV H y) → rs.Pairwise (fun a b => a.fork ≤ b.fork)
  | _, _, .nil, _ => .nil
  | _, _, .cons (y := y) r a, h => by
    obtain ⟨h1, h2⟩ := List.pairwise_cons.mp h
    refine List.pairwise_cons.mpr ⟨fun b hb => ?_, key_pair a h2⟩
    obtain ⟨i, hi⟩ := List.mem_iff_getElem?.mp hb
    obtain ⟨x, hx, rx⟩ := a.get hi
    have := h1 x (List.mem_of_getElem? hx)
    rw [keyV_row r, keyV_row rx] at this
    omega
theorem key_inj {H : Hp} : ∀ {xs : List V} {rs : List Row}, All2 (RowAt H) xs rs → (rs.map (·.fork)).Nodup → ∀ x ∈ xs, ∀ y ∈ xs, keyV H x = keyV H y → x = y
  | _, _, .nil, _, x, h, _, _, _ => nomatch h
  | x0 :: xs0, r0 :: rs0, .cons r a, nd, x, hx, y, hy, e => by
    have nd' := List.nodup_cons.mp nd
    have no : ∀ z, z ∈ xs0 → keyV H z = keyV H x0 → False := fun z hz e => by
      obtain ⟨b, hb, rb⟩ := all2_mem a hz
      rw [keyV_row rb, keyV_row r] at e
      exact nd'.1 (List.mem_map.mpr ⟨b, hb, by show b.fork = r0.fork; omega⟩)
    rcases List.mem_cons.mp hx with e1 | h1
    · rcases List.mem_cons.mp hy with e2 | h2
      · rw [e1, e2]
      · rw [e1] at e
        exact (no y h2 e.symm).elim
    · rcases List.mem_cons.mp hy with e2 | h2
      · rw [e2] at e
        exact (no x h1 e).elim
      · exact key_inj a nd'.2 x h1 y h2 e
theorem rows_nodup (t : Tr) : ((t.rows 0 0).map (·.fork)).Nodup := by
  refine ((Tr.rows_perm t 0 0).map _).nodup_iff.mpr ?_
  rw [Tr.rowsIn_fork]
  have e : (List.range (t.slots - 1)).map (0 + ·) = List.range (t.slots - 1) := by
    rw [show (fun x : Nat => 0 + x) = id from funext fun x => Nat.zero_add x, List.map_id]
  rw [e]
  exact List.nodup_range
theorem rowsIn_sorted (t : Tr) : (t.rowsIn 0 0).Pairwise (fun a b => a.fork ≤ b.fork) := by
  have h : ((t.rowsIn 0 0).map (·.fork)).Pairwise (· ≤ ·) := by
    rw [Tr.rowsIn_fork]
    have e : (List.range (t.slots - 1)).map (0 + ·) = List.range (t.slots - 1) := by
      rw [show (fun x : Nat => 0 + x) = id from funext fun x => Nat.zero_add x, List.map_id]
    rw [e]
    exact List.pairwise_le_range
  exact List.pairwise_map.mp h
theorem rowsIn_nodup (t : Tr) : ((t.rowsIn 0 0).map (·.fork)).Nodup := ((Tr.rows_perm t 0 0).map _).nodup_iff.mp (rows_nodup t)
/-- the rows, sorted -/
theorem sorted_rowsIn {H : Hp} {t : Tr} {xs ys : List V} (a : All2 (RowAt H) xs (t.rows 0 0)) (p : ys.Perm xs) (pw : ys.Pairwise (fun x y => keyV H x ≤ keyV H y)) : All2 (RowAt H) ys (t.rowsIn 0 0) := by
  obtain ⟨rs, q, b⟩ := a.perm p
  have h1 := key_pair b pw
  rw [rows_uniq (q.trans (Tr.rows_perm t 0 0)) h1 (rowsIn_sorted t) (rowsIn_nodup t)] at b
  exact b
/-- the last row is the root's -/
theorem rows_root (t : Tr) : (t = .dot ∧ t.rows 0 0 = []) ∨ ∃ rs r, t.rows 0 0 = rs ++ [r] ∧ t.nd 0 = (true, r.fork) := by
  cases t with
  | dot => exact .inl ⟨rfl, rfl⟩
  | node l r => exact .inr ⟨_, _, rfl, rfl⟩
theorem rows_len (t : Tr) : (t.rows 0 0).length = t.slots - 1 := by rw [(Tr.rows_perm t 0 0).length_eq, Tr.rowsIn_len]
theorem root_val {v0 v1 v3 v4 : Option V} {H : Hp} {r : Addr} {rs : List V} {t : Tr} {Q : VK} (hr : H r = some (.lst rs)) (ha : All2 (RowAt H) rs (t.rows 0 0)) (q : ∀ e, H e = none → Q (.ref e) (upd H e (.tup [.str (ndS (t.nd 0)), .int ((t.nd 0).2 : Nat)]))) :
    tIf (fun σ H Q => tVar 2 σ H fun x H' => ∃ k, TruV K x H' k ∧ Q k H') (tTup (tCons (tC (.str "fork")) (tCons (tOp (rIxT K) (tOp (rIxL K) (tVar 2) (tUn (rU fun i => .int (-i)) (tC (.int 1)))) (tC (.int 0))) tNil))) (tTup (tCons (tC (.str "slot")) (tCons (tC (.int 0)) tNil))) [v0, v1, some (.ref r), v3, v4] H Q := by
  rcases rows_root t with ⟨e1, e2⟩ | ⟨rws, row, e1, e2⟩
  · rw [e2] at ha
    cases ha
    refine ⟨_, rfl, _, .inl ⟨_, sqL hr, rfl⟩, ?_⟩
    refine ⟨(by show 2 ≤ sizeLine; decide), fun e he => ?_⟩
    rw [e1] at q
    exact q e he
  · rw [e1] at ha
    obtain ⟨rs', v, rfl, _, hv⟩ := ha.unsnoc
    obtain ⟨a, vl, vr, vs, vb, rfl, h, _⟩ := hv
    have hne : (!(rs' ++ [V.ref a]).isEmpty) = true := by cases rs' <;> rfl
    refine ⟨_, rfl, _, .inl ⟨_, sqL hr, rfl⟩, ?_⟩
    rw [hne]
    refine ⟨_, rfl, 1, rfl, r, _, -1, .ref a, rfl, rfl, sqL hr, ?_, a, _, 0, _, rfl, rfl, sqT h, rfl, (by show 2 ≤ sizeLine; decide), fun e he => ?_⟩
    · unfold atI ixN
      rw [if_neg (by decide), if_pos (by rw [List.length_append, List.length_singleton]; omega)]
      rw [List.length_append, List.length_singleton, show ((-1 : Int) + ((rs'.length + 1 : Nat) : Int)).toNat = rs'.length by omega]
      exact List.getElem?_concat_length
    · rw [e2] at q
      exact q e he
def spTreeInit (X : TX K mg) : Sp := fun vs H Q _ => ∃ (H0 : Hp) (p dx : Addr) (t : Tr), vs = [.ref p, .str (S t.txt)] ∧ Same H0 H ∧ H0 p = none ∧ H p = some (.ins X.Tree.C dx []) ∧ t.slots ≤ 64 ∧ ∀ H', Same H0 H' → TreeAt X H' p t → Q .non H'
theorem ok_t_init (T : TX K mg) : FnOk P w K mg base CX0 3 T.t_init.f T.t_init.fd ["self", "text"] (spTreeInit T) := by
  refine T.t_init.F.ok sc_t_init (fun vs H Q E h => ?_) (fun cdv A outer s H vs Q E hr h => ?_)
  · obtain ⟨H0, p, dx, t, rfl, _⟩ := h
    rfl
  · obtain ⟨H0, p, dx, t, rfl, k0, hp0, hp, h64, q⟩ := h
    have htl := Tr.txt_len t
    have hrl := rows_len t
    have hrn := Tr.rowsIn_len t 0 0
    obtain ⟨mu, hmost⟩ := T.most
    refine ⟨_, (pss_cons (ps_set (i := 2) sc_t_init.nd rfl (by first | exact .inl rfl | exact .inr rfl) pe_non)
      (pss_cons (ps_if (PW.pt (pw_and (pt_val (pe_callB call_isi (by rfl) T.b_isinstance (by decide +kernel) (pa_cons (pv 1) (pa_cons (pe_bltn (by rfl) T.b_str (by decide +kernel) (v := .ty "str") rfl) pa_nil)))) (pw_and1 (pt_cmpR op_le (pe_callB call_len_str (by rfl) T.b_len (by decide +kernel) (pa_cons (pv 1) pa_nil)) (pe_op op_sub (pe_op op_mul pe_int (pe_con (pv 0) rfl)) pe_int) (nomark _)))))
        (pss_one (ps_set (i := 2) sc_t_init.nd rfl (by first | exact .inl rfl | exact .inr rfl) (pe_call (ok_p_read_forks T) (hr.mono (by decide)) (by rfl) T.p_read_forks.g T.p_read_forks.F.kp T.p_read_forks.b .nil pass0 (pa_cons (pv 1) pa_nil))))
        pss_nil)
      (pss_cons (ps_if (pt_cmpR op_isN (pv 2) pe_non (nomark _))
        (pss_one ps_never)
        pss_nil)
      (pss_cons (ps_set (i := 3) sc_t_init.nd rfl (by first | exact .inl rfl | exact .inr rfl) (pe_callB cr_sortedR (by rfl) T.b_sorted (by decide +kernel) (pa_cons (pv 2) pa_nil)))
      (pss_cons (ps_fld (pv 0) (pv 1) rfl)
      (pss_cons (ps_fld (pv 0) (pe_callTy call_tuple_of (by rfl) T.b_tuple (by decide +kernel) (pa_cons (pe_lc (own := [("row", 4)]) rfl sc_t_init.nd (pi_list (pv 3)) (blkOk_by (N := ["self", "text", "rows", "ascending", "row"]) (sc := defScope s_t_init) (by decide +kernel)) (fun _ _ _ _ _ => (pg_name (i := 4) sc_t_init.nd rfl (by first | exact .inl rfl | exact .inr rfl))) (fun _ _ _ _ _ => pts_nil) (fun _ _ _ _ _ => (pe_ix (ix_tupK (K := K) rfl) (pv 4) pe_int (fun _ _ => rfl)))) pa_nil)) rfl)
      (pss_cons (ps_fld (pv 0) (pe_callTy call_tuple_of (by rfl) T.b_tuple (by decide +kernel) (pa_cons (pe_lc (own := [("row", 4)]) rfl sc_t_init.nd (pi_list (pv 3)) (blkOk_by (N := ["self", "text", "rows", "ascending", "row"]) (sc := defScope s_t_init) (by decide +kernel)) (fun _ _ _ _ _ => (pg_name (i := 4) sc_t_init.nd rfl (by first | exact .inl rfl | exact .inr rfl))) (fun _ _ _ _ _ => pts_nil) (fun _ _ _ _ _ => (pe_ix (ix_tupK (K := K) rfl) (pv 4) pe_int (fun _ _ => rfl)))) pa_nil)) rfl)
      (pss_cons (ps_fld (pv 0) (pe_callTy call_tuple_of (by rfl) T.b_tuple (by decide +kernel) (pa_cons (pe_lc (own := [("row", 4)]) rfl sc_t_init.nd (pi_list (pv 3)) (blkOk_by (N := ["self", "text", "rows", "ascending", "row"]) (sc := defScope s_t_init) (by decide +kernel)) (fun _ _ _ _ _ => (pg_name (i := 4) sc_t_init.nd rfl (by first | exact .inl rfl | exact .inr rfl))) (fun _ _ _ _ _ => pts_nil) (fun _ _ _ _ _ => (pe_ix (ix_tupK (K := K) rfl) (pv 4) pe_int (fun _ _ => rfl)))) pa_nil)) rfl)
      (pss_cons (ps_fld (pv 0) (pe_callTy call_tuple_of (by rfl) T.b_tuple (by decide +kernel) (pa_cons (pe_lc (own := [("row", 4)]) rfl sc_t_init.nd (pi_list (pv 3)) (blkOk_by (N := ["self", "text", "rows", "ascending", "row"]) (sc := defScope s_t_init) (by decide +kernel)) (fun _ _ _ _ _ => (pg_name (i := 4) sc_t_init.nd rfl (by first | exact .inl rfl | exact .inr rfl))) (fun _ _ _ _ _ => pts_nil) (fun _ _ _ _ _ => (pe_ix (ix_tupK (K := K) rfl) (pv 4) pe_int (fun _ _ => rfl)))) pa_nil)) rfl)
      (pss_cons (ps_fld (pv 0) (pe_callTy call_tuple_of (by rfl) T.b_tuple (by decide +kernel) (pa_cons (pe_lc (own := [("row", 4)]) rfl sc_t_init.nd (pi_list (pv 2)) (blkOk_by (N := ["self", "text", "rows", "ascending", "row"]) (sc := defScope s_t_init) (by decide +kernel)) (fun _ _ _ _ _ => (pg_name (i := 4) sc_t_init.nd rfl (by first | exact .inl rfl | exact .inr rfl))) (fun _ _ _ _ _ => pts_nil) (fun _ _ _ _ _ => (pe_ix (ix_tupK (K := K) rfl) (pv 4) pe_int (fun _ _ => rfl)))) pa_nil)) rfl)
      (pss_cons (ps_fld (pv 0) (pe_ifExp (pt_truth (pv 2) (by intro _; rfl)) (pe_tup (pa_cons pe_str (pa_cons (pe_ix ix_tup (pe_ix ix_list (pv 2) (pe_un un_neg pe_int) (fun _ _ => rfl)) pe_int (fun _ _ => rfl)) pa_nil))) (pe_tup (pa_cons pe_str (pa_cons pe_int pa_nil)))) rfl)
      (pss_one (ps_asg (pe_call (ok_p_lay_ways T) (hr.mono (by decide)) (by rfl) T.p_lay_ways.g T.p_lay_ways.F.kp T.p_lay_ways.b .nil pass0 (pa_cons (pe_fld (pv 0) rfl) (pa_cons (pe_fld (pv 0) rfl) (pa_cons (pe_fld (pv 0) rfl) pa_nil)))) (pg_tup rfl (pgs_cons (pg_fld (pv 0)) (pgs_cons (pg_fld (pv 0)) pgs_nil)))))))))))))))), ?_⟩
    refine ⟨_, rfl, .str (S t.txt), .ty "str", .type "str", .type "str", true, rfl, .ty _, .base (.str _), kit_ty (by decide +kernel), true, rfl, iteT ?_⟩
    refine ⟨_, rfl, S t.txt, rfl, by rw [S_len]; exact Nat.le_of_lt (small1000 (by omega)), ?_⟩
    refine ⟨_, rfl, p, _, dx, _, _, mu, rfl, hp, T.Tree.cl, hmost, rfl, ?_⟩
    refine ⟨_, _, rfl, rfl, (.inl ⟨by decide, by decide⟩), _, _, rfl, rfl, _, _, rfl, rfl, _, rfl, ?_⟩
    have e0 : decide (((S t.txt).length : Int) ≤ 3 * 64 - 2) = true := decide_eq_true (by rw [S_len]; omega)
    rw [e0]
    refine iteT ?_
    refine ⟨_, rfl, t, rfl, h64, fun H1 r rs s1 hr1 hr hrows => ?_⟩
    have hp1 := s1 _ _ hp
    have hz : rs.length ≤ 63 := by rw [hrows.len, rows_len]; omega
    have z64 : 64 < sizeLine := small1000 (by decide)
    refine ⟨_, rfl, rfl, _, rfl, ?_⟩
    refine iteF ?_
    refine ⟨_, rfl, r, rs, keyV H1, rfl, sqL hr, fun x hx => ?_, key_inj hrows (rows_nodup t), fun ys c pys pw hc => ?_⟩
    · obtain ⟨row, _, hrow⟩ := all2_mem hrows hx
      obtain ⟨a, vl, vr, vs, vb, e, h, _⟩ := hrow
      refine ⟨a, [vl, vr, vs, vb], e, ?_⟩
      rw [e]
      unfold keyV
      rw [colV_at 0 h]
      exact h
    have hys := sorted_rowsIn hrows pys pw
    have hyl : ys.length ≤ 63 := by rw [pys.length_eq]; exact hz
    have s2 : Same H1 (upd H1 c (.lst ys)) := same_new (Same.refl H1) hc
    have hp2 := s2 _ _ hp1
    have hr2 := s2 _ _ hr
    have hys2 := hys.mono fun _ _ z => z.mono s2
    have hro2 := hrows.mono fun _ _ z => z.mono s2
    have hc2 : (upd H1 c (.lst ys)) c = some (.lst ys) := upd_same
    have k2 := k0.trans (s1.trans s2)
    generalize upd H1 c (.lst ys) = H2 at hp2 hr2 hys2 hro2 hc2 k2 ⊢
    clear hys hrows hr hp hp1
    have W0 : Fzl [p] (wo H2 p) H2 := ⟨wo_same, fun a ha => by rw [List.mem_singleton.mp ha]; exact wo_at, fun a ha e => by rw [List.mem_singleton.mp ha, hp2] at e; cases e⟩
    have K0 : Same H0 (wo H2 p) := wo_of k2 hp0
    have wys := hys2.mono fun _ _ z => z.wo hp2
    have wrs := hro2.mono fun _ _ z => z.wo hp2
    have wc : wo H2 p c = some (.lst ys) := by rw [wo_ne (ne_of hc2 hp2 (by intro z; cases z))]; exact hc2
    have wr : wo H2 p r = some (.lst rs) := by rw [wo_ne (ne_of hr2 hp2 (by intro z; cases z))]; exact hr2
    generalize wo H2 p = Wf at W0 K0 wys wrs wc wr
    clear hys2 hro2 hc2 hr2 k2
    refine ⟨_, rfl, _, rfl, p, _, dx, _, rfl, hp2, T.Tree.cl, T.nT_text, (by show 0 < 1000; decide), ?_⟩
    have W1 := W0.put (k := p) (by simp) (.ins T.Tree.C dx (putF "text" (.str (S t.txt)) []))
    have hp3 : (upd H2 p (.ins T.Tree.C dx (putF "text" (.str (S t.txt)) []))) p = _ := upd_same
    generalize upd H2 p (.ins T.Tree.C dx (putF "text" (.str (S t.txt)) [])) = H3 at W1 hp3 ⊢
    have wysl := hyl
    refine ⟨_, rfl, c, rfl, ⟨_, sqL (W1.s _ _ wc)⟩, fun D0 hD0 => lc_col (j := 1) (by decide) wys W1.s (W1.s _ _ wc) hD0 (by omega) fun J0 js0 je0 => ?_⟩
    refine ⟨D0, _, rfl, .inl ⟨sqL je0, fun l0 hl0 => ?_⟩⟩
    have X0 := W1.go js0
    have Y0 := X0.new (.tup (ys.map (colV Wf 1))) hl0
    have Z0 := X0.sub (.tup (ys.map (colV Wf 1))) hl0
    have V0 : (upd Wf l0 (.tup (ys.map (colV Wf 1)))) l0 = some (.tup (ys.map (colV Wf 1))) := upd_same
    have P0 := (same_new (Same.refl J0) hl0 (o := .tup (ys.map (colV Wf 1)))) _ _ (js0 _ _ hp3)
    generalize upd J0 l0 (.tup (ys.map (colV Wf 1))) = M0 at Y0 P0 ⊢
    generalize upd Wf l0 (.tup (ys.map (colV Wf 1))) = N0 at Y0 Z0 V0
    refine ⟨_, rfl, p, _, dx, _, rfl, P0, T.Tree.cl, T.nT_lefts, (by show 1 < 1000; decide), ?_⟩
    have U0 := Y0.put (k := p) (by simp) (.ins T.Tree.C dx (putF "lefts" (.ref l0) (putF "text" (.str (S t.txt)) [])))
    have Q0 : (upd M0 p (.ins T.Tree.C dx (putF "lefts" (.ref l0) (putF "text" (.str (S t.txt)) [])))) p = _ := upd_same
    generalize upd M0 p (.ins T.Tree.C dx (putF "lefts" (.ref l0) (putF "text" (.str (S t.txt)) []))) = O0 at U0 Q0 ⊢
    have wys0 := wys.mono fun _ _ z => z.mono Z0
    have wrs0 := wrs.mono fun _ _ z => z.mono Z0
    have wc0 := Z0 _ _ wc
    have wr0 := Z0 _ _ wr
    refine ⟨_, rfl, c, rfl, ⟨_, sqL (U0.s _ _ wc0)⟩, fun D1 hD1 => lc_col (j := 2) (by decide) wys0 U0.s (U0.s _ _ wc0) hD1 (by omega) fun J1 js1 je1 => ?_⟩
    refine ⟨D1, _, rfl, .inl ⟨sqL je1, fun l1 hl1 => ?_⟩⟩
    have X1 := U0.go js1
    have Y1 := X1.new (.tup (ys.map (colV N0 2))) hl1
    have Z1 := X1.sub (.tup (ys.map (colV N0 2))) hl1
    have V1 : (upd N0 l1 (.tup (ys.map (colV N0 2)))) l1 = some (.tup (ys.map (colV N0 2))) := upd_same
    have P1 := (same_new (Same.refl J1) hl1 (o := .tup (ys.map (colV N0 2)))) _ _ (js1 _ _ Q0)
    generalize upd J1 l1 (.tup (ys.map (colV N0 2))) = M1 at Y1 P1 ⊢
    generalize upd N0 l1 (.tup (ys.map (colV N0 2))) = N1 at Y1 Z1 V1
    refine ⟨_, rfl, p, _, dx, _, rfl, P1, T.Tree.cl, T.nT_rights, (by show 2 < 1000; decide), ?_⟩
    have U1 := Y1.put (k := p) (by simp) (.ins T.Tree.C dx (putF "rights" (.ref l1) (putF "lefts" (.ref l0) (putF "text" (.str (S t.txt)) []))))
    have Q1 : (upd M1 p (.ins T.Tree.C dx (putF "rights" (.ref l1) (putF "lefts" (.ref l0) (putF "text" (.str (S t.txt)) []))))) p = _ := upd_same
    generalize upd M1 p (.ins T.Tree.C dx (putF "rights" (.ref l1) (putF "lefts" (.ref l0) (putF "text" (.str (S t.txt)) [])))) = O1 at U1 Q1 ⊢
    have wys1 := wys0.mono fun _ _ z => z.mono Z1
    have wrs1 := wrs0.mono fun _ _ z => z.mono Z1
    have wc1 := Z1 _ _ wc0
    have wr1 := Z1 _ _ wr0
    refine ⟨_, rfl, c, rfl, ⟨_, sqL (U1.s _ _ wc1)⟩, fun D2 hD2 => lc_col (j := 3) (by decide) wys1 U1.s (U1.s _ _ wc1) hD2 (by omega) fun J2 js2 je2 => ?_⟩
    refine ⟨D2, _, rfl, .inl ⟨sqL je2, fun l2 hl2 => ?_⟩⟩
    have X2 := U1.go js2
    have Y2 := X2.new (.tup (ys.map (colV N1 3))) hl2
    have Z2 := X2.sub (.tup (ys.map (colV N1 3))) hl2
    have V2 : (upd N1 l2 (.tup (ys.map (colV N1 3)))) l2 = some (.tup (ys.map (colV N1 3))) := upd_same
    have P2 := (same_new (Same.refl J2) hl2 (o := .tup (ys.map (colV N1 3)))) _ _ (js2 _ _ Q1)
    generalize upd J2 l2 (.tup (ys.map (colV N1 3))) = M2 at Y2 P2 ⊢
    generalize upd N1 l2 (.tup (ys.map (colV N1 3))) = N2 at Y2 Z2 V2
    refine ⟨_, rfl, p, _, dx, _, rfl, P2, T.Tree.cl, T.nT_spans, (by show 3 < 1000; decide), ?_⟩
    have U2 := Y2.put (k := p) (by simp) (.ins T.Tree.C dx (putF "spans" (.ref l2) (putF "rights" (.ref l1) (putF "lefts" (.ref l0) (putF "text" (.str (S t.txt)) [])))))
    have Q2 : (upd M2 p (.ins T.Tree.C dx (putF "spans" (.ref l2) (putF "rights" (.ref l1) (putF "lefts" (.ref l0) (putF "text" (.str (S t.txt)) [])))))) p = _ := upd_same
    generalize upd M2 p (.ins T.Tree.C dx (putF "spans" (.ref l2) (putF "rights" (.ref l1) (putF "lefts" (.ref l0) (putF "text" (.str (S t.txt)) []))))) = O2 at U2 Q2 ⊢
    have wys2 := wys1.mono fun _ _ z => z.mono Z2
    have wrs2 := wrs1.mono fun _ _ z => z.mono Z2
    have wc2 := Z2 _ _ wc1
    have wr2 := Z2 _ _ wr1
    refine ⟨_, rfl, c, rfl, ⟨_, sqL (U2.s _ _ wc2)⟩, fun D3 hD3 => lc_col (j := 4) (by decide) wys2 U2.s (U2.s _ _ wc2) hD3 (by omega) fun J3 js3 je3 => ?_⟩
    refine ⟨D3, _, rfl, .inl ⟨sqL je3, fun l3 hl3 => ?_⟩⟩
    have X3 := U2.go js3
    have Y3 := X3.new (.tup (ys.map (colV N2 4))) hl3
    have Z3 := X3.sub (.tup (ys.map (colV N2 4))) hl3
    have V3 : (upd N2 l3 (.tup (ys.map (colV N2 4)))) l3 = some (.tup (ys.map (colV N2 4))) := upd_same
    have P3 := (same_new (Same.refl J3) hl3 (o := .tup (ys.map (colV N2 4)))) _ _ (js3 _ _ Q2)
    generalize upd J3 l3 (.tup (ys.map (colV N2 4))) = M3 at Y3 P3 ⊢
    generalize upd N2 l3 (.tup (ys.map (colV N2 4))) = N3 at Y3 Z3 V3
    refine ⟨_, rfl, p, _, dx, _, rfl, P3, T.Tree.cl, T.nT_bounds, (by show 4 < 1000; decide), ?_⟩
    have U3 := Y3.put (k := p) (by simp) (.ins T.Tree.C dx (putF "bounds" (.ref l3) (putF "spans" (.ref l2) (putF "rights" (.ref l1) (putF "lefts" (.ref l0) (putF "text" (.str (S t.txt)) []))))))
    have Q3 : (upd M3 p (.ins T.Tree.C dx (putF "bounds" (.ref l3) (putF "spans" (.ref l2) (putF "rights" (.ref l1) (putF "lefts" (.ref l0) (putF "text" (.str (S t.txt)) []))))))) p = _ := upd_same
    generalize upd M3 p (.ins T.Tree.C dx (putF "bounds" (.ref l3) (putF "spans" (.ref l2) (putF "rights" (.ref l1) (putF "lefts" (.ref l0) (putF "text" (.str (S t.txt)) [])))))) = O3 at U3 Q3 ⊢
    have wys3 := wys2.mono fun _ _ z => z.mono Z3
    have wrs3 := wrs2.mono fun _ _ z => z.mono Z3
    have wc3 := Z3 _ _ wc2
    have wr3 := Z3 _ _ wr2
    refine ⟨_, rfl, r, rfl, ⟨_, sqL (U3.s _ _ wr3)⟩, fun D4 hD4 => lc_col (j := 0) (by decide) wrs3 U3.s (U3.s _ _ wr3) hD4 (by omega) fun J4 js4 je4 => ?_⟩
    refine ⟨D4, _, rfl, .inl ⟨sqL je4, fun l4 hl4 => ?_⟩⟩
    have X4 := U3.go js4
    have Y4 := X4.new (.tup (rs.map (colV N3 0))) hl4
    have Z4 := X4.sub (.tup (rs.map (colV N3 0))) hl4
    have V4 : (upd N3 l4 (.tup (rs.map (colV N3 0)))) l4 = some (.tup (rs.map (colV N3 0))) := upd_same
    have P4 := (same_new (Same.refl J4) hl4 (o := .tup (rs.map (colV N3 0)))) _ _ (js4 _ _ Q3)
    generalize upd J4 l4 (.tup (rs.map (colV N3 0))) = M4 at Y4 P4 ⊢
    generalize upd N3 l4 (.tup (rs.map (colV N3 0))) = N4 at Y4 Z4 V4
    refine ⟨_, rfl, p, _, dx, _, rfl, P4, T.Tree.cl, T.nT_postorder, (by show 5 < 1000; decide), ?_⟩
    have U4 := Y4.put (k := p) (by simp) (.ins T.Tree.C dx (putF "postorder" (.ref l4) (putF "bounds" (.ref l3) (putF "spans" (.ref l2) (putF "rights" (.ref l1) (putF "lefts" (.ref l0) (putF "text" (.str (S t.txt)) [])))))))
    have Q4 : (upd M4 p (.ins T.Tree.C dx (putF "postorder" (.ref l4) (putF "bounds" (.ref l3) (putF "spans" (.ref l2) (putF "rights" (.ref l1) (putF "lefts" (.ref l0) (putF "text" (.str (S t.txt)) [])))))))) p = _ := upd_same
    generalize upd M4 p (.ins T.Tree.C dx (putF "postorder" (.ref l4) (putF "bounds" (.ref l3) (putF "spans" (.ref l2) (putF "rights" (.ref l1) (putF "lefts" (.ref l0) (putF "text" (.str (S t.txt)) []))))))) = O4 at U4 Q4 ⊢
    have wys4 := wys3.mono fun _ _ z => z.mono Z4
    have wrs4 := wrs3.mono fun _ _ z => z.mono Z4
    have wc4 := Z4 _ _ wc3
    have wr4 := Z4 _ _ wr3
    have Z14 := Z1.trans (Z2.trans (Z3.trans Z4))
    have Z04 := Z0.trans Z14
    have dl : Dp K N4 (.ref l0) (.tuple ((t.kids 0).map fun k => ndD k.1)) := by
      rw [← Tr.rowsIn_kids t 0 0, List.map_map]
      exact .tup (sqT (Z14 _ _ V0)) (dpAll_mono Z04 (col1 wys))
    have dr : Dp K N4 (.ref l1) (.tuple ((t.kids 0).map fun k => ndD k.2)) := by
      rw [← Tr.rowsIn_kids t 0 0, List.map_map]
      exact .tup (sqT ((Z2.trans (Z3.trans Z4)) _ _ V1)) (dpAll_mono Z14 (col2 wys0))
    have ds : Dp K N4 (.ref l2) (.tuple ((t.spans 0).map spD)) := by
      rw [← Tr.rowsIn_spans t 0 0, List.map_map]
      exact .tup (sqT ((Z3.trans Z4) _ _ V2)) (dpAll_mono (Z2.trans (Z3.trans Z4)) (col3 wys1))
    have K4 := K0.trans Z04
    refine root_val (U4.s _ _ wr4) (wrs4.mono fun _ _ z => z.mono U4.s) fun e he => ?_
    have Y5 := U4.new (.tup [.str (ndS (t.nd 0)), .int ((t.nd 0).2 : Nat)]) he
    have Z5 := U4.sub (.tup [.str (ndS (t.nd 0)), .int ((t.nd 0).2 : Nat)]) he
    have V5 : (upd N4 e (.tup [.str (ndS (t.nd 0)), .int ((t.nd 0).2 : Nat)])) e = some (.tup [.str (ndS (t.nd 0)), .int ((t.nd 0).2 : Nat)]) := upd_same
    have P5 := (same_new (Same.refl O4) he (o := .tup [.str (ndS (t.nd 0)), .int ((t.nd 0).2 : Nat)])) _ _ Q4
    generalize upd O4 e (.tup [.str (ndS (t.nd 0)), .int ((t.nd 0).2 : Nat)]) = M5 at Y5 P5 ⊢
    generalize upd N4 e (.tup [.str (ndS (t.nd 0)), .int ((t.nd 0).2 : Nat)]) = N5' at Y5 Z5 V5
    refine ⟨_, rfl, p, _, dx, _, rfl, P5, T.Tree.cl, T.nT_root, (by show 6 < 1000; decide), ?_⟩
    have U5 := Y5.put (k := p) (by simp) (.ins T.Tree.C dx (putF "root" (.ref e) (putF "postorder" (.ref l4) (putF "bounds" (.ref l3) (putF "spans" (.ref l2) (putF "rights" (.ref l1) (putF "lefts" (.ref l0) (putF "text" (.str (S t.txt)) []))))))))
    have Q5 : (upd M5 p (.ins T.Tree.C dx (putF "root" (.ref e) (putF "postorder" (.ref l4) (putF "bounds" (.ref l3) (putF "spans" (.ref l2) (putF "rights" (.ref l1) (putF "lefts" (.ref l0) (putF "text" (.str (S t.txt)) []))))))))) p = _ := upd_same
    generalize upd M5 p (.ins T.Tree.C dx (putF "root" (.ref e) (putF "postorder" (.ref l4) (putF "bounds" (.ref l3) (putF "spans" (.ref l2) (putF "rights" (.ref l1) (putF "lefts" (.ref l0) (putF "text" (.str (S t.txt)) [])))))))) = O5 at U5 Q5 ⊢
    have dt : Dp K N5' (.ref e) (ndD (t.nd 0)) := .tup (sqT V5) (.cons (.str _) (.cons (.int _) .nil))
    have K5 := K4.trans Z5
    refine ⟨_, rfl, p, _, dx, _, _, rfl, Q5, T.Tree.cl, T.nT_root, rfl, _, rfl, p, _, dx, _, _, rfl, Q5, T.Tree.cl, T.nT_lefts, rfl, _, rfl, p, _, dx, _, _, rfl, Q5, T.Tree.cl, T.nT_rights, rfl, ?_⟩
    refine ⟨t, _, _, _, rfl, h64, dp_mono U5.s dt, dp_mono (Z5.trans U5.s) dl, dp_mono (Z5.trans U5.s) dr, fun J6 b x y js6 hb dy => ?_⟩
    have X6 := U5.go js6
    have P6 := js6 _ _ Q5
    refine ⟨b, _, rfl, sqT hb, rfl, x, _, rfl, _, rfl, p, _, dx, _, rfl, P6, T.Tree.cl, T.nT_preorder, (by show 7 < 1000; decide), ?_⟩
    refine ⟨y, _, rfl, _, rfl, p, _, dx, _, rfl, upd_same, T.Tree.cl, T.nT_ways, (by show 8 < 1000; decide), rfl, ?_⟩
    have dyw := dp_wo P6 dy
    have sfin : Same (wo J6 p) (upd (upd J6 p (.ins T.Tree.C dx (putF "preorder" x (putF "root" (.ref e) (putF "postorder" (.ref l4) (putF "bounds" (.ref l3) (putF "spans" (.ref l2) (putF "rights" (.ref l1) (putF "lefts" (.ref l0) (putF "text" (.str (S t.txt)) [])))))))))) p (.ins T.Tree.C dx (putF "ways" y (putF "preorder" x (putF "root" (.ref e) (putF "postorder" (.ref l4) (putF "bounds" (.ref l3) (putF "spans" (.ref l2) (putF "rights" (.ref l1) (putF "lefts" (.ref l0) (putF "text" (.str (S t.txt)) []))))))))))) := same_put (same_put wo_same wo_at) wo_at
    have dlw := dp_wo P6 (dp_mono (Z5.trans X6.s) dl)
    have drw := dp_wo P6 (dp_mono (Z5.trans X6.s) dr)
    have dsw := dp_wo P6 (dp_mono (Z5.trans X6.s) ds)
    have dtw := dp_wo P6 (dp_mono X6.s dt)
    refine q _ (same_put (same_put (K5.trans X6.s) hp0) hp0) ⟨⟨dx, _, .ref l0, .ref l1, .ref l2, .ref e, y, upd_same, rfl, rfl, rfl, rfl, rfl, rfl, dp_mono sfin dlw, dp_mono sfin drw, dp_mono sfin dsw, dp_mono sfin dtw, dp_mono sfin dyw⟩, h64⟩
end
end Ls
/-! The plain law: least depths, helpers. -/
namespace Ls
open PySem
namespace Tr
theorem least_le : ∀ (t : Tr) (o s : Nat), o ≤ s → s < o + t.slots → t.least ≤ (t.way o s).length
  | dot, _, _, _, _ => Nat.zero_le _
  | node l r, o, s, h1, h2 => by
    have h2 : s < o + (l.slots + r.slots) := h2
    show 1 + min l.least r.least ≤ (if s < o + l.slots then _ :: l.way o s else _ :: r.way (o + l.slots) s : List (Nat × Bool)).length
    by_cases c : s < o + l.slots
    · rw [if_pos c, List.length_cons]
      have := least_le l o s h1 c
      omega
    · rw [if_neg c, List.length_cons]
      have := least_le r (o + l.slots) s (by omega) (by omega)
      omega
theorem least_at : ∀ (t : Tr) (o : Nat), ∃ s, o ≤ s ∧ s < o + t.slots ∧ (t.way o s).length = t.least
  | dot, o => ⟨o, Nat.le_refl _, Nat.lt_succ_self _, rfl⟩
  | node l r, o => by
    have p1 := slots_pos l
    have p2 := slots_pos r
    by_cases c : l.least ≤ r.least
    · obtain ⟨s, h1, h2, h3⟩ := least_at l o
      refine ⟨s, h1, by show s < o + (l.slots + r.slots); omega, ?_⟩
      show (if s < o + l.slots then _ :: l.way o s else _ :: r.way (o + l.slots) s : List (Nat × Bool)).length = 1 + min l.least r.least
      rw [if_pos h2, List.length_cons, h3]
      omega
    · obtain ⟨s, h1, h2, h3⟩ := least_at r (o + l.slots)
      refine ⟨s, by omega, by show s < o + (l.slots + r.slots); omega, ?_⟩
      show (if s < o + l.slots then _ :: l.way o s else _ :: r.way (o + l.slots) s : List (Nat × Bool)).length = 1 + min l.least r.least
      rw [if_neg (by omega), List.length_cons, h3]
      omega
theorem least_lt : ∀ (t : Tr), t.least + 1 ≤ t.slots
  | dot => Nat.le_refl _
  | node l r => by
    have h1 := least_lt l
    have h2 := least_lt r
    show 1 + min l.least r.least + 1 ≤ l.slots + r.slots
    omega
/-- least is the minimum -/
theorem least_min (t : Tr) {m : Nat} (h1 : ∃ s, s < t.slots ∧ m = (t.way 0 s).length) (h2 : ∀ s, s < t.slots → m ≤ (t.way 0 s).length) : m = t.least := by
  obtain ⟨s, hs, rfl⟩ := h1
  obtain ⟨s', _, hs', e⟩ := least_at t 0
  have a := least_le t 0 s (Nat.zero_le _) (by omega)
  have b := h2 s' (by omega)
  omega
theorem spans_at : ∀ (t : Tr) (o i : Nat), i + 1 < t.slots → ∃ a b, (t.spans o)[i]? = some (a, b) ∧ o ≤ a ∧ a ≤ o + i ∧ o + i < b ∧ b < o + t.slots
  | dot, _, _, h => absurd h (by show ¬ _ < 1; omega)
  | node l r, o, i, h => by
    have p1 := slots_pos l
    have p2 := slots_pos r
    have h : i + 1 < l.slots + r.slots := h
    show ∃ a b, (l.spans o ++ _ :: r.spans (o + l.slots))[i]? = some (a, b) ∧ o ≤ a ∧ a ≤ o + i ∧ o + i < b ∧ b < o + (l.slots + r.slots)
    by_cases c1 : i + 1 < l.slots
    · obtain ⟨a, b, e, x⟩ := spans_at l o i c1
      exact ⟨a, b, by rw [List.getElem?_append_left (by rw [spans_len]; omega)]; exact e, by omega⟩
    · by_cases c2 : i + 1 = l.slots
      · refine ⟨o, o + (l.slots + r.slots) - 1, ?_, by omega⟩
        rw [List.getElem?_append_right (by rw [spans_len]; omega), spans_len, show i - (l.slots - 1) = 0 by omega]
        rfl
      · obtain ⟨a, b, e, x⟩ := spans_at r (o + l.slots) (i - l.slots) (by omega)
        refine ⟨a, b, ?_, by omega⟩
        rw [List.getElem?_append_right (by rw [spans_len]; omega), spans_len, show i - (l.slots - 1) = (i - l.slots) + 1 by omega, List.getElem?_cons_succ]
        exact e
/-- the first slot on the other side -/
def lowest (t : Tr) (p : Nat × Bool) : Nat := if p.2 = true then p.1 + 1 else ((t.spans 0).getD p.1 (0, 0)).1
def helpers (t : Tr) (s : Nat) : List Nat := (t.way 0 s).reverse.map t.lowest
/-- the same, by the tree -/
def helps : Tr → Nat → Nat → List Nat
  | dot, _, _ => []
  | node l r, o, s => if s < o + l.slots then (o + l.slots) :: l.helps o s else o :: r.helps (o + l.slots) s
theorem lowest_at (t : Tr) (p : Nat × Bool) (h : p.1 + 1 < t.slots) : t.lowest p < t.slots := by
  unfold lowest
  split
  · omega
  · obtain ⟨a, b, e, x⟩ := spans_at t 0 p.1 h
    rw [List.getD_eq_getElem?_getD, e]
    show a < _
    omega
theorem helps_eq (t : Tr) : ∀ (u : Tr) (o s : Nat), SpOk (t.spans 0) u o → (u.way o s).map t.lowest = u.helps o s
  | dot, _, _, _ => rfl
  | node l r, o, s, k => by
    have p1 := slots_pos l
    have kr := k.root
    unfold way helps
    by_cases c : s < o + l.slots
    · rw [if_pos c, if_pos c, List.map_cons, helps_eq t l o s k.left]
      congr 1
      show (if true = true then o + l.slots - 1 + 1 else _) = _
      rw [if_pos rfl]
      omega
    · rw [if_neg c, if_neg c, List.map_cons, helps_eq t r (o + l.slots) s k.right]
      congr 1
      show (if false = true then _ else ((t.spans 0).getD (o + l.slots - 1) (0, 0)).1) = _
      rw [if_neg Bool.false_ne_true, List.getD_eq_getElem?_getD, kr]
      rfl
theorem helpers_eq (t : Tr) (s : Nat) : t.helpers s = (t.helps 0 s).reverse := by
  unfold helpers
  rw [← helps_eq t t 0 s (SpOk.self t), List.map_reverse]
theorem helps_mem : ∀ (t : Tr) (o s h : Nat), o ≤ s → s < o + t.slots → h ∈ t.helps o s → o ≤ h ∧ h < o + t.slots ∧ h ≠ s
  | dot, _, _, _, _, _, hh => nomatch hh
  | node l r, o, s, h, h1, h2, hh => by
    have p1 := slots_pos l
    have p2 := slots_pos r
    have h2 : s < o + (l.slots + r.slots) := h2
    show o ≤ h ∧ h < o + (l.slots + r.slots) ∧ h ≠ s
    unfold helps at hh
    by_cases c : s < o + l.slots
    · rw [if_pos c] at hh
      rcases List.mem_cons.mp hh with e | hh
      · omega
      · have := helps_mem l o s h h1 c hh
        omega
    · rw [if_neg c] at hh
      rcases List.mem_cons.mp hh with e | hh
      · omega
      · have := helps_mem r (o + l.slots) s h (by omega) (by omega) hh
        omega
theorem helps_nodup : ∀ (t : Tr) (o s : Nat), o ≤ s → s < o + t.slots → (t.helps o s).Nodup
  | dot, _, _, _, _ => List.nodup_nil
  | node l r, o, s, h1, h2 => by
    have p1 := slots_pos l
    have p2 := slots_pos r
    have h2 : s < o + (l.slots + r.slots) := h2
    unfold helps
    by_cases c : s < o + l.slots
    · rw [if_pos c]
      refine List.nodup_cons.mpr ⟨fun hh => ?_, helps_nodup l o s h1 c⟩
      have := helps_mem l o s _ h1 c hh
      omega
    · rw [if_neg c]
      refine List.nodup_cons.mpr ⟨fun hh => ?_, helps_nodup r _ s (by omega) (by omega)⟩
      have := helps_mem r _ s _ (by omega) (by omega) hh
      omega
theorem helps_len : ∀ (t : Tr) (o s : Nat), (t.helps o s).length = (t.way o s).length
  | dot, _, _ => rfl
  | node l r, o, s => by
    unfold helps way
    by_cases c : s < o + l.slots
    · rw [if_pos c, if_pos c, List.length_cons, List.length_cons, helps_len l]
    · rw [if_neg c, if_neg c, List.length_cons, List.length_cons, helps_len r]
theorem helpers_len (t : Tr) (s : Nat) : (t.helpers s).length = (t.way 0 s).length := by rw [helpers_eq, List.length_reverse, helps_len]
theorem helpers_nodup (t : Tr) (s : Nat) (h : s < t.slots) : (t.helpers s).Nodup := by
  rw [helpers_eq]
  exact (List.reverse_perm _).nodup_iff.mpr (helps_nodup t 0 s (Nat.zero_le _) (by omega))
theorem helpers_mem (t : Tr) (s h : Nat) (hs : s < t.slots) (hh : h ∈ t.helpers s) : h < t.slots ∧ h ≠ s := by
  rw [helpers_eq] at hh
  have := helps_mem t 0 s h (Nat.zero_le _) (by omega) (List.mem_reverse.mp hh)
  omega
def shallows (t : Tr) : List Nat := (List.range t.slots).filter fun s => decide ((t.way 0 s).length = t.least)
def shallow (t : Tr) : Nat := t.shallows.headD 0
theorem shallow_at (t : Tr) : t.shallows[0]? = some t.shallow ∧ t.shallow < t.slots ∧ (t.way 0 t.shallow).length = t.least := by
  obtain ⟨s, _, hs, e⟩ := least_at t 0
  have hm : s ∈ t.shallows := List.mem_filter.mpr ⟨List.mem_range.mpr (by omega), decide_eq_true e⟩
  have h0 : t.shallows[0]? = some t.shallow := by
    unfold shallow
    cases q : t.shallows with
    | nil => rw [q] at hm; cases hm
    | cons a as => rfl
  have hm2 := List.mem_filter.mp (List.mem_of_getElem? h0)
  exact ⟨h0, List.mem_range.mp hm2.1, of_decide_eq_true hm2.2⟩
/-! ### forks above a slot; the flags after visits -/
def above (t : Tr) (o f s : Nat) : Bool := (t.way o s).any fun p => p.1 == f
end Tr
/-- digits -/
def dg (n : Nat) : List Nat := ((toString (n : Int) : Str)).cps.toList
theorem dg_str (n : Nat) : ((toString (n : Int) : Str)) = S (dg n) := (S_of _).symm
def enm (k : Nat) : Str := S (101 :: dg k)
theorem dg_inj : ∀ i, i < 64 → ∀ j, j < 64 → dg i = dg j → i = j := by decide +kernel
theorem enm_inj {i j : Nat} (hi : i < 64) (hj : j < 64) (h : enm i = enm j) : i = j := dg_inj i hi j hj (List.cons.inj (S_inj h)).2
theorem dg_ok : ∀ i, i < 1000 → (dg i).length ≤ 3 ∧ 1 ≤ (dg i).length ∧ ((dg i).all fun c => decide (c ∈ signs36)) = true := by decide +kernel
theorem ent_of (xs : List Nat) (n : Nat) (h : n < 1000) (h1 : xs.length ≤ 9) (h2 : (xs.all fun c => decide (c ∈ signs36)) = true) : Ent (S (xs ++ dg n)) := by
  obtain ⟨a, b, c⟩ := dg_ok n h
  refine ⟨?_, ?_, ?_⟩
  · rw [S_len, List.length_append]; omega
  · rw [S_len, List.length_append]; omega
  · rw [S_cps, List.all_append, h2, c]; rfl
theorem enm_ent {k : Nat} (h : k < 1000) : Ent (enm k) := ent_of [101] k h (by decide) (by decide +kernel)
namespace Tr
def thrE (t : Tr) : List Str := (List.range t.slots).map enm
def thrF (t : Tr) : List Bool := (t.helpers t.shallow ++ [t.shallow]).foldl (turn t) (List.replicate (t.slots - 1) true)
def thrA (t : Tr) : List Str := (t.helpers t.shallow).map enm ++ [("x" : Str)] ++ (t.helpers t.shallow).map enm ++ [enm t.shallow]
theorem thrE_nodup (t : Tr) (h : t.slots ≤ 64) : t.thrE.Nodup := by
  unfold thrE
  refine List.pairwise_map.mpr ?_
  refine List.Pairwise.imp_of_mem (fun {a b} ha hb hab e => ?_) (List.nodup_range (n := t.slots))
  have h1 := List.mem_range.mp ha
  have h2 := List.mem_range.mp hb
  exact hab (enm_inj (by omega) (by omega) e)
theorem thrE_ent (t : Tr) (h : t.slots ≤ 64) : ∀ e ∈ t.thrE, Ent e := by
  intro e he
  obtain ⟨k, hk, rfl⟩ := List.mem_map.mp he
  have := List.mem_range.mp hk
  exact enm_ent (by omega)
theorem thrE_len (t : Tr) : t.thrE.length = t.slots := by unfold thrE; rw [List.length_map, List.length_range]
theorem thrE_at (t : Tr) {k : Nat} (h : k < t.slots) : t.thrE[k]? = some (enm k) := by
  unfold thrE
  rw [List.getElem?_map, List.getElem?_range h]
  rfl
theorem foldl_turn_len (t : Tr) : ∀ (vs : List Nat) (F : List Bool), (vs.foldl (turn t) F).length = F.length
  | [], _ => rfl
  | v :: vs, F => by rw [List.foldl_cons, foldl_turn_len t vs, turn_len]
theorem thrF_len (t : Tr) : t.thrF.length = t.slots - 1 := by unfold thrF; rw [foldl_turn_len, List.length_replicate]
end Tr
end Ls
/-! lastside.staying -/
namespace Ls
open PySem PySem.Spec PyProof.Rows L2
theorem Tr.way_len : ∀ (t : Tr) (o s : Nat), (t.way o s).length + 1 ≤ t.slots
  | .dot, _, _ => Nat.le_refl _
  | .node l r, o, s => by
    have h1 := Tr.way_len l o s
    have h2 := Tr.way_len r (o + l.slots) s
    show (if s < o + l.slots then _ :: l.way o s else _ :: r.way (o + l.slots) s : List (Nat × Bool)).length + 1 ≤ l.slots + r.slots
    by_cases c : s < o + l.slots
    · rw [if_pos c, List.length_cons]; omega
    · rw [if_neg c, List.length_cons]; omega
section
variable {P : Program} {w : World} {K : PySem.W.Frag} {mg : Str → Option Value} {base : Heap}
theorem dp_len {H : Hp} {t : Tr} {a : Addr} {xs : List V} (d : DpAll K H xs (t.ways.map wayD)) : xs.length = t.slots := by
  rw [dpAll_len d, List.length_map]
  unfold Tr.ways
  rw [List.length_map, List.length_range]
theorem way_at {H : Hp} {t : Tr} {xs : List V} (d : DpAll K H xs (t.ways.map wayD)) {s : Nat} (hs : s < t.slots) : ∃ c ys, xs[s]? = some (.ref c) ∧ SqT K H c ys ∧ DpAll K H ys ((t.way 0 s).map stepD) := by
  have ew : (t.ways.map wayD)[s]? = some (wayD (t.way 0 s)) := by
    unfold Tr.ways
    rw [List.map_map, List.getElem?_map, List.getElem?_range hs]
    rfl
  obtain ⟨v, e, dv⟩ := dpAll_get d ew
  obtain ⟨c, ys, rfl, h1, h2⟩ := dp_tup dv
  exact ⟨c, ys, e, h1, h2⟩
theorem ok_t_least_depth (T : TX K mg) : FnOk P w K mg base CX0 1 T.t_least_depth.f T.t_least_depth.fd ["self"] (spTree T fun t => .int (t.least : Nat)) := by
  refine T.t_least_depth.F.ok sc_t_least_depth (fun vs H Q E h => ?_) (fun cdv A outer s H vs Q E hr h => ?_)
  · obtain ⟨a, t, rfl, _⟩ := h
    rfl
  · obtain ⟨a, t, rfl, ⟨⟨dx, fs, vl, vr, vs, vt, vw, h0, h1, h2, h3, h4, h5, h6, d1, d2, d3, d4, d5⟩, h7⟩, q⟩ := h
    refine ⟨_, (pss_one (ps_ret (pe_callB (cr_min rfl) (by rfl) T.b_min (by decide +kernel) (pa_cons (pe_lc (own := [("way", 1)]) rfl sc_t_least_depth.nd (pi_tup (pe_fld (pv 0) rfl)) (blkOk_by (N := ["self", "way"]) (sc := defScope s_t_least_depth) (by decide +kernel)) (fun _ _ _ _ _ => (pg_name (i := 1) sc_t_least_depth.nd rfl (by first | exact .inl rfl | exact .inr rfl))) (fun _ _ _ _ _ => pts_nil) (fun _ _ _ _ _ => (pe_callB (call_len_seqK (K := K) rfl) (by rfl) T.b_len (by decide +kernel) (pa_cons (pv 1) pa_nil)))) pa_nil)))), ?_⟩
    obtain ⟨b, xs, rfl, hs, ha⟩ := dp_tup d5
    have hxl := dp_len (a := b) ha
    refine ⟨_, rfl, a, _, dx, fs, _, rfl, h0, T.Tree.cl, T.nT_ways, h6, b, rfl, ⟨xs, hs⟩, fun D hD => lc_map (walk_tup (K := K) (a := b) (xs := xs)) _ yAt (fun i => .int ((t.way 0 i).length : Nat)) (fun H' s' => sqt s' hs) hD (by omega) (fun _ => rfl) ?_ ?_⟩
    · intro i H' Q' hi s' q'
      obtain ⟨c, ys, e1, e2, e3⟩ := way_at ha (s := i) (by omega)
      rw [getD_at e1]
      refine ⟨_, rfl, c, ys, rfl, .inr (sqt s' e2), ?_⟩
      rw [dpAll_len e3, List.length_map]
      exact q' H' (Same.refl _)
    · intro H' s' e
      refine ⟨D, (List.range xs.length).map fun i => ((t.way 0 i).length : Int), rfl, .inl (.inl (by rw [e, List.map_map]; rfl)), ?_, fun m hm hall => ?_⟩
      · rw [List.length_map, List.length_range, hxl]
        exact Tr.slots_pos t
      · obtain ⟨i, hi, rfl⟩ := List.mem_map.mp hm
        have hi := List.mem_range.mp hi
        have e2 : (t.way 0 i).length = t.least := Tr.least_min t ⟨i, by omega, rfl⟩ fun s hs2 => by
          have := hall _ (List.mem_map.mpr ⟨s, List.mem_range.mpr (by omega), rfl⟩)
          omega
        rw [e2]
        exact q H' s'
theorem ok_p_settling_size (T : TX K mg) : FnOk P w K mg base CX0 3 T.p_settling_size.f T.p_settling_size.fd ["tree"] (spTree T fun t => .int ((t.least + 1 : Nat) : Int)) := by
  refine T.p_settling_size.F.ok sc_p_settling_size (fun vs H Q E h => ?_) (fun cdv A outer s H vs Q E hr h => ?_)
  · obtain ⟨a, t, rfl, _⟩ := h
    rfl
  · obtain ⟨a, t, rfl, hT, q⟩ := h
    refine ⟨_, (pss_one (ps_ret (pe_op op_add (pe_prop (pv 0) T.Tree.cl T.t_least_depth.pr (ok_t_least_depth T) (hr.mono (by decide)) T.t_least_depth.b .nil pass0 rfl) pe_int))), ?_⟩
    obtain ⟨⟨dx, fs, _, _, _, _, _, h0, _⟩, h64⟩ := id hT
    exact ⟨_, rfl, a, dx, fs, rfl, h0, a, t, rfl, hT, fun H1 s1 => ⟨_, _, rfl, rfl, q H1 s1⟩⟩
def spLowest (X : TX K mg) : Sp := fun vs H Q _ => ∃ (a : Addr) (t : Tr) (f : Nat) (b : Bool), vs = [.ref a, .int f, .str (sideS b)] ∧ TreeAt X H a t ∧ f + 1 < t.slots ∧ Q (.int (t.lowest (f, b) : Nat)) H
theorem ok_p_lowest_across (T : TX K mg) : FnOk P w K mg base CX0 1 T.p_lowest_across.f T.p_lowest_across.fd ["tree", "fork", "side"] (spLowest T) := by
  refine T.p_lowest_across.F.ok sc_p_lowest_across (fun vs H Q E h => ?_) (fun cdv A outer s H vs Q E hr h => ?_)
  · obtain ⟨a, t, f, b, rfl, _⟩ := h
    rfl
  · obtain ⟨a, t, f, b, rfl, hT, hf, q⟩ := h
    refine ⟨_, (pss_cons (ps_if (pt_cmpR op_eq (pv 2) pe_str (nomark _))
        (pss_one (ps_ret (pe_op op_add (pv 1) pe_int)))
        pss_nil)
      (pss_one (ps_ret (pe_ix ix_tup (pe_ix ix_tup (pe_fld (pv 0) rfl) (pv 1) (fun _ _ => rfl)) pe_int (fun _ _ => rfl))))), ?_⟩
    refine ⟨_, rfl, rfl, _, rfl, ?_⟩
    cases b with
    | true =>
      have e : decide (V.str (sideS true) = V.str "L") = true := by decide +kernel
      rw [e]
      exact ⟨_, rfl, _, _, rfl, rfl, q⟩
    | false =>
      have e : decide (V.str (sideS false) = V.str "L") = false := by decide +kernel
      rw [e]
      obtain ⟨⟨dx, fs, vl, vr, vs, vt, vw, h0, h1, h2, h3, h4, h5, h6, d1, d2, d3, d4, d5⟩, h7⟩ := hT
      obtain ⟨lo, hi, e2, _⟩ := Tr.spans_at t 0 f hf
      obtain ⟨b, xs, x, rfl, hb, hbl, hx, dx'⟩ := tup_at d3 (show ((t.spans 0).map spD)[f]? = some (spD (lo, hi)) by rw [List.getElem?_map, e2]; rfl)
      obtain ⟨c, ys, rfl, hc, hcl⟩ := dp_tup dx'
      cases hcl with
      | cons z1 hcl =>
        cases hcl with
        | cons z2 hcl =>
          cases hcl
          cases dp_int z1
          have e3 : t.lowest (f, false) = lo := by
            show (if false = true then _ else ((t.spans 0).getD f (0, 0)).1) = _
            rw [if_neg Bool.false_ne_true, List.getD_eq_getElem?_getD, e2]
            rfl
          rw [e3] at q
          refine ⟨_, rfl, a, _, dx, fs, _, rfl, h0, T.Tree.cl, T.nT_spans, h4, _, rfl, b, xs, _, _, rfl, rfl, hb, at_of rfl hx, c, _, 0, _, rfl, rfl, hc, rfl, q⟩
def intsV (ns : List Nat) : List V := ns.map fun n => V.int (n : Nat)
def spHelpers (X : TX K mg) : Sp := fun vs H Q _ => ∃ (a : Addr) (t : Tr) (s : Nat), vs = [.ref a, .int s, .int ((t.way 0 s).length : Nat)] ∧ TreeAt X H a t ∧ s < t.slots ∧ ∀ H' p, Same H H' → H p = none → H' p = some (.lst (intsV (t.helpers s))) → Q (.ref p) H'
theorem ok_p_helpers (T : TX K mg) : FnOk P w K mg base CX0 2 T.p_helpers.f T.p_helpers.fd ["tree", "slot", "depth"] (spHelpers T) := by
  refine T.p_helpers.F.ok sc_p_helpers (fun vs H Q E h => ?_) (fun cdv A outer s H vs Q E hr h => ?_)
  · obtain ⟨a, t, s, rfl, _⟩ := h
    rfl
  · obtain ⟨a, t, sl, rfl, hT, hs, q⟩ := h
    refine ⟨_, (pss_one (ps_ret (pe_lc (own := [("fork", 3), ("side", 4)]) rfl sc_p_helpers.nd (pi_tup (pe_revT (pe_slice sl_tupA (pe_ix ix_tup (pe_fld (pv 0) rfl) (pv 1) (fun _ _ => rfl)) po_none (po_some (pv 2))))) (blkOk_by (N := ["tree", "slot", "depth", "fork", "side"]) (sc := defScope s_p_helpers) (by decide +kernel)) (fun _ _ _ _ _ => (pg_tupK (K := K) (n := 2) rfl rfl (pgs_cons (pg_name (i := 3) sc_p_helpers.nd rfl (by first | exact .inl rfl | exact .inr rfl)) (pgs_cons (pg_name (i := 4) sc_p_helpers.nd rfl (by first | exact .inl rfl | exact .inr rfl)) pgs_nil)))) (fun _ _ _ _ _ => pts_nil) (fun _ _ _ _ _ => (pe_call (ok_p_lowest_across T) (hr.mono (by decide)) (by rfl) T.p_lowest_across.g T.p_lowest_across.F.kp T.p_lowest_across.b .nil pass0 (pa_cons (pv 0) (pa_cons (pv 3) (pa_cons (pv 4) pa_nil)))))))), ?_⟩
    obtain ⟨⟨dx, fs, vl, vr, vs, vt, vw, h0, h1, h2, h3, h4, h5, h6, d1, d2, d3, d4, d5⟩, h7⟩ := id hT
    obtain ⟨b, xs, rfl, hb, ha⟩ := dp_tup d5
    have hxl := dp_len (a := b) ha
    obtain ⟨c, ys, e1, hc, hcl⟩ := way_at ha hs
    have hyl : ys.length = (t.way 0 sl).length := by rw [dpAll_len hcl, List.length_map]
    have hwl := Tr.way_len t 0 sl
    refine ⟨_, rfl, a, _, dx, fs, _, rfl, h0, T.Tree.cl, T.nT_ways, h6, _, rfl, b, xs, _, _, rfl, rfl, hb, at_of rfl e1, _, rfl, _, rfl, c, ys, rfl, hc, fun _ => ?_, fun hno => absurd ⟨rfl, ?_⟩ hno⟩
    · refine ⟨c, ys, rfl, hc, fun p hp => ?_⟩
      have s1 : Same H (upd H p (.tup ys.reverse)) := same_new (Same.refl H) hp
      have hT1 := hT.mono s1
      have hp1 : (upd H p (.tup ys.reverse)) p = some (.tup ys.reverse) := upd_same
      have hcl1 := dpAll_mono s1 hcl
      generalize upd H p (.tup ys.reverse) = H1 at s1 hT1 hp1 hcl1 ⊢
      have hhl : (t.helpers sl).length = ys.length := by rw [Tr.helpers_len, hyl]
      refine ⟨p, rfl, ⟨_, sqT hp1⟩, fun D hD => lc_it (walk_tup (K := K) (a := p) (xs := ys.reverse)) (fun i H' => Same H1 H' ∧ H' D = some (.lst (intsV ((t.helpers sl).take i)))) ⟨same_new (Same.refl H1) hD, upd_same⟩ (fun i H' _ h => sqT (h.1 _ _ hp1)) ?_ ?_⟩
      · rintro i x H2 H3 hi ⟨s2, e2⟩ ⟨rfl, hx⟩
        rw [List.length_reverse] at hi
        have hi2 : ys.length - 1 - i < (t.way 0 sl).length := by omega
        have e3 : ys[ys.length - 1 - i]? = some x := by
          rw [List.getElem?_reverse hi] at hx
          exact hx
        have ed : ((t.way 0 sl).map stepD)[ys.length - 1 - i]? = some (stepD (t.way 0 sl)[ys.length - 1 - i]) := by rw [List.getElem?_map, List.getElem?_eq_getElem hi2]; rfl
        obtain ⟨y', hy', dy⟩ := dpAll_get hcl1 ed
        rw [e3] at hy'
        cases hy'
        obtain ⟨g, zs, rfl, hg, hgl⟩ := dp_tup dy
        have hm := Tr.way_mem t 0 sl _ (Nat.zero_le _) (by omega) (List.getElem_mem hi2)
        have eh : (t.helpers sl)[i]? = some (t.lowest (t.way 0 sl)[ys.length - 1 - i]) := by
          unfold Tr.helpers
          rw [List.getElem?_map, List.getElem?_reverse (by omega), ← hyl, List.getElem?_eq_getElem hi2]
          rfl
        generalize (t.way 0 sl)[ys.length - 1 - i] = pr at hm eh hgl
        obtain ⟨f, b⟩ := pr
        cases hgl with
        | cons z1 hgl =>
          cases hgl with
          | cons z2 hgl =>
            cases hgl
            cases dp_int z1
            cases dp_str z2
            refine ⟨g, _, rfl, sqt s2 hg, rfl, _, _, rfl, _, _, rfl, rfl, rfl, ?_⟩
            refine ⟨_, rfl, _, rfl, _, rfl, a, t, f, b, rfl, hT1.mono s2, by have := hm.2.1; omega, _, e2, ?_, same_put s2 hD, ?_⟩
            · unfold intsV
              rw [List.length_map, List.length_take]
              have := small1000 (n := 64) (by decide)
              omega
            · rw [upd_same, List.take_add_one, eh]
              unfold intsV
              rw [List.map_append]
              rfl
      · rintro H2 ⟨s2, e2⟩
        rw [List.length_reverse, ← hhl, List.take_length] at e2
        exact q H2 D (s1.trans s2) (s1.free hD) e2
    · show HT.sIx ys.length ys.length (some ((t.way 0 sl).length : Int)) = ys.length
      rw [hyl]
      unfold HT.sIx
      simp
      try omega
theorem yRng {n : Nat} : ∀ i H x H', i < n → YFn (fun i => V.int (0 + (i : Int))) i H x H' → H' = H ∧ x = .int (i : Nat) := fun i H x H' _ h => ⟨h.1, h.2.trans (congrArg V.int (Int.zero_add _))⟩
theorem ok_p_shallowest_slot (T : TX K mg) : FnOk P w K mg base CX0 3 T.p_shallowest_slot.f T.p_shallowest_slot.fd ["tree"] (spTree T fun t => .int (t.shallow : Nat)) := by
  refine T.p_shallowest_slot.F.ok sc_p_shallowest_slot (fun vs H Q E h => ?_) (fun cdv A outer s H vs Q E hr h => ?_)
  · obtain ⟨a, t, rfl, _⟩ := h
    rfl
  · obtain ⟨a, t, rfl, hT, q⟩ := h
    refine ⟨_, (pss_cons (ps_set (i := 1) sc_p_shallowest_slot.nd rfl (by first | exact .inl rfl | exact .inr rfl) (pe_prop (pv 0) T.Tree.cl T.t_least_depth.pr (ok_t_least_depth T) (hr.mono (by decide)) T.t_least_depth.b .nil pass0 rfl))
      (pss_one (ps_ret (pe_ix ix_list (pe_lc (own := [("slot", 2)]) rfl sc_p_shallowest_slot.nd (pi_range1 rfl T.b_range (pa_cons (pe_callB (call_lenTree T (hr.mono (by decide))) (by rfl) T.b_len (by decide +kernel) (pa_cons (pv 0) pa_nil)) pa_nil)) (blkOk_by (N := ["tree", "least", "slot"]) (sc := defScope s_p_shallowest_slot) (by decide +kernel)) (fun _ _ _ _ _ => (pg_name (i := 2) sc_p_shallowest_slot.nd rfl (by first | exact .inl rfl | exact .inr rfl))) (fun _ _ _ _ _ => (pts_one (pt_cmpR op_eq (pe_callB (call_len_seqK (K := K) rfl) (by rfl) T.b_len (by decide +kernel) (pa_cons (pe_ix (ix_tupK (K := K) rfl) (pe_fldK (K := K) rfl (pv 0) rfl) (pv 2) (fun _ _ => rfl)) pa_nil)) (pv 1) (nomark _)))) (fun _ _ _ _ _ => (pv 2))) pe_int (fun _ _ => rfl))))), ?_⟩
    obtain ⟨⟨dx, fs, vl, vr, vs, vt, vw, h0, h1, h2, h3, h4, h5, h6, d1, d2, d3, d4, d5⟩, h7⟩ := id hT
    refine ⟨_, rfl, a, dx, fs, rfl, h0, a, t, rfl, hT, fun H1 s1 => ?_⟩
    refine ⟨_, rfl, a, t, rfl, hT.mono s1, fun H2 s2 => ⟨_, rfl, by omega, by omega, ?_⟩⟩
    have s12 := s1.trans s2
    obtain ⟨b, xs, rfl, hs, ha⟩ := dp_tup (dp_mono s12 d5)
    have hxl := dp_len (a := b) ha
    have h02 := s12 _ _ h0
    refine fun D hD => lc_filt (walk_range (lo := 0) (n := t.slots)) _ yRng (fun i => decide ((t.way 0 i).length = t.least)) (fun i => .int (i : Nat)) (fun _ _ => trivial) hD (by omega) (fun _ => rfl) ?_ ?_ ?_
    · intro i H' Q' hi s' q'
      obtain ⟨c, ys, e1, e2, e3⟩ := way_at ha hi
      refine ⟨_, rfl, a, _, dx, fs, _, rfl, s' _ _ h02, T.Tree.cl, T.nT_ways, h6, _, rfl, b, xs, _, _, rfl, rfl, sqt s' hs, at_of rfl e1, c, ys, rfl, .inr (sqt s' e2), _, rfl, rfl, _, rfl, ?_⟩
      have e : decide (V.int (ys.length : Nat) = V.int (t.least : Nat)) = decide ((t.way 0 i).length = t.least) := by
        rw [dpAll_len e3, List.length_map]
        by_cases z : (t.way 0 i).length = t.least
        · rw [z, decide_eq_true rfl, decide_eq_true rfl]
        · rw [decide_eq_false z, decide_eq_false]
          intro z2
          apply z
          injection z2 with z2
          omega
      rw [e]
      exact q' H' (Same.refl _)
    · intro i H' Q' hi hb s' q'
      exact ⟨_, rfl, q' H' (Same.refl _)⟩
    · intro H' s' e
      refine ⟨D, _, 0, _, rfl, rfl, sqL e, ?_, q H' (s12.trans s')⟩
      have h0 := (Tr.shallow_at t).1
      exact at_of (j := 0) rfl (by rw [List.getElem?_map]; show (t.shallows[0]?).map _ = _; rw [h0]; rfl)
theorem L_rep (n : Nat) : (⟨(List.replicate n 76).toArray⟩ : Str) = flagS (List.replicate n true) := by
  unfold flagS
  rw [List.map_replicate]
  rfl
theorem e_str (n : Nat) : ("e" : Str) ++ toString (n : Int) = enm n := by
  rw [dg_str, show ("e" : Str) = S [101] by decide +kernel, S_app]
  rfl
theorem log2_small {i : Nat} (h : i < 1000000) : (i : Int).natAbs.log2 < 1920 := by
  rw [Int.natAbs_natCast]
  by_cases z : i = 0
  · subst z; decide
  · exact (Nat.log2_lt z).mpr (Nat.lt_of_lt_of_le h (Nat.le_trans (by decide) (Nat.pow_le_pow_right (by decide) (show 20 ≤ 1920 by decide))))
def spThrash (X : TX K mg) : Sp := fun vs H Q _ => ∃ (a : Addr) (t : Tr), vs = [.ref a] ∧ TreeAt X H a t ∧ ∀ H' p c l k, Same H H' → H c = none → H l = none → H k = none → H p = none → k ≠ l → H' p = some (.tup [.ref c, .ref k]) → CacheAt X H' c l a t.thrF t.thrE → H' k = some (.lst (t.thrA.map V.str)) → Q (.ref p) H'
theorem ok_p_thrashing (T : TX K mg) : FnOk P w K mg base CX0 6 T.p_thrashing.f T.p_thrashing.fd ["tree"] (spThrash T) := by
  refine T.p_thrashing.F.ok sc_p_thrashing (fun vs H Q E h => ?_) (fun cdv A outer s H vs Q E hr h => ?_)
  · obtain ⟨a, t, rfl, _⟩ := h
    rfl
  · obtain ⟨a, t, rfl, hT, q⟩ := h
    have h64 := hT.small
    refine ⟨_, (pss_cons (ps_set (i := 1) sc_p_thrashing.nd rfl (by first | exact .inl rfl | exact .inr rfl) (pe_call (ok_p_shallowest_slot T) (hr.mono (by decide)) (by rfl) T.p_shallowest_slot.g T.p_shallowest_slot.F.kp T.p_shallowest_slot.b .nil pass0 (pa_cons (pv 0) pa_nil)))
      (pss_cons (ps_set (i := 2) sc_p_thrashing.nd rfl (by first | exact .inl rfl | exact .inr rfl) (pe_call (ok_p_helpers T) (hr.mono (by decide)) (by rfl) T.p_helpers.g T.p_helpers.F.kp T.p_helpers.b .nil pass0 (pa_cons (pv 0) (pa_cons (pv 1) (pa_cons (pe_callB call_len_seq (by rfl) T.b_len (by decide +kernel) (pa_cons (pe_ix ix_tup (pe_fld (pv 0) rfl) (pv 1) (fun _ _ => rfl)) pa_nil)) pa_nil)))))
      (pss_cons (ps_set (i := 3) sc_p_thrashing.nd rfl (by first | exact .inl rfl | exact .inr rfl) (pe_lc (own := [("place", 4)]) rfl sc_p_thrashing.nd (pi_range1 rfl T.b_range (pa_cons (pe_callB (call_lenTree T (hr.mono (by decide))) (by rfl) T.b_len (by decide +kernel) (pa_cons (pv 0) pa_nil)) pa_nil)) (blkOk_by (N := ["tree", "slot", "helpers", "entries", "place", "flags", "used", "asked", "helper"]) (sc := defScope s_p_thrashing) (by decide +kernel)) (fun _ _ _ _ _ => (pg_name (i := 4) sc_p_thrashing.nd rfl (by first | exact .inl rfl | exact .inr rfl))) (fun _ _ _ _ _ => pts_nil) (fun _ _ _ _ _ => (pe_joined (.cons pe_str (.cons (pe_fmt (pv 4)) .nil))))))
      (pss_cons (ps_set (i := 5) sc_p_thrashing.nd rfl (by first | exact .inl rfl | exact .inr rfl) (pe_op op_mul_str pe_str (pe_prop (pv 0) T.Tree.cl T.t_forks.pr (ok_t_forks T) (hr.mono (by decide)) T.t_forks.b .nil pass0 rfl)))
      (pss_cons (ps_for PassesOwn.never rfl (pi_list (pe_op op_cat (pv 2) (pe_lst (pa_cons (pv 1) pa_nil)))) (pg_name (i := 6) sc_p_thrashing.nd rfl (by first | exact .inl rfl | exact .inr rfl))
        (pss_one (ps_set (i := 5) sc_p_thrashing.nd rfl (by first | exact .inl rfl | exact .inr rfl) (pe_call (ok_p_turned T) (hr.mono (by decide)) (by rfl) T.p_turned.g T.p_turned.F.kp T.p_turned.b .nil pass0 (pa_cons (pv 0) (pa_cons (pv 5) (pa_cons (pv 6) pa_nil)))))))
      (pss_cons (ps_setLc (i := 7) (own := [("helper", 8)]) rfl sc_p_thrashing.nd rfl rfl (sw_true rfl rfl rfl (by decide +kernel)) (pi_list (pv 2)) (blkOk_by (N := ["tree", "slot", "helpers", "entries", "place", "flags", "used", "asked", "helper"]) (sc := defScope s_p_thrashing) (by decide +kernel)) (fun _ _ _ _ _ => (pg_name (i := 8) sc_p_thrashing.nd rfl (by first | exact .inl rfl | exact .inr rfl))) (fun _ _ _ _ _ => pts_nil) (fun _ _ _ _ _ => (pe_ix (ix_listK (K := K) rfl) (pv 3) (pv 8) (fun _ _ => rfl))))
      (pss_one (ps_ret (pe_tup (pa_cons (pe_make T.c_init.M (ok_c_init T) (hr.mono (by decide)) (by rfl) T.Cache.g T.c_init.b .nil pass0 (pa_cons (pv 0) (pa_cons (pv 5) (pa_cons (pv 3) pa_nil)))) (pa_cons (pe_op op_cat (pe_op op_cat (pe_op op_cat (pv 7) (pe_lst (pa_cons pe_str pa_nil))) (pv 7)) (pe_lst (pa_cons (pe_ix ix_list (pv 3) (pv 1) (fun _ _ => rfl)) pa_nil))) pa_nil))))))))))), ?_⟩
    obtain ⟨_, hss, _⟩ := Tr.shallow_at t
    refine ⟨_, rfl, a, t, rfl, hT, fun H1 s1 => ?_⟩
    have hT1 := hT.mono s1
    obtain ⟨⟨dx, fs, vl, vr, vs, vt, vw, h0, h1, h2, h3, h4, h5, h6, d1, d2, d3, d4, d5⟩, h7⟩ := id hT1
    obtain ⟨b, xs, rfl, hs, ha⟩ := dp_tup d5
    obtain ⟨c, ys, e1, hc, hcl⟩ := way_at ha hss
    have hyl : ys.length = (t.way 0 t.shallow).length := by rw [dpAll_len hcl, List.length_map]
    refine ⟨_, rfl, _, rfl, _, rfl, a, _, dx, fs, _, rfl, h0, T.Tree.cl, T.nT_ways, h6, _, rfl, b, xs, _, _, rfl, rfl, hs, at_of rfl e1, c, ys, rfl, .inr hc, ?_⟩
    rw [hyl]
    refine ⟨a, t, t.shallow, rfl, hT1, hss, fun H2 hp s2 hhp0 hhp => ?_⟩
    have hT2 := hT1.mono s2
    have hml : (t.helpers t.shallow).length ≤ 64 := by
      rw [Tr.helpers_len]
      have := Tr.way_len t 0 t.shallow
      omega
    refine ⟨_, rfl, a, t, rfl, hT2, fun H3 s3 => ⟨_, rfl, by omega, by omega, fun D hD => lc_map (te := fun σ H Q => tJs [tC (.str "e"), tFmt (tVar 4)] Str.empty σ H fun out H1 => Q (.str out) H1) (walk_range (lo := 0) (n := t.slots)) _ yRng (fun i => .str (enm i)) (fun _ _ => trivial) hD (by omega) (fun _ => rfl) ?_ ?_⟩⟩
    · intro i H' Q' hi s' q'
      have el : ((Str.empty : Str) ++ ("e" : Str)).length ≤ sizeLine := by decide +kernel
      have ee : (Str.empty : Str) ++ ("e" : Str) = "e" := by decide +kernel
      have el2 : (enm i).length ≤ sizeLine := by
        have := (enm_ent (k := i) (by omega)).2.1
        exact small12 this
      refine ⟨"e", rfl, el, _, rfl, .inr ⟨(i : Nat), rfl, log2_small (by omega), toString (i : Int), rfl, ?_, ?_⟩⟩
      · rw [ee, e_str]; exact el2
      · rw [ee, e_str]; exact q' H' (Same.refl _)
    · intro H4 s4 e4
      have hE : (List.range t.slots).map (fun i => V.str (enm i)) = t.thrE.map V.str := by
        unfold Tr.thrE
        rw [List.map_map]
        rfl
      rw [hE] at e4
      have s24 := s3.trans s4
      have hT4 := hT2.mono s24
      have hhp4 := s24 _ _ hhp
      have hD0 : H D = none := s1.free (s2.free (s3.free hD))
      have sH := s1.trans (s2.trans s24)
      clear hT1 h0 d1 d2 d3 d4 d5 h1 h2 h3 h4 h5 h6 hs ha e1 hc hcl hyl
      obtain ⟨⟨dx, fs, vl, vr, vs, vt, vw, h0, h1, h2, h3, h4, h5, h6, d1, d2, d3, d4, d5⟩, h7⟩ := id hT4
      refine ⟨_, rfl, a, dx, fs, rfl, h0, a, t, rfl, hT4, fun H5 s5 => ⟨76, t.slots - 1, by decide +kernel, rfl, by omega, ?_⟩⟩
      rw [L_rep]
      have hhp5 := s5 _ _ hhp4
      refine ⟨_, rfl, _, rfl, (by show 1 ≤ sizeLine; decide), fun c1 hc1 => ?_⟩
      have k6 : Same H5 (upd H5 c1 (.lst [.int (t.shallow : Nat)])) := same_new (Same.refl H5) hc1
      refine ⟨hp, c1, _, _, rfl, rfl, k6 _ _ hhp5, upd_same, ?_, fun c2 hc2 => ?_⟩
      · unfold intsV
        rw [List.length_map, List.length_singleton]
        have := small1000 (n := 65) (by decide)
        omega
      have k7 := k6.trans (same_new (Same.refl _) hc2 (o := .lst (intsV (t.helpers t.shallow) ++ [.int (t.shallow : Nat)])))
      have hc7 : (upd (upd H5 c1 (.lst [.int (t.shallow : Nat)])) c2 (.lst (intsV (t.helpers t.shallow) ++ [.int (t.shallow : Nat)]))) c2 = some (.lst (intsV (t.helpers t.shallow ++ [t.shallow]))) := by
        rw [upd_same]
        unfold intsV
        rw [List.map_append]
        rfl
      generalize upd (upd H5 c1 (.lst [.int (t.shallow : Nat)])) c2 (.lst (intsV (t.helpers t.shallow) ++ [.int (t.shallow : Nat)])) = H7 at k7 hc7 ⊢
      have s57 := s5.trans k7
      refine ⟨c2, rfl, ⟨_, sqL hc7⟩, for_list (K := K) (a := c2) (xs := intsV (t.helpers t.shallow ++ [t.shallow])) (fun i σ H' => ∃ v6, σ = [some (.ref a), some (.int (t.shallow : Nat)), some (.ref hp), some (.ref D), none, some (.str (flagS (((t.helpers t.shallow ++ [t.shallow]).take i).foldl (turn t) (List.replicate (t.slots - 1) true)))), v6, none, none] ∧ Same H7 H')
        ⟨none, rfl, Same.refl H7⟩ (fun i σ H' _ ⟨_, _, k⟩ => sqL (k _ _ hc7)) ?_ ?_⟩
      · rintro i x σ H' hx ⟨v6, rfl, k⟩
        unfold intsV at hx
        rw [List.getElem?_map] at hx
        cases e1 : (t.helpers t.shallow ++ [t.shallow])[i]? with
        | none => rw [e1] at hx; cases hx
        | some u =>
          rw [e1] at hx
          cases hx
          have hu : u < t.slots := by
            rcases List.mem_append.mp (List.mem_of_getElem? e1) with z | z
            · exact (Tr.helpers_mem t _ u hss z).1
            · rw [List.mem_singleton.mp z]; exact hss
          refine ⟨_, rfl, _, rfl, _, rfl, a, t, _, u, rfl, hT4.mono (s57.trans k), by rw [Tr.foldl_turn_len, List.length_replicate], hu, fun H8 s8 => ⟨some (.int (u : Nat)), ?_, k.trans s8⟩⟩
          rw [List.take_add_one, e1, List.foldl_append]
          rfl
      · rintro σ H8 ⟨v6, rfl, s8⟩
        have eF : ((t.helpers t.shallow ++ [t.shallow]).take (intsV (t.helpers t.shallow ++ [t.shallow])).length).foldl (turn t) (List.replicate (t.slots - 1) true) = t.thrF := by
          unfold intsV
          rw [List.length_map, List.take_length]
          rfl
        rw [eF]
        have s48 := s57.trans s8
        have hhp8 := s48 _ _ hhp4
        have e8 := s48 _ _ e4
        refine ⟨_, rfl, hp, rfl, ⟨_, sqL hhp8⟩, fun D2 hD2 => lc_map (walk_list (K := K) (a := hp) (xs := intsV (t.helpers t.shallow))) _ yAt (fun i => .str (enm ((t.helpers t.shallow).getD i 0))) (fun H' s' => sqL (s' _ _ hhp8)) hD2 (by unfold intsV; rw [List.length_map]; omega) (fun _ => rfl) ?_ ?_⟩
        · intro i H' Q' hi s' q'
          unfold intsV at hi
          rw [List.length_map] at hi
          have ei := List.getElem?_eq_getElem hi
          have hu := (Tr.helpers_mem t _ _ hss (List.mem_of_getElem? ei)).1
          have ex : (intsV (t.helpers t.shallow)).getD i .non = .int ((t.helpers t.shallow)[i] : Nat) := getD_at (by unfold intsV; rw [List.getElem?_map, ei]; rfl)
          rw [ex]
          rw [List.getD_eq_getElem?_getD, ei] at q'
          refine ⟨_, rfl, _, rfl, D, _, _, _, rfl, rfl, sqL (s' _ _ e8), at_of rfl (show (t.thrE.map V.str)[(t.helpers t.shallow)[i]]? = some (.str (enm (t.helpers t.shallow)[i])) by rw [List.getElem?_map, Tr.thrE_at t hu]; rfl), q' H' (Same.refl _)⟩
        · intro H9 s9 e9
          have hA : (List.range (intsV (t.helpers t.shallow)).length).map (fun i => V.str (enm ((t.helpers t.shallow).getD i 0))) = ((t.helpers t.shallow).map enm).map V.str := by
            unfold intsV
            rw [List.length_map, range_map_of (g := fun u => V.str (enm u)) (fun i x hx => by rw [List.getD_eq_getElem?_getD, hx]; rfl), List.map_map]
            rfl
          rw [hA] at e9
          have s49 := s48.trans s9
          have hT9 := hT4.mono s49
          have eD9 := s49 _ _ e4
          have sH9 := sH.trans s49
          have z200 := small1000 (n := 300) (by decide)
          refine ⟨_, rfl, _, rfl, _, rfl, fun x dx2 hx hdx hne => ?_⟩
          have kx : Same H9 (upd (upd H9 dx2 (.own x)) x (.ins T.Cache.C dx2 [])) := same_put (same_new (Same.refl H9) hdx) hx
          refine ⟨H9, x, dx2, a, D, t, t.thrF, t.thrE, rfl, kx, hx, upd_same, hT9, Tr.thrF_len t, eD9, Tr.thrE_len t, Tr.thrE_nodup t h64, Tr.thrE_ent t h64, fun Ha cl sa hcl hC => ⟨rfl, ?_⟩⟩
          have e9a := sa _ _ e9
          have eDa := sa _ _ eD9
          refine ⟨_, rfl, (by show 1 ≤ sizeLine; decide), fun g1 hg1 => ?_⟩
          have u1 := same_new (Same.refl Ha) hg1 (o := .lst [.str "x"])
          refine ⟨D2, g1, _, _, rfl, rfl, u1 _ _ e9a, upd_same, ?_, fun g2 hg2 => ?_⟩
          · rw [List.length_map, List.length_map, List.length_singleton]; omega
          have u2 := u1.trans (same_new (Same.refl _) hg2 (o := .lst (((t.helpers t.shallow).map enm).map V.str ++ [.str "x"])))
          refine ⟨_, rfl, g2, D2, _, _, rfl, rfl, upd_same, u2 _ _ e9a, ?_, fun g3 hg3 => ?_⟩
          · rw [List.length_append, List.length_map, List.length_map, List.length_singleton]; omega
          have u3 := u2.trans (same_new (Same.refl _) hg3 (o := .lst (((t.helpers t.shallow).map enm).map V.str ++ [.str "x"] ++ ((t.helpers t.shallow).map enm).map V.str)))
          have w3 : (upd (upd (upd Ha g1 (.lst [.str "x"])) g2 (.lst (((t.helpers t.shallow).map enm).map V.str ++ [.str "x"]))) g3 (.lst (((t.helpers t.shallow).map enm).map V.str ++ [.str "x"] ++ ((t.helpers t.shallow).map enm).map V.str))) g3 = some _ := upd_same
          generalize upd (upd (upd Ha g1 (.lst [.str "x"])) g2 (.lst (((t.helpers t.shallow).map enm).map V.str ++ [.str "x"]))) g3 (.lst (((t.helpers t.shallow).map enm).map V.str ++ [.str "x"] ++ ((t.helpers t.shallow).map enm).map V.str)) = Hb at u3 w3 ⊢
          refine ⟨_, rfl, _, rfl, D, _, _, _, rfl, rfl, sqL (u3 _ _ eDa), at_of rfl (show (t.thrE.map V.str)[t.shallow]? = some (.str (enm t.shallow)) by rw [List.getElem?_map, Tr.thrE_at t hss]; rfl), (by show 1 ≤ sizeLine; decide), fun g4 hg4 => ?_⟩
          have u4 := u3.trans (same_new (Same.refl _) hg4 (o := .lst [.str (enm t.shallow)]))
          have w4 := (same_new (Same.refl _) hg4 (o := .lst [.str (enm t.shallow)])) _ _ w3
          refine ⟨g3, g4, _, _, rfl, rfl, w4, upd_same, ?_, fun g5 hg5 => ?_⟩
          · rw [List.length_append, List.length_append, List.length_map, List.length_map, List.length_singleton, List.length_singleton]; omega
          have eA : ((t.helpers t.shallow).map enm).map V.str ++ [.str "x"] ++ ((t.helpers t.shallow).map enm).map V.str ++ [.str (enm t.shallow)] = t.thrA.map V.str := by
            unfold Tr.thrA
            rw [List.map_append, List.map_append, List.map_append]
            rfl
          rw [eA]
          have u5 := u4.trans (same_new (Same.refl _) hg5 (o := .lst (t.thrA.map V.str)))
          have w5 : (upd (upd Hb g4 (.lst [.str (enm t.shallow)])) g5 (.lst (t.thrA.map V.str))) g5 = some _ := upd_same
          have na : Ha g5 = none := u4.free hg5
          generalize upd (upd Hb g4 (.lst [.str (enm t.shallow)])) g5 (.lst (t.thrA.map V.str)) = Hc at u5 w5 ⊢
          refine ⟨(by show 2 ≤ sizeLine; decide), fun g6 hg6 => ?_⟩
          have u6 := u5.trans (same_new (Same.refl _) hg6 (o := .tup [.ref x, .ref g5]))
          have w6 := (same_new (Same.refl _) hg6 (o := .tup [.ref x, .ref g5])) _ _ w5
          refine q _ g6 x cl g5 (sH9.trans (sa.trans u6)) (sH9.free hx) (sH9.free hcl) (sH9.free (sa.free na)) (sH9.free (sa.free (u5.free hg6))) (fun z => ?_) upd_same (hC.mono (fun o => u6 _ o) (fun o => u6 _ o)) w6
          have hl := hC.li
          rw [← z, na] at hl
          cases hl
end
end Ls
/-! The law's own defs: draws, ways, flags. -/
namespace Ls
open PySem PySem.Spec PyProof.Rows L2
def BoxAt (H : Hp) (b : Addr) : Prop := ∃ x y z : Int, H b = some (.lst [.int x, .int y, .int z])
theorem BoxAt.mono {H H' : Hp} {b : Addr} (s : Same H H') (h : BoxAt H b) : BoxAt H' b := by
  obtain ⟨x, y, z, h⟩ := h
  exact ⟨x, y, z, s _ _ h⟩
theorem cut1 (xs : List V) : cutV xs none (some 1) = xs.take 1 := by
  unfold cutV
  have e2 : HT.sIx xs.length xs.length (some 1) = min 1 xs.length := HT.sIx_nat _ _ 1
  rw [e2, HT.sIx_none, Nat.sub_zero]
  show (xs.drop 0).take _ = _
  rw [List.drop_zero]
  cases xs with
  | nil => rfl
  | cons a as => rw [show min 1 (a :: as).length = 1 by rw [List.length_cons]; omega]
theorem bool_cases (p : Prop) [Decidable p] : (decide p = true ∧ p) ∨ (decide p = false ∧ ¬ p) := by
  by_cases h : p
  · exact .inl ⟨decide_eq_true h, h⟩
  · exact .inr ⟨decide_eq_false h, h⟩
section
variable {P : Program} {w : World} {K : PySem.W.Frag} {mg : Str → Option Value} {base : Heap}
def spBox (K : PySem.W.Frag) : Sp := fun vs H Q _ => ∃ (sc : Addr) (ns : List Int) (k : Nat), vs = [.ref sc, .int k] ∧ SqL K H sc (ns.map V.int) ∧ k < 100 ∧ ∀ H' b, Same H H' → H b = none → BoxAt H' b → Q (.ref b) H'
theorem ok_l_box (T : TX K mg) : FnOk P w K mg base CX0 1 T.l_box.f T.l_box.fd ["_law_script", "_law_k"] (spBox K) := by
  refine T.l_box.F.ok sc_l_box (fun vs H Q E h => ?_) (fun cdv A outer s H vs Q E hr h => ?_)
  · obtain ⟨sc, ns, k, rfl, _⟩ := h
    rfl
  · obtain ⟨sc, ns, k, rfl, hs, hk, q⟩ := h
    refine ⟨_, (pss_cons (ps_set (i := 2) sc_l_box.nd rfl (by first | exact .inl rfl | exact .inr rfl) (pe_op op_add (pe_op op_add (pe_op op_mul (pe_op op_mod (pe_callTy call_int1 (by rfl) T.b_int (by decide +kernel) (pa_cons (pe_callB (cr_sum rfl) (by rfl) T.b_sum (by decide +kernel) (pa_cons (pe_slice sl_list (pv 0) po_none (po_some pe_int)) pa_nil)) pa_nil)) pe_int) pe_int) (pe_op op_mul pe_int (pv 1))) pe_int))
      (pss_cons (ps_if (pt_cmpR op_lt (pv 1) (pe_callB call_len_seq (by rfl) T.b_len (by decide +kernel) (pa_cons (pv 0) pa_nil)) (nomark _))
        (pss_one (ps_set (i := 2) sc_l_box.nd rfl (by first | exact .inl rfl | exact .inr rfl) (pe_ix ix_list (pv 0) (pv 1) (fun _ _ => rfl))))
        pss_nil)
      (pss_cons (ps_set (i := 3) sc_l_box.nd rfl (by first | exact .inl rfl | exact .inr rfl) pe_int)
      (pss_cons (ps_if (pt_cmpR op_ge (pv 2) (pe_op op_pow pe_int pe_int) (nomark _))
        (pss_one (ps_set (i := 3) sc_l_box.nd rfl (by first | exact .inl rfl | exact .inr rfl) (pv 2)))
        pss_nil)
      (pss_one (ps_ret (pe_lst (pa_cons (pv 3) (pa_cons (pe_op op_mod (pe_callTy call_int1 (by rfl) T.b_int (by decide +kernel) (pa_cons (pv 2) pa_nil)) (pe_op op_pow pe_int pe_int)) (pa_cons pe_int pa_nil)))))))))), ?_⟩
    refine ⟨_, rfl, 1, rfl, sc, _, rfl, hs, fun p hp => ?_⟩
    rw [cut1, ← List.map_take]
    have s1 : Same H (upd H p (.lst ((ns.take 1).map V.int))) := same_new (Same.refl H) hp
    refine ⟨p, ns.take 1, rfl, sqL upd_same, .inl ⟨_, rfl, _, _, rfl, rfl, (show (0 : Int) < 1000003 by decide), _, _, rfl, rfl, .inr ⟨by decide, by decide⟩, _, rfl, _, _, rfl, rfl, .inl ⟨by decide, by decide⟩, _, _, rfl, rfl, _, _, rfl, rfl, ?_⟩⟩
    generalize upd H p (.lst ((ns.take 1).map V.int)) = H1 at s1 ⊢
    have hs1 := s1.seq hs
    refine ⟨_, rfl, _, rfl, sc, _, rfl, .inl hs1, _, _, rfl, rfl, _, rfl, ?_⟩
    rw [List.length_map]
    rcases bool_cases ((k : Int) < (ns.length : Int)) with ⟨e0, hk2⟩ | ⟨e0, _⟩
    · rw [e0]
      have hx : ns[k]? = some ns[k] := List.getElem?_eq_getElem (by omega)
      refine ⟨_, rfl, _, rfl, sc, _, _, _, rfl, rfl, hs1, at_of rfl (show (ns.map V.int)[k]? = some (.int ns[k]) by rw [List.getElem?_map, hx]; rfl), ?_⟩
      generalize ns[k] = c1
      refine ⟨_, rfl, _, _, rfl, rfl, ⟨by decide, by decide, by decide⟩, _, _, rfl, rfl, _, rfl, ?_⟩
      rcases bool_cases (((10 : Int) ^ (18 : Int).toNat) ≤ c1) with ⟨e, _⟩ | ⟨e, _⟩
      · rw [e]
        refine ⟨_, rfl, ?_⟩
        exact ⟨_, rfl, _, rfl, .inl ⟨_, rfl, _, _, rfl, rfl, ⟨by decide, by decide, by decide⟩, _, _, rfl, rfl, (show (0 : Int) < 10 ^ (18 : Int).toNat by decide), (by show 3 ≤ sizeLine; decide), fun p hp => q _ p (s1.trans (same_new (Same.refl H1) hp)) (s1.free hp) ⟨_, _, _, upd_same⟩⟩⟩
      · rw [e]
        exact ⟨_, rfl, _, rfl, .inl ⟨_, rfl, _, _, rfl, rfl, ⟨by decide, by decide, by decide⟩, _, _, rfl, rfl, (show (0 : Int) < 10 ^ (18 : Int).toNat by decide), (by show 3 ≤ sizeLine; decide), fun p hp => q _ p (s1.trans (same_new (Same.refl H1) hp)) (s1.free hp) ⟨_, _, _, upd_same⟩⟩⟩
    · rw [e0]
      refine ⟨_, rfl, _, _, rfl, rfl, ⟨by decide, by decide, by decide⟩, _, _, rfl, rfl, _, rfl, ?_⟩
      rcases bool_cases (((10 : Int) ^ (18 : Int).toNat) ≤ ((ns.take 1).sum % 1000003 * 61 + 7 * (k : Int) + 156)) with ⟨e, _⟩ | ⟨e, _⟩
      · rw [e]
        refine ⟨_, rfl, ?_⟩
        exact ⟨_, rfl, _, rfl, .inl ⟨_, rfl, _, _, rfl, rfl, ⟨by decide, by decide, by decide⟩, _, _, rfl, rfl, (show (0 : Int) < 10 ^ (18 : Int).toNat by decide), (by show 3 ≤ sizeLine; decide), fun p hp => q _ p (s1.trans (same_new (Same.refl H1) hp)) (s1.free hp) ⟨_, _, _, upd_same⟩⟩⟩
      · rw [e]
        exact ⟨_, rfl, _, rfl, .inl ⟨_, rfl, _, _, rfl, rfl, ⟨by decide, by decide, by decide⟩, _, _, rfl, rfl, (show (0 : Int) < 10 ^ (18 : Int).toNat by decide), (by show 3 ≤ sizeLine; decide), fun p hp => q _ p (s1.trans (same_new (Same.refl H1) hp)) (s1.free hp) ⟨_, _, _, upd_same⟩⟩⟩

def spTake : Sp := fun vs H Q _ => ∃ (b : Addr) (n : Nat), vs = [.ref b, .int n] ∧ BoxAt H b ∧ 1 ≤ n ∧ n ≤ 1000 ∧ ∀ H' (r : Nat), Same (wo H b) H' → BoxAt H' b → r < n → Q (.int r) H'
theorem emod_nat (x : Int) (n : Nat) (h : 1 ≤ n) : ∃ r : Nat, x % (n : Int) = (r : Int) ∧ r < n := by
  have h1 := Int.emod_nonneg x (show (n : Int) ≠ 0 by omega)
  have h2 := Int.emod_lt_of_pos x (show (0 : Int) < n by omega)
  exact ⟨(x % (n : Int)).toNat, by omega, by omega⟩
theorem emod_q {Q : VK} {H : Hp} {x : Int} {n : Nat} (h : 1 ≤ n) (q : ∀ r : Nat, r < n → Q (.int r) H) : Q (.int (x % (n : Int))) H := by
  obtain ⟨r, e, hr⟩ := emod_nat x n h
  rw [e]
  exact q r hr
theorem ok_l_take (T : TX K mg) : FnOk P w K mg base CX0 1 T.l_take.f T.l_take.fd ["_law_box_here", "_law_size"] spTake := by
  refine T.l_take.F.ok sc_l_take (fun vs H Q E h => ?_) (fun cdv A outer s H vs Q E hr h => ?_)
  · obtain ⟨b, n, rfl, _⟩ := h
    rfl
  · obtain ⟨b, n, rfl, ⟨x, y, z, hb⟩, h1, h2, q⟩ := h
    have hn : (0 : Int) < n := by omega
    refine ⟨_, (pss_cons (ps_if (pt_cmpR op_gt (pe_ix ix_list (pv 0) pe_int (fun _ _ => rfl)) pe_int (nomark _))
        (pss_cons (ps_set (i := 2) sc_l_take.nd rfl (by first | exact .inl rfl | exact .inr rfl) (pe_op op_mod (pe_callTy call_int1 (by rfl) T.b_int (by decide +kernel) (pa_cons (pe_ix ix_list (pv 0) pe_int (fun _ _ => rfl)) pa_nil)) (pv 1)))
      (pss_cons (ps_asg (pe_op op_fdiv (pe_callTy call_int1 (by rfl) T.b_int (by decide +kernel) (pa_cons (pe_ix ix_list (pv 0) pe_int (fun _ _ => rfl)) pa_nil)) (pv 1)) (pg_sub (pv 0) pe_int set_list))
      (pss_one (ps_ret (pv 2)))))
        pss_nil)
      (pss_cons (ps_asg (pe_op op_add (pe_ix ix_list (pv 0) pe_int (fun _ _ => rfl)) pe_int) (pg_sub (pv 0) pe_int set_list))
      (pss_cons (ps_set (i := 3) sc_l_take.nd rfl (by first | exact .inl rfl | exact .inr rfl) (pe_op op_mod (pe_callTy call_int1 (by rfl) T.b_int (by decide +kernel) (pa_cons (pe_op op_add (pe_op op_mul (pe_ix ix_list (pv 0) pe_int (fun _ _ => rfl)) pe_int) (pe_op op_mul (pe_ix ix_list (pv 0) pe_int (fun _ _ => rfl)) pe_int)) pa_nil)) pe_int))
      (pss_cons (ps_set (i := 4) sc_l_take.nd rfl (by first | exact .inl rfl | exact .inr rfl) (pe_op op_mod (pe_callTy call_int1 (by rfl) T.b_int (by decide +kernel) (pa_cons (pe_op op_add (pe_op op_add (pe_op op_mul (pv 3) (pv 3)) (pe_ix ix_list (pv 0) pe_int (fun _ _ => rfl))) (pe_op op_mul (pe_ix ix_list (pv 0) pe_int (fun _ _ => rfl)) pe_int)) pa_nil)) pe_int))
      (pss_cons (ps_set (i := 5) sc_l_take.nd rfl (by first | exact .inl rfl | exact .inr rfl) (pe_op op_mod (pe_callTy call_int1 (by rfl) T.b_int (by decide +kernel) (pa_cons (pe_op op_add (pe_op op_add (pe_op op_mul (pv 4) (pv 4)) (pv 3)) (pe_ix ix_list (pv 0) pe_int (fun _ _ => rfl))) pa_nil)) pe_int))
      (pss_one (ps_ret (pe_op op_mod (pe_callTy call_int1 (by rfl) T.b_int (by decide +kernel) (pa_cons (pe_op op_fdiv (pv 5) pe_int) pa_nil)) (pv 1))))))))), ?_⟩
    refine ⟨_, rfl, b, _, 0, _, rfl, rfl, sqL hb, rfl, _, _, rfl, rfl, _, rfl, ?_⟩
    rcases bool_cases ((0 : Int) < x) with ⟨e0, _⟩ | ⟨e0, _⟩
    · rw [e0]
      refine ⟨_, rfl, b, _, 0, _, rfl, rfl, sqL hb, rfl, .inl ⟨_, rfl, _, rfl, _, _, rfl, rfl, hn, ?_⟩⟩
      refine ⟨_, rfl, b, _, 0, _, rfl, rfl, sqL hb, rfl, .inl ⟨_, rfl, _, rfl, _, _, rfl, rfl, ⟨hn, by omega⟩, ?_⟩⟩
      refine ⟨_, rfl, b, _, 0, 0, rfl, rfl, hb, rfl, ?_⟩
      obtain ⟨r, er, hr'⟩ := emod_nat x n h1
      refine ⟨_, rfl, ?_⟩
      show Q (.int (x % (n : Int))) _
      rw [er]
      exact q _ r (same_put wo_same wo_at) ⟨_, _, _, upd_same⟩ hr'
    · rw [e0]
      refine ⟨_, rfl, b, _, 2, _, rfl, rfl, sqL hb, rfl, _, _, rfl, rfl, _, rfl, b, _, 2, 2, rfl, rfl, hb, rfl, ?_⟩
      have hb2 : (upd H b (.lst ([V.int x, V.int y, V.int z].set 2 (V.int (z + 1))))) b = some (.lst [V.int x, V.int y, V.int (z + 1)]) := upd_same
      have k2 : Same (wo H b) (upd H b (.lst ([V.int x, V.int y, V.int z].set 2 (V.int (z + 1))))) := same_put wo_same wo_at
      generalize upd H b (.lst ([V.int x, V.int y, V.int z].set 2 (V.int (z + 1)))) = H2 at hb2 k2 ⊢
      refine ⟨_, rfl, b, _, 1, _, rfl, rfl, sqL hb2, rfl, _, _, rfl, rfl, .inr ⟨by decide, by decide⟩, _, rfl, b, _, 2, _, rfl, rfl, sqL hb2, rfl, _, _, rfl, rfl, .inr ⟨by decide, by decide⟩, _, _, rfl, rfl, .inl ⟨_, rfl, _, _, rfl, rfl, (show (0 : Int) < 2147483647 by decide), ?_⟩⟩
      have b1 : ∀ a : Int, -(2 ^ 64) < a % 2147483647 ∧ a % 2147483647 < 2 ^ 64 := fun a => ⟨by omega, by omega⟩
      refine ⟨_, rfl, _, rfl, _, _, rfl, rfl, .inl (b1 _), _, rfl, b, _, 1, _, rfl, rfl, sqL hb2, rfl, _, _, rfl, rfl, _, rfl, b, _, 2, _, rfl, rfl, sqL hb2, rfl, _, _, rfl, rfl, .inr ⟨by decide, by decide⟩, _, _, rfl, rfl, .inl ⟨_, rfl, _, _, rfl, rfl, (show (0 : Int) < 2147483399 by decide), ?_⟩⟩
      have b2 : ∀ a : Int, -(2 ^ 64) < a % 2147483399 ∧ a % 2147483399 < 2 ^ 64 := fun a => ⟨by omega, by omega⟩
      refine ⟨_, rfl, _, rfl, _, _, rfl, rfl, .inl (b2 _), _, rfl, _, _, rfl, rfl, _, rfl, b, _, 1, _, rfl, rfl, sqL hb2, rfl, _, _, rfl, rfl, .inl ⟨_, rfl, _, _, rfl, rfl, (show (0 : Int) < 2147483629 by decide), ?_⟩⟩
      refine ⟨_, rfl, _, _, rfl, rfl, ⟨by decide, by decide⟩, .inl ⟨_, rfl, _, rfl, _, _, rfl, rfl, hn, ?_⟩⟩
      refine emod_q h1 fun r hr' => ?_
      exact q _ r k2 ⟨_, _, _, hb2⟩ hr'
/-- the law's world: text, slots, spans, forks in postorder -/
theorem world_open {H : Hp} {v : V} {t : Tr} (h : Dp K H v (worldD t)) : ∃ (a b c : Addr) (xs ys : List V), v = .ref a ∧ SqT K H a [.str (S t.txt), .int (t.slots : Nat), .ref b, .ref c] ∧ SqL K H b xs ∧ DpAll K H xs ((t.spans 0).map spD) ∧ SqL K H c (intsV (t.post 0)) ∧ ys = intsV (t.post 0) := by
  obtain ⟨a, zs, rfl, hz, hd⟩ := dp_tup h
  cases hd with
  | cons z1 hd =>
    cases hd with
    | cons z2 hd =>
      cases hd with
      | cons z3 hd =>
        cases hd with
        | cons z4 hd =>
          cases hd
          cases dp_str z1
          cases dp_int z2
          obtain ⟨b, xs, rfl, hb, hxs⟩ := dp_lst z3
          obtain ⟨c, ys, rfl, hc, hys⟩ := dp_lst z4
          have e : (t.post 0).map (fun f => PyData.int (f : Nat)) = ((t.post 0).map fun f : Nat => (f : Int)).map PyData.int := by
            rw [List.map_map]
            rfl
          rw [e] at hys
          have e2 := dpAll_ints hys
          have e3 : ys = intsV (t.post 0) := by
            rw [e2, List.map_map]
            rfl
          subst e3
          exact ⟨a, b, c, xs, _, rfl, hz, hb, hxs, hc, rfl⟩
theorem span_at {H : Hp} {t : Tr} {xs : List V} (d : DpAll K H xs ((t.spans 0).map spD)) {f lo hi : Nat} (e : (t.spans 0)[f]? = some (lo, hi)) : ∃ c, xs[f]? = some (.ref c) ∧ SqT K H c [.int lo, .int hi] := by
  obtain ⟨v, e1, dv⟩ := dpAll_get d (show ((t.spans 0).map spD)[f]? = some (spD (lo, hi)) by rw [List.getElem?_map, e]; rfl)
  obtain ⟨c, ys, rfl, hc, hcl⟩ := dp_tup dv
  cases hcl with
  | cons z1 hcl =>
    cases hcl with
    | cons z2 hcl =>
      cases hcl
      cases dp_int z1
      cases dp_int z2
      exact ⟨c, e1, hc⟩
def spLWay : Sp := fun vs H Q _ => ∃ (v : V) (t : Tr) (s : Nat), vs = [v, .int s] ∧ Dp K H v (worldD t) ∧ t.slots ≤ 64 ∧ s < t.slots ∧ ∀ H' p, Same H H' → H p = none → H' p = some (.lst (intsV ((t.way 0 s).map (·.1)))) → Q (.ref p) H'
theorem filt_idx {α : Type} (xs : List α) (p : α → Bool) (d : α) : ((List.range xs.length).filter fun i => p (xs.getD i d)).map (fun i => xs.getD i d) = xs.filter p := by
  induction xs with
  | nil => rfl
  | cons x xs ih =>
    have e : (((List.range xs.length).map Nat.succ).filter fun i => p ((x :: xs).getD i d)).map (fun i => (x :: xs).getD i d) = xs.filter p := by
      rw [List.filter_map, List.map_map]
      exact ih
    rw [List.length_cons, List.range_succ_eq_map]
    cases h : p x with
    | true =>
      rw [List.filter_cons_of_pos (by exact h), List.filter_cons_of_pos (by exact h), List.map_cons, e]
      rfl
    | false =>
      rw [List.filter_cons_of_neg (by show ¬ p x = true; rw [h]; exact Bool.false_ne_true), List.filter_cons_of_neg (by rw [h]; exact Bool.false_ne_true), e]
theorem ok_l_way (T : TX K mg) : FnOk P w K mg base CX0 1 T.l_way.f T.l_way.fd ["_law_world_here", "_law_slot"] (spLWay (K := K)) := by
  refine T.l_way.F.ok sc_l_way (fun vs H Q E h => ?_) (fun cdv A outer s H vs Q E hr h => ?_)
  · obtain ⟨v, t, s, rfl, _⟩ := h
    rfl
  · obtain ⟨v, t, sl, rfl, hw, h64, hs, q⟩ := h
    obtain ⟨a, b, c, xs, _, rfl, ha, hb, hxs, hc, _⟩ := world_open hw
    refine ⟨_, (pss_one (ps_ret (pe_lc (own := [("_law_fork", 2)]) rfl sc_l_way.nd (pi_list (pe_revL (pe_ix ix_tup (pv 0) pe_int (fun _ _ => rfl)))) (blkOk_by (N := ["_law_world_here", "_law_slot", "_law_fork"]) (sc := defScope s_l_way) (by decide +kernel)) (fun _ _ _ _ _ => (pg_name (i := 2) sc_l_way.nd rfl (by first | exact .inl rfl | exact .inr rfl))) (fun _ _ _ _ _ => (pts_one (pt_chain op_le op_le (pe_ix (ix_tupK (K := K) rfl) (pe_ix (ix_listK (K := K) rfl) (pe_ix (ix_tupK (K := K) rfl) (pv 0) pe_int (fun _ _ => rfl)) (pv 2) (fun _ _ => rfl)) pe_int (fun _ _ => rfl)) (pv 1) (pe_ix (ix_tupK (K := K) rfl) (pe_ix (ix_listK (K := K) rfl) (pe_ix (ix_tupK (K := K) rfl) (pv 0) pe_int (fun _ _ => rfl)) (pv 2) (fun _ _ => rfl)) pe_int (fun _ _ => rfl))))) (fun _ _ _ _ _ => (pv 2))))), ?_⟩
    refine ⟨_, rfl, a, _, 3, _, rfl, rfl, ha, rfl, c, _, rfl, hc, fun p hp => ?_⟩
    have s1 : Same H (upd H p (.lst (intsV (t.post 0)).reverse)) := same_new (Same.refl H) hp
    have hp1 : (upd H p (.lst (intsV (t.post 0)).reverse)) p = some (.lst (intsV (t.post 0).reverse)) := by
      rw [upd_same]
      unfold intsV
      rw [List.map_reverse]
    generalize upd H p (.lst (intsV (t.post 0)).reverse) = H1 at s1 hp1 ⊢
    have hpl := Tr.post_len t 0
    have hil : (intsV (t.post 0).reverse).length = (t.post 0).length := by unfold intsV; rw [List.length_map, List.length_reverse]
    have hg : ∀ i, i < (t.post 0).length → (t.post 0).reverse[i]? = some ((t.post 0).reverse.getD i 0) := fun i hi => by
      rw [List.getD_eq_getElem?_getD, List.getElem?_eq_getElem (by rw [List.length_reverse]; exact hi)]
      rfl
    have hgv : ∀ i, i < (t.post 0).length → (intsV (t.post 0).reverse).getD i .non = .int ((t.post 0).reverse.getD i 0 : Nat) := fun i hi => getD_at (by unfold intsV; rw [List.getElem?_map, hg i hi]; rfl)
    refine ⟨p, rfl, ⟨_, sqL hp1⟩, fun D hD => lc_filt (walk_list (K := K) (a := p) (xs := intsV (t.post 0).reverse)) _ yAt (fun i => Tr.inSpan (t.spans 0) sl ((t.post 0).reverse.getD i 0)) (fun i => .int ((t.post 0).reverse.getD i 0 : Nat)) (fun H' s' => sqL (s' _ _ hp1)) hD (by omega) (fun _ => rfl) ?_ ?_ ?_⟩
    · intro i H' Q' hi s' q'
      have hi2 : i < (t.post 0).length := by omega
      rw [hgv i hi2]
      have hm := Tr.post_mem t 0 _ (List.mem_reverse.mp (List.mem_of_getElem? (hg i hi2)))
      generalize (t.post 0).reverse.getD i 0 = f at hm q' ⊢
      obtain ⟨lo, hi, es, _⟩ := Tr.spans_at t 0 f (by omega)
      obtain ⟨d, e1, hd⟩ := span_at hxs es
      have ss := s1.trans s'
      refine ⟨_, rfl, a, _, 2, _, rfl, rfl, sqt ss ha, rfl, _, rfl, b, xs, _, _, rfl, rfl, ss.seq hb, at_of rfl e1, d, _, 0, _, rfl, rfl, sqt ss hd, rfl, _, rfl, _, _, rfl, rfl, _, rfl, ?_⟩
      have ei : Tr.inSpan (t.spans 0) sl f = decide (lo ≤ sl ∧ sl ≤ hi) := by
        unfold Tr.inSpan
        rw [es]
      rw [ei] at q'
      rcases bool_cases ((lo : Int) ≤ (sl : Int)) with ⟨e0, g0⟩ | ⟨e0, g0⟩
      · rw [e0]
        refine ⟨_, rfl, a, _, 2, _, rfl, rfl, sqt ss ha, rfl, _, rfl, b, xs, _, _, rfl, rfl, ss.seq hb, at_of rfl e1, d, _, 1, _, rfl, rfl, sqt ss hd, rfl, _, _, rfl, rfl, _, rfl, ?_⟩
        have e3 : decide ((sl : Int) ≤ (hi : Int)) = decide (lo ≤ sl ∧ sl ≤ hi) := by
          rw [Bool.eq_iff_iff, decide_eq_true_iff, decide_eq_true_iff]
          omega
        rw [e3]
        exact q' H' (Same.refl _)
      · rw [e0]
        refine ⟨_, rfl, ?_⟩
        have e3 : decide (lo ≤ sl ∧ sl ≤ hi) = false := decide_eq_false (by omega)
        rw [e3] at q'
        exact q' H' (Same.refl _)
    · intro i H' Q' hi hb' s' q'
      rw [hgv i (by omega)]
      exact ⟨_, rfl, q' H' (Same.refl _)⟩
    · intro H' s' e
      refine q H' D (s1.trans s') (s1.free hD) ?_
      rw [e, hil, ← List.length_reverse]
      have e4 : ((List.range (t.post 0).reverse.length).filter fun i => Tr.inSpan (t.spans 0) sl ((t.post 0).reverse.getD i 0)).map (fun i => V.int ((t.post 0).reverse.getD i 0 : Nat)) = intsV (((List.range (t.post 0).reverse.length).filter fun i => Tr.inSpan (t.spans 0) sl ((t.post 0).reverse.getD i 0)).map fun i => (t.post 0).reverse.getD i 0) := by
        unfold intsV
        rw [List.map_map]
        rfl
      rw [e4, filt_idx, Tr.way_eq (Tr.SpOk.self t) sl (Nat.zero_le _) (by omega)]
end
end Ls
/-! The law's own defs: turned, free way, flags, names. -/
namespace Ls
open PySem PySem.Spec PyProof.Rows L2
theorem flag_code {F : List Bool} {f : Nat} (h : f < F.length) : (flagS F).cps.toList[f]? = some (sd (fget F f)) := by
  unfold flagS fget
  rw [S_cps, List.getElem?_map, List.getElem?_eq_getElem h, List.getD_eq_getElem?_getD, List.getElem?_eq_getElem h]
  rfl
theorem fget_at {F : List Bool} {f : Nat} (h : f < F.length) : F[f]? = some (fget F f) := by
  unfold fget
  rw [List.getD_eq_getElem?_getD, List.getElem?_eq_getElem h]
  rfl
theorem side_val (b : Bool) : V.str ⟨#[sd b]⟩ = V.str (sideS b) := rfl
theorem nat_pred {n : Nat} (h : 1 ≤ n) : (n : Int) - 1 = ((n - 1 : Nat) : Int) := by omega
theorem eqv_span (p q : Nat × Nat) : PyData.eqv (spD p) (spD q) = decide (p = q) := by
  obtain ⟨a, b⟩ := p
  obtain ⟨c, d⟩ := q
  show (((a : Int) == (c : Int)) && (((b : Int) == (d : Int)) && true)) = decide ((a, b) = (c, d))
  rw [Bool.and_true, Bool.eq_iff_iff, Bool.and_eq_true, beq_iff_eq, beq_iff_eq, decide_eq_true_iff]
  constructor
  · rintro ⟨h1, h2⟩
    rw [Int.ofNat.inj h1, Int.ofNat.inj h2]
  · intro h
    injection h with h1 h2
    rw [h1, h2]
    exact ⟨rfl, rfl⟩
theorem shaped_span (p : Nat × Nat) : SeqAt.shaped (spD p) = true := rfl
section
variable {P : Program} {w : World} {K : PySem.W.Frag} {mg : Str → Option Value} {base : Heap}
def spSide : Sp := fun vs H Q _ => ∃ f s : Nat, vs = [.int f, .int s] ∧ Q (.str (sideS (decide (s ≤ f)))) H
theorem ok_l_side (T : TX K mg) : FnOk P w K mg base CX0 1 T.l_side.f T.l_side.fd ["_law_fork", "_law_slot"] spSide := by
  refine T.l_side.F.ok sc_l_side (fun vs H Q E h => ?_) (fun cdv A outer s H vs Q E hr h => ?_)
  · obtain ⟨f, s, rfl, _⟩ := h
    rfl
  · obtain ⟨f, sl, rfl, q⟩ := h
    refine ⟨_, (pss_cons (ps_if (pt_cmpR op_le (pv 1) (pv 0) (nomark _))
        (pss_one (ps_ret pe_str))
        pss_nil)
      (pss_one (ps_ret pe_str))), ?_⟩
    refine ⟨_, rfl, _, rfl, _, _, rfl, rfl, _, rfl, ?_⟩
    rcases bool_cases ((sl : Int) ≤ (f : Int)) with ⟨e0, g0⟩ | ⟨e0, g0⟩
    · rw [e0]
      rw [decide_eq_true (show sl ≤ f by omega), ← L_str] at q
      exact q
    · rw [e0]
      rw [decide_eq_false (show ¬ sl ≤ f by omega), ← R_str] at q
      exact q
def spLTurned (K : PySem.W.Frag) : Sp := fun vs H Q _ => ∃ (v : V) (t : Tr) (F : List Bool) (s : Nat), vs = [v, .str (flagS F), .int s] ∧ Dp K H v (worldD t) ∧ t.slots ≤ 64 ∧ F.length = t.slots - 1 ∧ s < t.slots ∧ ∀ H', Same H H' → Q (.str (flagS (turn t F s))) H'
theorem ok_l_turned (T : TX K mg) : FnOk P w K mg base CX0 2 T.l_turned.f T.l_turned.fd ["_law_world_here", "_law_flags_here", "_law_slot"] (spLTurned K) := by
  refine T.l_turned.F.ok sc_l_turned (fun vs H Q E h => ?_) (fun cdv A outer s H vs Q E hr h => ?_)
  · obtain ⟨v, t, F, s, rfl, _⟩ := h
    rfl
  · obtain ⟨v, t, F, sl, rfl, hw, h64, hF, hs, q⟩ := h
    obtain ⟨a, b, c, xs, _, rfl, ha, hb, hxs, hc, _⟩ := world_open hw
    have p1 := Tr.slots_pos t
    refine ⟨_, (pss_cons (ps_setLc (i := 3) (own := [("_law_fork", 4)]) rfl sc_l_turned.nd rfl rfl (sw_true rfl rfl rfl (by decide +kernel)) (pi_range1 rfl T.b_range (pa_cons (pe_op op_sub (pe_ix ix_tup (pv 0) pe_int (fun _ _ => rfl)) pe_int) pa_nil)) (blkOk_by (N := ["_law_world_here", "_law_flags_here", "_law_slot", "_law_signs", "_law_fork"]) (sc := defScope s_l_turned) (by decide +kernel)) (fun _ _ _ _ _ => (pg_name (i := 4) sc_l_turned.nd rfl (by first | exact .inl rfl | exact .inr rfl))) (fun _ _ _ _ _ => pts_nil) (fun _ _ _ _ _ => (pe_ix ix_str (pv 1) (pv 4) (fun _ _ => rfl))))
      (pss_cons (ps_for PassesOwn.never rfl (pi_list (pe_call (ok_l_way T) (hr.mono (by decide)) (by rfl) T.l_way.g T.l_way.F.kp T.l_way.b .nil pass0 (pa_cons (pv 0) (pa_cons (pv 2) pa_nil)))) (pg_name (i := 4) sc_l_turned.nd rfl (by first | exact .inl rfl | exact .inr rfl))
        (pss_one (ps_asg (pe_call (ok_l_side T) (hr.mono (by decide)) (by rfl) T.l_side.g T.l_side.F.kp T.l_side.b .nil pass0 (pa_cons (pv 4) (pa_cons (pv 2) pa_nil))) (pg_sub (pv 3) (pv 4) set_list))))
      (pss_one (ps_ret (pe_join pe_str (pv 3)))))), ?_⟩
    refine ⟨_, rfl, a, _, 1, _, rfl, rfl, ha, rfl, _, _, rfl, rfl, ((t.slots - 1 : Nat) : Int), congrArg (fun z => [V.int z]) (nat_pred p1), by omega, by omega, fun D hD => lc_map (walk_range (lo := 0) (n := t.slots - 1)) _ yRng (fun i => .str (sideS (fget F i))) (fun _ _ => trivial) hD (by omega) (fun _ => rfl) ?_ ?_⟩
    · intro i H' Q' hi s' q'
      exact ⟨_, rfl, _, rfl, flagS F, _, _, rfl, rfl, by rw [flagS_len]; exact Nat.le_of_lt (small1000 (by omega)), at_str (flag_code (by omega)), q' H' (Same.refl _)⟩
    · intro H1 s1 e1
      have eF : (List.range (t.slots - 1)).map (fun i => V.str (sideS (fget F i))) = F.map fun z => V.str (sideS z) := by
        rw [← hF]
        exact range_map_of fun i x hx => by
          unfold fget
          rw [List.getD_eq_getElem?_getD, hx]
          rfl
      rw [eF] at e1
      refine ⟨_, rfl, _, rfl, _, t, sl, rfl, dp_mono s1 hw, h64, hs, fun H2 p s2 hp ep => ?_⟩
      have e2 := s2 _ _ e1
      have hpD : p ≠ D := fun z => by
        rw [z, e1] at hp
        cases hp
      have k2 : Same H (wo H2 D) := wo_of (s1.trans s2) hD
      have ep' : wo H2 D p = _ := (wo_ne hpD).trans ep
      refine ⟨p, rfl, ⟨_, sqL ep⟩, for_list (K := K) (a := p) (xs := intsV ((t.way 0 sl).map (·.1))) (fun i σ H' => ∃ v4, σ = [some (.ref a), some (.str (flagS F)), some (.int sl), some (.ref D), v4] ∧ Same (wo H2 D) H' ∧ H' D = some (.lst ((setF F ((t.way 0 sl).take i)).map fun z => V.str (sideS z))))
        ⟨none, rfl, wo_same, e2⟩ (fun i σ H' _ ⟨_, _, k, _⟩ => sqL (k _ _ ep')) ?_ ?_⟩
      · rintro i x σ H' hx ⟨v4, rfl, k, ed⟩
        have hi : i < (t.way 0 sl).length := by
          have := (List.getElem?_eq_some_iff.mp hx).1
          unfold intsV at this
          rw [List.length_map, List.length_map] at this
          exact this
        have ex : x = .int ((t.way 0 sl)[i].1 : Nat) := by
          unfold intsV at hx
          rw [List.getElem?_map, List.getElem?_map, List.getElem?_eq_getElem hi] at hx
          exact (Option.some.inj hx).symm
        subst ex
        obtain ⟨m1, m2, m3⟩ := Tr.way_mem t 0 sl _ (Nat.zero_le _) (by omega) (List.getElem_mem hi)
        refine ⟨_, rfl, _, rfl, _, sl, rfl, ?_⟩
        rw [← m3]
        refine ⟨_, rfl, _, rfl, D, _, _, (t.way 0 sl)[i].1, rfl, rfl, ed, ?_, ?_⟩
        · unfold ixN
          rw [if_pos (by omega), if_pos (by rw [List.length_map, setF_len]; omega), Int.toNat_natCast]
        · refine ⟨_, rfl, same_put k wo_at, ?_⟩
          rw [upd_same, setF_take hi, List.map_set]
      · rintro σ H' ⟨v4, rfl, k, ed⟩
        have el : (intsV ((t.way 0 sl).map (·.1))).length = (t.way 0 sl).length := by unfold intsV; rw [List.length_map, List.length_map]
        rw [el, List.take_length] at ed
        refine ⟨⟨_, rfl⟩, _, rfl, "", D, (setF F (t.way 0 sl)).map sideS, rfl, rfl, .inl (sqL ?_), ?_, ?_⟩
        · rw [ed, List.map_map]
          rfl
        · rw [sum_ones, List.length_map, setF_len]
          have e0 : ("" : Str).length = 0 := by decide +kernel
          rw [e0]
          omega
        · rw [join_sides]
          exact q H' (k2.trans k)
def spFree (K : PySem.W.Frag) : Sp := fun vs H Q _ => ∃ (v : V) (t : Tr) (F : List Bool), vs = [v, .str (flagS F)] ∧ Dp K H v (worldD t) ∧ t.slots ≤ 64 ∧ F.length = t.slots - 1 ∧ ∀ H', Same H H' → Q (.int (vict t F : Nat)) H'
theorem ok_l_free_way (T : TX K mg) : FnOk P w K mg base CX0 1 T.l_free_way.f T.l_free_way.fd ["_law_world_here", "_law_flags_here"] (spFree K) := by
  refine T.l_free_way.F.ok sc_l_free_way (fun vs H Q E h => ?_) (fun cdv A outer s H vs Q E hr h => ?_)
  · obtain ⟨v, t, F, rfl, _⟩ := h
    rfl
  · obtain ⟨v, t, F, rfl, hw, h64, hF, q⟩ := h
    obtain ⟨a, b, c, xs, _, rfl, ha, hb, hxs, hc, _⟩ := world_open hw
    have p1 := Tr.slots_pos t
    refine ⟨_, (pss_cons (ps_set (i := 2) sc_l_free_way.nd rfl (by first | exact .inl rfl | exact .inr rfl) pe_int)
      (pss_cons (ps_set (i := 3) sc_l_free_way.nd rfl (by first | exact .inl rfl | exact .inr rfl) (pe_op op_sub (pe_ix ix_tup (pv 0) pe_int (fun _ _ => rfl)) pe_int))
      (pss_cons (ps_for PassesOwn.never rfl (pi_list (pe_revL (pe_ix ix_tup (pv 0) pe_int (fun _ _ => rfl)))) (pg_name (i := 4) sc_l_free_way.nd rfl (by first | exact .inl rfl | exact .inr rfl))
        (pss_one (ps_if (pt_cmpR (op_eqD hr.units) (pe_ix ix_list (pe_ix ix_tup (pv 0) pe_int (fun _ _ => rfl)) (pv 4) (fun _ _ => rfl)) (pe_tup (pa_cons (pv 2) (pa_cons (pv 3) pa_nil))) (nomark _))
        (pss_one (ps_if (pt_cmpR op_eq (pe_ix ix_str (pv 1) (pv 4) (fun _ _ => rfl)) pe_str (nomark _))
        (pss_one (ps_set (i := 2) sc_l_free_way.nd rfl (by first | exact .inl rfl | exact .inr rfl) (pe_op op_add (pv 4) pe_int)))
        (pss_one (ps_set (i := 3) sc_l_free_way.nd rfl (by first | exact .inl rfl | exact .inr rfl) (pv 4)))))
        pss_nil)))
      (pss_one (ps_ret (pv 2)))))), ?_⟩
    refine ⟨_, rfl, a, _, 1, _, rfl, rfl, ha, rfl, _, _, rfl, rfl, ?_⟩
    refine ⟨_, rfl, a, _, 3, _, rfl, rfl, ha, rfl, c, _, rfl, hc, fun p hp => ?_⟩
    have s1 : Same H (upd H p (.lst (intsV (t.post 0)).reverse)) := same_new (Same.refl H) hp
    have hp1 : (upd H p (.lst (intsV (t.post 0)).reverse)) p = some (.lst (intsV (t.post 0).reverse)) := by
      rw [upd_same]
      unfold intsV
      rw [List.map_reverse]
    generalize upd H p (.lst (intsV (t.post 0)).reverse) = H1 at s1 hp1 ⊢
    have el : (intsV (t.post 0).reverse).length = (t.post 0).reverse.length := by unfold intsV; rw [List.length_map]
    have fin := Tr.free_eq (F := fget F) (Tr.SpOk.self t)
    rw [Nat.zero_add] at fin
    refine ⟨p, rfl, ⟨_, sqL hp1⟩, for_list (K := K) (a := p) (xs := intsV (t.post 0).reverse) (fun i σ H' => ∃ (lh : Nat × Nat) (v4 : Option V), ((t.post 0).reverse.take i).foldl (Tr.freeStep (t.spans 0) (fget F)) (0, t.slots - 1) = lh ∧ σ = [some (.ref a), some (.str (flagS F)), some (.int (lh.1 : Nat)), some (.int (lh.2 : Nat)), v4] ∧ Same H1 H')
      ⟨(0, t.slots - 1), none, rfl, ?_, Same.refl H1⟩ (fun i σ H' _ ⟨_, _, _, _, k⟩ => sqL (k _ _ hp1)) ?_ ?_⟩
    · show _ = [some (V.ref a), some (V.str (flagS F)), some (V.int ((0 : Nat) : Int)), some (V.int ((t.slots - 1 : Nat) : Int)), none]
      rw [← nat_pred p1]
      rfl
    · rintro i x σ H' hx ⟨⟨lo, hi⟩, v4, ef, rfl, k⟩
      have hi2 : i < (t.post 0).reverse.length := by
        rw [← el]
        exact (List.getElem?_eq_some_iff.mp hx).1
      have e1 : (t.post 0).reverse[i]? = some (t.post 0).reverse[i] := List.getElem?_eq_getElem hi2
      unfold intsV at hx
      rw [List.getElem?_map, e1] at hx
      cases hx
      have hm := Tr.post_mem t 0 _ (List.mem_reverse.mp (List.mem_of_getElem? e1))
      have estep : ((t.post 0).reverse.take (i + 1)).foldl (Tr.freeStep (t.spans 0) (fget F)) (0, t.slots - 1) = Tr.freeStep (t.spans 0) (fget F) (lo, hi) (t.post 0).reverse[i] := by
        rw [List.take_add_one, e1, List.foldl_append, ef]
        rfl
      generalize (t.post 0).reverse[i] = f at hm estep
      obtain ⟨sl, sh, es, _⟩ := Tr.spans_at t 0 f (by omega)
      obtain ⟨d, e2, hd⟩ := span_at hxs es
      have ss := s1.trans k
      refine ⟨_, rfl, a, _, 2, _, rfl, rfl, sqt ss ha, rfl, _, rfl, b, xs, _, _, rfl, rfl, ss.seq hb, at_of rfl e2, ?_⟩
      refine ⟨_, rfl, _, rfl, (by show 2 ≤ sizeLine; decide), fun g hg => ?_⟩
      have n1 := same_new (Same.refl H') hg (o := .tup [.int (lo : Nat), .int (hi : Nat)])
      refine ⟨spD (sl, sh), spD (lo, hi), .tup (sqt (ss.trans n1) hd) (.cons (.int _) (.cons (.int _) .nil)), .tup (sqT upd_same) (.cons (.int _) (.cons (.int _) .nil)), shaped_span _, shaped_span _, _, rfl, ?_⟩
      rw [eqv_span]
      unfold Tr.freeStep at estep
      rw [es] at estep
      rcases bool_cases ((sl, sh) = (lo, hi)) with ⟨e0, g0⟩ | ⟨e0, g0⟩
      · rw [e0]
        rw [if_pos (congrArg some g0)] at estep
        refine ⟨_, rfl, _, rfl, flagS F, _, _, rfl, rfl, by rw [flagS_len]; exact Nat.le_of_lt (small1000 (by omega)), at_str (flag_code (by omega)), rfl, _, rfl, ?_⟩
        cases hf : fget F f with
        | true =>
          rw [if_pos hf] at estep
          have e3 : decide (V.str ⟨#[sd true]⟩ = V.str "L") = true := by decide +kernel
          rw [e3]
          exact ⟨_, rfl, _, _, rfl, rfl, _, _, estep, rfl, k.trans n1⟩
        | false =>
          rw [if_neg (by rw [hf]; exact Bool.false_ne_true)] at estep
          have e3 : decide (V.str ⟨#[sd false]⟩ = V.str "L") = false := by decide +kernel
          rw [e3]
          exact ⟨_, rfl, _, _, estep, rfl, k.trans n1⟩
      · rw [e0]
        rw [if_neg (fun z => g0 (Option.some.inj z))] at estep
        exact ⟨_, _, estep, rfl, k.trans n1⟩
    · rintro σ H' ⟨lh, v4, ef, rfl, k⟩
      rw [el, List.take_length, fin] at ef
      subst ef
      exact ⟨_, rfl, q H' (s1.trans k)⟩
end
end Ls
/-! The law's own defs: flags, names, least, served, asked. -/
namespace Ls
open PySem PySem.Spec PyProof.Rows L2
def lets : List Nat := (List.range 26).map (97 + ·)
theorem lets_str : (("abcdefghijklmnopqrstuvwxyz" : Str)).cps.toList = lets := by decide +kernel
theorem lets_in : (lets.all fun c => decide (c ∈ signs36)) = true := by decide +kernel
theorem lr_code {r : Nat} (h : r < 2) : (("LR" : Str)).cps.toList[r]? = some (sd (decide (r = 0))) := by
  match r, h with
  | 0, _ => decide +kernel
  | 1, _ => decide +kernel
/-- the names of the law: a letter and the slot -/
def NameOk (es : List Str) : Prop := ∀ i e, es[i]? = some e → ∃ c, c ∈ lets ∧ e = S (c :: dg i)
theorem NameOk.ent {es : List Str} (h : NameOk es) (hl : es.length ≤ 64) : ∀ e ∈ es, Ent e := by
  intro e he
  obtain ⟨i, hi⟩ := List.mem_iff_getElem?.mp he
  obtain ⟨c, hc, rfl⟩ := h i e hi
  have := (List.getElem?_eq_some_iff.mp hi).1
  refine ent_of [c] i (by omega) (show 1 ≤ 9 by decide) ?_
  show (decide (c ∈ signs36) && true) = true
  rw [Bool.and_true]
  exact List.all_eq_true.mp lets_in c hc
theorem NameOk.nodup {es : List Str} (h : NameOk es) (hl : es.length ≤ 64) : es.Nodup := by
  refine List.pairwise_iff_getElem.mpr fun i j hi hj hij e => ?_
  obtain ⟨c, _, e1⟩ := h i _ (List.getElem?_eq_getElem hi)
  obtain ⟨d, _, e2⟩ := h j _ (List.getElem?_eq_getElem hj)
  rw [e1, e2] at e
  have := dg_inj i (by omega) j (by omega) (List.cons.inj (S_inj e)).2
  omega
section
variable {P : Program} {w : World} {K : PySem.W.Frag} {mg : Str → Option Value} {base : Heap}
def spLFlags (K : PySem.W.Frag) : Sp := fun vs H Q _ => ∃ (b : Addr) (v : V) (t : Tr), vs = [.ref b, v] ∧ BoxAt H b ∧ Dp K H v (worldD t) ∧ t.slots ≤ 64 ∧ ∀ H' F, Same (wo H b) H' → BoxAt H' b → F.length = t.slots - 1 → Q (.str (flagS F)) H'
theorem box_ne {H : Hp} {b D : Addr} (h : BoxAt H b) (hD : H D = none) : b ≠ D := by
  obtain ⟨x, y, z, h⟩ := h
  exact ne_of_none h hD
theorem ok_l_flags (T : TX K mg) : FnOk P w K mg base CX0 2 T.l_flags.f T.l_flags.fd ["_law_box_here", "_law_world_here"] (spLFlags K) := by
  refine T.l_flags.F.ok sc_l_flags (fun vs H Q E h => ?_) (fun cdv A outer s H vs Q E hr h => ?_)
  · obtain ⟨b, v, t, rfl, _⟩ := h
    rfl
  · obtain ⟨b, v, t, rfl, hB, hw, h64, q⟩ := h
    obtain ⟨a, b', c, xs, _, rfl, ha, hb, hxs, hc, _⟩ := world_open hw
    have p1 := Tr.slots_pos t
    refine ⟨_, (pss_one (ps_ret (pe_join pe_str (pe_lc (own := [("_law_k", 2)]) rfl sc_l_flags.nd (pi_range1 rfl T.b_range (pa_cons (pe_op op_sub (pe_ix ix_tup (pv 1) pe_int (fun _ _ => rfl)) pe_int) pa_nil)) (blkOk_by (N := ["_law_box_here", "_law_world_here", "_law_k"]) (sc := defScope s_l_flags) (by decide +kernel)) (fun _ _ _ _ _ => (pg_name (i := 2) sc_l_flags.nd rfl (by first | exact .inl rfl | exact .inr rfl))) (fun _ _ _ _ _ => pts_nil) (fun _ _ _ _ _ => (pe_ix ix_str pe_str (pe_call (ok_l_take T) (hr.mono (by decide)) (by rfl) T.l_take.g T.l_take.F.kp T.l_take.b .nil pass0 (pa_cons (pv 0) (pa_cons pe_int pa_nil))) (fun _ _ => rfl))))))), ?_⟩
    refine ⟨⟨_, rfl⟩, _, rfl, a, _, 1, _, rfl, rfl, ha, rfl, _, _, rfl, rfl, ((t.slots - 1 : Nat) : Int), congrArg (fun z => [V.int z]) (nat_pred p1), by omega, by omega, fun D hD => lc_it (walk_range (lo := 0) (n := t.slots - 1)) (fun i H' => ∃ F : List Bool, F.length = i ∧ Same (wo H b) H' ∧ BoxAt H' b ∧ H' D = some (.lst (F.map fun z => V.str (sideS z))))
      ⟨[], rfl, same_put wo_same (wo_none hD), hB.mono (same_new (Same.refl H) hD), upd_same⟩ (fun _ _ _ _ => trivial) ?_ ?_⟩
    · rintro i x H1 H2 hi ⟨F, hl, k, hB1, eD⟩ ⟨rfl, rfl⟩
      refine ⟨rfl, ?_⟩
      refine ⟨_, rfl, b, 2, rfl, hB1, by decide, by decide, fun H3 r s3 hB3 hr2 => ?_⟩
      have hne := box_ne hB hD
      have e3 := s3 D _ ((wo_ne hne.symm).trans eD)
      refine ⟨"LR", _, _, rfl, rfl, (by decide +kernel), at_str (lr_code hr2), _, e3, ?_, F ++ [decide (r = 0)], ?_, ?_, ?_, ?_⟩
      · rw [List.length_map, hl]
        have := small1000 (n := 64) (by decide)
        omega
      · rw [List.length_append, hl]
        rfl
      · exact same_put ((wo_of k wo_at).trans s3) (wo_none hD)
      · obtain ⟨x, y, z, h⟩ := hB3
        exact ⟨x, y, z, by rw [upd_ne hne]; exact h⟩
      · rw [upd_same, List.map_append]
        rfl
    · rintro H1 ⟨F, hl, k, hB1, eD⟩
      refine ⟨"", D, F.map sideS, rfl, rfl, .inl (sqL (by rw [eD, List.map_map]; rfl)), ?_, ?_⟩
      · rw [sum_ones, List.length_map]
        have e0 : ("" : Str).length = 0 := by decide +kernel
        rw [e0]
        omega
      · rw [join_sides]
        exact q H1 F k hB1 hl
def spNames : Sp := fun vs H Q _ => ∃ (b : Addr) (n : Nat), vs = [.ref b, .int n] ∧ BoxAt H b ∧ n ≤ 64 ∧ ∀ H' p es, Same (wo H b) H' → BoxAt H' b → H p = none → H' p = some (.lst (es.map V.str)) → es.length = n → NameOk es → Q (.ref p) H'
theorem ok_l_names (T : TX K mg) : FnOk P w K mg base CX0 2 T.l_names.f T.l_names.fd ["_law_box_here", "_law_many"] spNames := by
  refine T.l_names.F.ok sc_l_names (fun vs H Q E h => ?_) (fun cdv A outer s H vs Q E hr h => ?_)
  · obtain ⟨b, n, rfl, _⟩ := h
    rfl
  · obtain ⟨b, n, rfl, hB, h64, q⟩ := h
    refine ⟨_, (pss_one (ps_ret (pe_lc (own := [("_law_slot", 2)]) rfl sc_l_names.nd (pi_range1 rfl T.b_range (pa_cons (pv 1) pa_nil)) (blkOk_by (N := ["_law_box_here", "_law_many", "_law_slot"]) (sc := defScope s_l_names) (by decide +kernel)) (fun _ _ _ _ _ => (pg_name (i := 2) sc_l_names.nd rfl (by first | exact .inl rfl | exact .inr rfl))) (fun _ _ _ _ _ => pts_nil) (fun _ _ _ _ _ => (pe_op op_add_str (pe_ix ix_str pe_str (pe_call (ok_l_take T) (hr.mono (by decide)) (by rfl) T.l_take.g T.l_take.F.kp T.l_take.b .nil pass0 (pa_cons (pv 0) (pa_cons pe_int pa_nil))) (fun _ _ => rfl)) (pe_callTy call_str_int (by rfl) T.b_str (by decide +kernel) (pa_cons (pv 2) pa_nil))))))), ?_⟩
    refine ⟨_, rfl, (n : Int), rfl, by omega, by omega, fun D hD => lc_it (walk_range (lo := 0) (n := n)) (fun i H' => ∃ es : List Str, es.length = i ∧ NameOk es ∧ Same (wo H b) H' ∧ BoxAt H' b ∧ H' D = some (.lst (es.map V.str)))
      ⟨[], rfl, (fun i e h => by cases h), same_put wo_same (wo_none hD), hB.mono (same_new (Same.refl H) hD), upd_same⟩ (fun _ _ _ _ => trivial) ?_ ?_⟩
    · rintro i x H1 H2 hi ⟨es, hl, hn, k, hB1, eD⟩ ⟨rfl, rfl⟩
      refine ⟨rfl, ?_⟩
      refine ⟨_, rfl, b, 26, rfl, hB1, by decide, by decide, fun H3 r s3 hB3 hr2 => ?_⟩
      have hne := box_ne hB hD
      have e3 := s3 D _ ((wo_ne hne.symm).trans eD)
      have hrl : r < lets.length := by
        have : lets.length = 26 := by decide
        omega
      have hc : (("abcdefghijklmnopqrstuvwxyz" : Str)).cps.toList[r]? = some lets[r] := by
        rw [lets_str, List.getElem?_eq_getElem hrl]
      have hE : (⟨#[lets[r]]⟩ : Str) ++ toString (0 + (i : Int)) = S (lets[r] :: dg i) := by
        rw [Int.zero_add, dg_str, show (⟨#[lets[r]]⟩ : Str) = S [lets[r]] from rfl, S_app]
        rfl
      have hdl := (dg_ok i (by omega)).1
      refine ⟨"abcdefghijklmnopqrstuvwxyz", _, _, rfl, rfl, (by decide +kernel), at_str hc, _, rfl, _, rfl, ?_, _, _, rfl, rfl, ?_, ?_⟩
      · rw [Int.zero_add]
        exact log2_small (by omega)
      · rw [Int.zero_add, dg_str, S_len]
        show 1 + _ ≤ _
        have := small1000 (n := 64) (by decide)
        omega
      · rw [hE]
        refine ⟨_, e3, ?_, es ++ [S (lets[r] :: dg i)], ?_, ?_, ?_, ?_, ?_⟩
        · rw [List.length_map, hl]
          have := small1000 (n := 64) (by decide)
          omega
        · rw [List.length_append, hl]
          rfl
        · intro j e hj
          rcases Nat.lt_or_ge j es.length with h1 | h1
          · rw [List.getElem?_append_left h1] at hj
            exact hn j e hj
          · rw [List.getElem?_append_right h1] at hj
            have hj0 : j - es.length = 0 := by
              have := (List.getElem?_eq_some_iff.mp hj).1
              simp at this
              omega
            rw [hj0] at hj
            cases hj
            have : j = i := by omega
            subst this
            exact ⟨_, List.getElem_mem hrl, rfl⟩
        · exact same_put ((wo_of k wo_at).trans s3) (wo_none hD)
        · obtain ⟨x, y, z, h⟩ := hB3
          exact ⟨x, y, z, by rw [upd_ne hne]; exact h⟩
        · rw [upd_same, List.map_append]
          rfl
    · rintro H1 ⟨es, hl, hn, k, hB1, eD⟩
      exact q H1 D es k hB1 hD eD hl hn
def spLLeast (K : PySem.W.Frag) : Sp := fun vs H Q _ => ∃ (v : V) (t : Tr), vs = [v] ∧ Dp K H v (worldD t) ∧ t.slots ≤ 64 ∧ ∀ H', Same H H' → Q (.int (t.least : Nat)) H'
theorem ok_l_least (T : TX K mg) : FnOk P w K mg base CX0 2 T.l_least.f T.l_least.fd ["_law_world_here"] (spLLeast K) := by
  refine T.l_least.F.ok sc_l_least (fun vs H Q E h => ?_) (fun cdv A outer s H vs Q E hr h => ?_)
  · obtain ⟨v, t, rfl, _⟩ := h
    rfl
  · obtain ⟨v, t, rfl, hw, h64, q⟩ := h
    obtain ⟨a, b, c, xs, _, rfl, ha, hb, hxs, hc, _⟩ := world_open hw
    refine ⟨_, (pss_one (ps_ret (pe_callB (cr_min rfl) (by rfl) T.b_min (by decide +kernel) (pa_cons (pe_lc (own := [("_law_slot", 1)]) rfl sc_l_least.nd (pi_range1 rfl T.b_range (pa_cons (pe_ix ix_tup (pv 0) pe_int (fun _ _ => rfl)) pa_nil)) (blkOk_by (N := ["_law_world_here", "_law_slot"]) (sc := defScope s_l_least) (by decide +kernel)) (fun _ _ _ _ _ => (pg_name (i := 1) sc_l_least.nd rfl (by first | exact .inl rfl | exact .inr rfl))) (fun _ _ _ _ _ => pts_nil) (fun _ _ _ _ _ => (pe_callB (call_len_seqK (K := K) rfl) (by rfl) T.b_len (by decide +kernel) (pa_cons (pe_call (ok_l_way T) (hr.mono (by decide)) (by rfl) T.l_way.g T.l_way.F.kp T.l_way.b .nil pass0 (pa_cons (pv 0) (pa_cons (pv 1) pa_nil))) pa_nil)))) pa_nil)))), ?_⟩
    refine ⟨_, rfl, a, _, 1, _, rfl, rfl, ha, rfl, (t.slots : Int), rfl, by omega, by omega, fun D hD => lc_map (walk_range (lo := 0) (n := t.slots)) _ yRng (fun i => .int ((t.way 0 i).length : Nat)) (fun _ _ => trivial) hD (by omega) (fun _ => rfl) ?_ ?_⟩
    · intro i H' Q' hi s' q'
      refine ⟨_, rfl, _, rfl, _, t, i, rfl, dp_mono s' hw, h64, hi, fun H2 p s2 hp ep => ⟨p, _, rfl, .inl (sqL ep), ?_⟩⟩
      unfold intsV
      rw [List.length_map, List.length_map]
      exact q' H2 s2
    · intro H' s' e
      refine ⟨D, (List.range t.slots).map fun i => ((t.way 0 i).length : Int), rfl, .inl (.inl (by rw [e, List.map_map]; rfl)), ?_, fun m hm hall => ?_⟩
      · rw [List.length_map, List.length_range]
        exact Tr.slots_pos t
      · obtain ⟨i, hi, rfl⟩ := List.mem_map.mp hm
        have hi := List.mem_range.mp hi
        have e2 : (t.way 0 i).length = t.least := Tr.least_min t ⟨i, hi, rfl⟩ fun s hs2 => by
          have := hall _ (List.mem_map.mpr ⟨s, List.mem_range.mpr hs2, rfl⟩)
          omega
        rw [e2]
        exact q H' s'
/-- the law's own cache: flags and entries -/
def ModelAt (H : Hp) (m l : Addr) (F : List Bool) (es : List Str) : Prop := H m = some (.lst [.str (flagS F), .ref l]) ∧ H l = some (.lst (es.map V.str)) ∧ l ≠ m
def spServed (K : PySem.W.Frag) : Sp := fun vs H Q _ => ∃ (H0 : Hp) (v : V) (m l : Addr) (t : Tr) (F : List Bool) (es : List Str) (e : Str), vs = [v, .ref m, .str e] ∧ Same H0 H ∧ H0 m = none ∧ Dp K H0 v (worldD t) ∧ t.slots ≤ 64 ∧ ModelAt H m l F es ∧ H0 l = some (.lst (es.map V.str)) ∧ F.length = t.slots - 1 ∧ es.length = t.slots ∧
  ∀ H' p l', Same H0 H' → H p = none → ModelAt H' m l' (reqF t F es e) (reqE t F es e) → H' p = some (.tup (ansV t F es e)) → (l' = l ∨ H l' = none) → Q (.ref p) H'
theorem cut_to {xs : List V} {k : Nat} (h : k ≤ xs.length) : cutV xs none (some (k : Int)) = xs.take k := by
  unfold cutV
  have e2 : HT.sIx xs.length xs.length (some (k : Int)) = min k xs.length := HT.sIx_nat _ _ k
  rw [e2, HT.sIx_none, Nat.sub_zero, List.drop_zero, Nat.min_eq_left h]
theorem cut_from {xs : List V} {k : Nat} (h : k ≤ xs.length) : cutV xs (some (k : Int)) none = xs.drop k := by
  unfold cutV
  have e2 : HT.sIx xs.length 0 (some (k : Int)) = min k xs.length := HT.sIx_nat _ _ k
  rw [e2, HT.sIx_none, Nat.min_eq_left h]
  exact List.take_of_length_le (by rw [List.length_drop]; exact Nat.le_refl _)
theorem ok_l_served (T : TX K mg) : FnOk P w K mg base CX0 3 T.l_served.f T.l_served.fd ["_law_world_here", "_law_model", "_law_name"] (spServed K) := by
  refine T.l_served.F.ok sc_l_served (fun vs H Q E h => ?_) (fun cdv A outer s H vs Q E hr h => ?_)
  · obtain ⟨H0, v, m, l, t, F, es, e, rfl, _⟩ := h
    rfl
  · obtain ⟨H0, v, m, l, t, F, es, e, rfl, k0, hm0, hw, h64, ⟨hm, hl, hlm⟩, hl0, hF, hel, q⟩ := h
    refine ⟨_, (pss_cons (ps_if (pt_cmpR op_in_seq (pv 2) (pe_ix ix_list (pv 1) pe_int (fun _ _ => rfl)) (by rfl))
        (pss_cons (ps_set (i := 3) sc_l_served.nd rfl (by first | exact .inl rfl | exact .inr rfl) (pe_bm PySem.F.plainAttrs_list PySem.F.slot_list_index PySem.F.type_list_index mt_index (pe_ix ix_list (pv 1) pe_int (fun _ _ => rfl)) (pa_cons (pv 2) pa_nil)))
      (pss_cons (ps_asg (pe_call (ok_l_turned T) (hr.mono (by decide)) (by rfl) T.l_turned.g T.l_turned.F.kp T.l_turned.b .nil pass0 (pa_cons (pv 0) (pa_cons (pe_ix ix_list (pv 1) pe_int (fun _ _ => rfl)) (pa_cons (pv 3) pa_nil)))) (pg_sub (pv 1) pe_int set_list))
      (pss_one (ps_ret (pe_tup (pa_cons pe_str (pa_cons (pv 3) (pa_cons pe_non pa_nil))))))))
        pss_nil)
      (pss_cons (ps_set (i := 3) sc_l_served.nd rfl (by first | exact .inl rfl | exact .inr rfl) (pe_call (ok_l_free_way T) (hr.mono (by decide)) (by rfl) T.l_free_way.g T.l_free_way.F.kp T.l_free_way.b .nil pass0 (pa_cons (pv 0) (pa_cons (pe_ix ix_list (pv 1) pe_int (fun _ _ => rfl)) pa_nil))))
      (pss_cons (ps_set (i := 4) sc_l_served.nd rfl (by first | exact .inl rfl | exact .inr rfl) (pe_ix ix_list (pe_ix ix_list (pv 1) pe_int (fun _ _ => rfl)) (pv 3) (fun _ _ => rfl)))
      (pss_cons (ps_asg (pe_call (ok_l_turned T) (hr.mono (by decide)) (by rfl) T.l_turned.g T.l_turned.F.kp T.l_turned.b .nil pass0 (pa_cons (pv 0) (pa_cons (pe_ix ix_list (pv 1) pe_int (fun _ _ => rfl)) (pa_cons (pv 3) pa_nil)))) (pg_sub (pv 1) pe_int set_list))
      (pss_cons (ps_asg (pe_op op_cat (pe_op op_cat (pe_slice sl_list (pe_ix ix_list (pv 1) pe_int (fun _ _ => rfl)) po_none (po_some (pv 3))) (pe_lst (pa_cons (pv 2) pa_nil))) (pe_slice sl_list (pe_ix ix_list (pv 1) pe_int (fun _ _ => rfl)) (po_some (pe_op op_add (pv 3) pe_int)) po_none)) (pg_sub (pv 1) pe_int set_list))
      (pss_one (ps_ret (pe_tup (pa_cons pe_str (pa_cons (pv 3) (pa_cons (pv 4) pa_nil))))))))))), ?_⟩
    refine ⟨_, rfl, _, rfl, m, _, 1, _, rfl, rfl, sqL hm, rfl, l, _, rfl, .inl (sqL hl), rfl, flat_strs _, _, rfl, ?_⟩
    rw [inV_strs]
    unfold reqF reqE ansV at q
    by_cases hin : e ∈ es
    · rw [decide_eq_true hin]
      rw [if_pos hin] at q
      rw [if_pos hin, if_pos hin] at q
      obtain ⟨f1, f2, f3⟩ := idx_facts hin
      refine ⟨_, rfl, m, _, 1, _, rfl, rfl, sqL hm, rfl, .inl ⟨rfl, _, sqL hl⟩, _, rfl, l, _, .str e, es.idxOf e, .str e, rfl, rfl, sqL hl, rfl, flat_strs _, by rw [List.getElem?_map, f2]; rfl, by show (e == e) = true; exact beq_self_eq_true e, fun j z hj hz => ?_, ?_⟩
      · rw [List.getElem?_map] at hz
        cases e3 : es[j]? with
        | none => rw [e3] at hz; cases hz
        | some y =>
          rw [e3] at hz
          cases hz
          exact f3 j y hj e3
      · refine ⟨_, rfl, _, rfl, m, _, 0, _, rfl, rfl, sqL hm, rfl, _, rfl, v, t, F, es.idxOf e, rfl, dp_mono k0 hw, h64, hF, by omega, fun H1 s1 => ?_⟩
        have hm1 := s1 _ _ hm
        refine ⟨_, rfl, m, _, 0, 0, rfl, rfl, hm1, rfl, ?_⟩
        have k1 : Same H0 (upd H1 m (.lst ([.str (flagS F), .ref l].set 0 (.str (flagS (turn t F (es.idxOf e))))))) := same_put (k0.trans s1) hm0
        have e1 : (upd H1 m (.lst ([V.str (flagS F), .ref l].set 0 (.str (flagS (turn t F (es.idxOf e))))))) m = some (.lst [.str (flagS (turn t F (es.idxOf e))), .ref l]) := upd_same
        refine ⟨_, rfl, (by show 3 ≤ sizeLine; decide), fun p hp => ?_⟩
        have n2 := same_new (Same.refl _) hp (o := .tup [.str "hit", .int (es.idxOf e : Nat), .non])
        have hpm : p ≠ m := fun z => by rw [z, e1] at hp; cases hp
        refine q _ p l (k1.trans n2) ?_ ⟨n2 _ _ e1, (k1.trans n2) _ _ hl0, hlm⟩ upd_same (.inl rfl)
        rw [upd_ne hpm] at hp
        exact s1.free hp
    · rw [decide_eq_false hin]
      rw [if_neg hin] at q
      rw [if_neg hin, if_neg hin] at q
      have hv := vict_lt t F
      have hv2 : vict t F < es.length := by omega
      have hev : es[vict t F]? = some (es.getD (vict t F) Str.empty) := by
        rw [List.getD_eq_getElem?_getD, List.getElem?_eq_getElem hv2]
        rfl
      refine ⟨_, rfl, _, rfl, m, _, 0, _, rfl, rfl, sqL hm, rfl, v, t, F, rfl, dp_mono k0 hw, h64, hF, fun H1 s1 => ?_⟩
      have hm1 := s1 _ _ hm
      have hl1 := s1 _ _ hl
      have k1 := k0.trans s1
      refine ⟨_, rfl, m, _, 1, _, rfl, rfl, sqL hm1, rfl, _, rfl, l, _, _, _, rfl, rfl, sqL hl1, at_of rfl (show (es.map V.str)[vict t F]? = some (.str (es.getD (vict t F) Str.empty)) by rw [List.getElem?_map, hev]; rfl), ?_⟩
      refine ⟨_, rfl, _, rfl, m, _, 0, _, rfl, rfl, sqL hm1, rfl, _, rfl, v, t, F, vict t F, rfl, dp_mono k1 hw, h64, hF, hv, fun H2 s2 => ?_⟩
      have hm2 := s2 _ _ hm1
      refine ⟨_, rfl, m, _, 0, 0, rfl, rfl, hm2, rfl, ?_⟩
      have k2 : Same H0 (upd H2 m (.lst ([.str (flagS F), .ref l].set 0 (.str (flagS (turn t F (vict t F))))))) := same_put (k1.trans s2) hm0
      have e2 : (upd H2 m (.lst ([V.str (flagS F), .ref l].set 0 (.str (flagS (turn t F (vict t F))))))) m = some (.lst [.str (flagS (turn t F (vict t F))), .ref l]) := upd_same
      have fr2 : ∀ p, (upd H2 m (.lst ([V.str (flagS F), .ref l].set 0 (.str (flagS (turn t F (vict t F))))))) p = none → H p = none := fun p hp => by
        have hpm : p ≠ m := fun z => by rw [z, e2] at hp; cases hp
        rw [upd_ne hpm] at hp
        exact s1.free (s2.free hp)
      generalize upd H2 m (.lst ([V.str (flagS F), .ref l].set 0 (.str (flagS (turn t F (vict t F)))))) = H3 at k2 e2 fr2 ⊢
      have hl3 := k2 _ _ hl0
      have zl : es.length ≤ 64 := by omega
      have z1000 := small1000 (n := 200) (by decide)
      refine ⟨_, rfl, m, _, 1, _, rfl, rfl, sqL e2, rfl, _, rfl, _, rfl, l, _, rfl, sqL hl3, fun p1 hp1 => ?_⟩
      rw [cut_to (by rw [List.length_map]; omega)]
      have n1 := same_new (Same.refl H3) hp1 (o := .lst ((es.map V.str).take (vict t F)))
      have a1 : (upd H3 p1 (.lst ((es.map V.str).take (vict t F)))) p1 = some (.lst ((es.map V.str).take (vict t F))) := upd_same
      generalize upd H3 p1 (.lst ((es.map V.str).take (vict t F))) = H4 at n1 a1 ⊢
      refine ⟨_, rfl, (by show 1 ≤ sizeLine; decide), fun p2 hp2 => ?_⟩
      have n2 := same_new (Same.refl H4) hp2 (o := .lst [.str e])
      have a2 : (upd H4 p2 (.lst [.str e])) p2 = some (.lst [.str e]) := upd_same
      generalize upd H4 p2 (.lst [.str e]) = H5 at n2 a2 ⊢
      refine ⟨p1, p2, _, _, rfl, rfl, n2 _ _ a1, a2, ?_, fun p3 hp3 => ?_⟩
      · rw [List.length_take, List.length_map, List.length_singleton]; omega
      have n3 := same_new (Same.refl H5) hp3 (o := .lst ((es.map V.str).take (vict t F) ++ [.str e]))
      have a3 : (upd H5 p3 (.lst ((es.map V.str).take (vict t F) ++ [.str e]))) p3 = some (.lst ((es.map V.str).take (vict t F) ++ [.str e])) := upd_same
      generalize upd H5 p3 (.lst ((es.map V.str).take (vict t F) ++ [.str e])) = H6 at n3 a3 ⊢
      have n36 := n1.trans (n2.trans n3)
      refine ⟨_, rfl, m, _, 1, _, rfl, rfl, sqL (n36 _ _ e2), rfl, ?_⟩
      refine ⟨_, rfl, _, _, rfl, rfl, _, rfl, l, _, rfl, sqL (n36 _ _ hl3), fun p4 hp4 => ?_⟩
      rw [show ((vict t F : Nat) : Int) + 1 = ((vict t F + 1 : Nat) : Int) from rfl, cut_from (by rw [List.length_map]; omega)]
      have n4 := same_new (Same.refl H6) hp4 (o := .lst ((es.map V.str).drop (vict t F + 1)))
      have a4 : (upd H6 p4 (.lst ((es.map V.str).drop (vict t F + 1)))) p4 = some (.lst ((es.map V.str).drop (vict t F + 1))) := upd_same
      generalize upd H6 p4 (.lst ((es.map V.str).drop (vict t F + 1))) = H7 at n4 a4 ⊢
      refine ⟨p3, p4, _, _, rfl, rfl, n4 _ _ a3, a4, ?_, fun p5 hp5 => ?_⟩
      · rw [List.length_append, List.length_take, List.length_drop, List.length_map, List.length_singleton]; omega
      have eS : (es.map V.str).take (vict t F) ++ [V.str e] ++ (es.map V.str).drop (vict t F + 1) = (es.set (vict t F) e).map V.str := by
        rw [List.map_set, List.set_eq_take_append_cons_drop, if_pos (by rw [List.length_map]; omega), List.append_assoc]
        rfl
      rw [eS]
      have n5 := same_new (Same.refl H7) hp5 (o := .lst ((es.set (vict t F) e).map V.str))
      have a5 : (upd H7 p5 (.lst ((es.set (vict t F) e).map V.str))) p5 = some (.lst ((es.set (vict t F) e).map V.str)) := upd_same
      have n47 := n36.trans n4
      have hp5H : H p5 = none := fr2 _ (n47.free hp5)
      generalize upd H7 p5 (.lst ((es.set (vict t F) e).map V.str)) = H8 at n5 a5 ⊢
      have n48 := n47.trans n5
      have hm8 := n48 _ _ e2
      have h5m : p5 ≠ m := fun z => by rw [z, hm] at hp5H; cases hp5H
      refine ⟨_, rfl, m, _, 1, 1, rfl, rfl, hm8, rfl, ?_⟩
      have k9 : Same H0 (upd H8 m (.lst ([V.str (flagS (turn t F (vict t F))), .ref l].set 1 (.ref p5)))) := same_put (k2.trans n48) hm0
      have e9 : (upd H8 m (.lst ([V.str (flagS (turn t F (vict t F))), .ref l].set 1 (.ref p5)))) m = some (.lst [.str (flagS (turn t F (vict t F))), .ref p5]) := upd_same
      have a9 : (upd H8 m (.lst ([V.str (flagS (turn t F (vict t F))), .ref l].set 1 (.ref p5)))) p5 = some (.lst ((es.set (vict t F) e).map V.str)) := by rw [upd_ne h5m]; exact a5
      have fr9 : ∀ p, (upd H8 m (.lst ([V.str (flagS (turn t F (vict t F))), .ref l].set 1 (.ref p5)))) p = none → H p = none := fun p hp => by
        have hpm : p ≠ m := fun z => by rw [z, e9] at hp; cases hp
        rw [upd_ne hpm] at hp
        exact fr2 _ (n48.free hp)
      generalize upd H8 m (.lst ([V.str (flagS (turn t F (vict t F))), .ref l].set 1 (.ref p5))) = H9 at k9 e9 a9 fr9 ⊢
      refine ⟨_, rfl, _, rfl, (by show 3 ≤ sizeLine; decide), fun p hp => ?_⟩
      have n9 := same_new (Same.refl H9) hp (o := .tup [.str "load", .int (vict t F : Nat), .str (es.getD (vict t F) Str.empty)])
      exact q _ p p5 (k9.trans n9) (fr9 _ hp) ⟨n9 _ _ e9, n9 _ _ a9, h5m⟩ upd_same (.inr hp5H)
/-- the asked entries -/
def spAsked : Sp := fun vs H Q _ => ∃ (b l : Addr) (n : Nat) (es : List Str), vs = [.ref b, .ref l, .int n] ∧ BoxAt H b ∧ H l = some (.lst (es.map V.str)) ∧ 1 ≤ es.length ∧ es.length ≤ 64 ∧ NameOk es ∧ n ≤ 64 ∧
  ∀ H' p (as : List Str), Same (wo H b) H' → BoxAt H' b → H p = none → H' p = some (.lst (as.map V.str)) → as.length = n → as.Nodup → (∀ a ∈ as, Ent a) → Q (.ref p) H'
def AskOk (as : List Str) : Prop := as.Nodup ∧ ∀ a ∈ as, Ent a ∧ ((∃ c, c ∈ lets ∧ ∃ d, a = S (c :: dg d)) ∨ ∃ k, k < as.length ∧ a = S (48 :: 110 :: dg k))
theorem zn_str (n : Nat) : ("0n" : Str) ++ toString (n : Int) = S (48 :: 110 :: dg n) := by
  rw [dg_str, show ("0n" : Str) = S [48, 110] by decide +kernel, S_app]
  rfl
theorem zn_ent {n : Nat} (h : n < 1000) : Ent (S (48 :: 110 :: dg n)) := ent_of [48, 110] n h (by decide) (by decide +kernel)
theorem lets_no {c : Nat} (h : c ∈ lets) : c ≠ 48 := by
  have : ∀ c ∈ lets, c ≠ 48 := by decide
  exact this c h
theorem AskOk.old {as : List Str} {a : Str} (h : AskOk as) (hn : ¬ a ∈ as) (he : Ent a) (ha : ∃ c, c ∈ lets ∧ ∃ d, a = S (c :: dg d)) : AskOk (as ++ [a]) := by
  refine ⟨List.nodup_append.mpr ⟨h.1, List.pairwise_singleton _ a, fun x hx y hy e => hn (by rw [List.mem_singleton.mp hy] at e; rw [← e]; exact hx)⟩, fun x hx => ?_⟩
  rcases List.mem_append.mp hx with hx | hx
  · obtain ⟨h1, h2⟩ := h.2 x hx
    refine ⟨h1, ?_⟩
    rcases h2 with h2 | ⟨k, hk, e⟩
    · exact .inl h2
    · exact .inr ⟨k, by rw [List.length_append, List.length_singleton]; omega, e⟩
  · rw [List.mem_singleton.mp hx]
    exact ⟨he, .inl ha⟩
theorem AskOk.new {as : List Str} (h : AskOk as) (hl : as.length < 64) : AskOk (as ++ [S (48 :: 110 :: dg as.length)]) := by
  have hn : ¬ S (48 :: 110 :: dg as.length) ∈ as := fun hm => by
    rcases (h.2 _ hm).2 with ⟨c, hc, d, e⟩ | ⟨k, hk, e⟩
    · have := (List.cons.inj (S_inj e)).1
      exact lets_no hc this.symm
    · have := (List.cons.inj (List.cons.inj (S_inj e)).2).2
      have := dg_inj _ hl _ (by omega) this
      omega
  refine ⟨List.nodup_append.mpr ⟨h.1, List.pairwise_singleton _ _, fun x hx y hy e => hn (by rw [List.mem_singleton.mp hy] at e; rw [← e]; exact hx)⟩, fun x hx => ?_⟩
  rcases List.mem_append.mp hx with hx | hx
  · obtain ⟨h1, h2⟩ := h.2 x hx
    refine ⟨h1, ?_⟩
    rcases h2 with h2 | ⟨k, hk, e⟩
    · exact .inl h2
    · exact .inr ⟨k, by rw [List.length_append, List.length_singleton]; omega, e⟩
  · rw [List.mem_singleton.mp hx]
    exact ⟨zn_ent (by omega), .inr ⟨as.length, by rw [List.length_append, List.length_singleton]; omega, rfl⟩⟩
theorem ok_l_asked (T : TX K mg) : FnOk P w K mg base CX0 2 T.l_asked.f T.l_asked.fd ["_law_box_here", "_law_names_here", "_law_size"] spAsked := by
  refine T.l_asked.F.ok sc_l_asked (fun vs H Q E h => ?_) (fun cdv A outer s H vs Q E hr h => ?_)
  · obtain ⟨b, l, n, es, rfl, _⟩ := h
    rfl
  · obtain ⟨b, l, n, es, rfl, hB, hl, he1, he2, hno, hn, q⟩ := h
    refine ⟨_, (pss_cons (ps_set (i := 3) sc_l_asked.nd rfl (by first | exact .inl rfl | exact .inr rfl) (pe_lst pa_nil))
      (pss_cons (ps_for PassesOwn.never rfl (pi_range1 rfl T.b_range (pa_cons (pv 2) pa_nil)) (pg_name (i := 4) sc_l_asked.nd rfl (by first | exact .inl rfl | exact .inr rfl))
        (pss_cons (ps_set (i := 5) sc_l_asked.nd rfl (by first | exact .inl rfl | exact .inr rfl) (pe_ix ix_list (pv 1) (pe_call (ok_l_take T) (hr.mono (by decide)) (by rfl) T.l_take.g T.l_take.F.kp T.l_take.b .nil pass0 (pa_cons (pv 0) (pa_cons (pe_callB call_len_seq (by rfl) T.b_len (by decide +kernel) (pa_cons (pv 1) pa_nil)) pa_nil))) (fun _ _ => rfl)))
      (pss_cons (ps_set (i := 6) sc_l_asked.nd rfl (by first | exact .inl rfl | exact .inr rfl) (pe_call (ok_l_take T) (hr.mono (by decide)) (by rfl) T.l_take.g T.l_take.F.kp T.l_take.b .nil pass0 (pa_cons (pv 0) (pa_cons pe_int pa_nil))))
      (pss_one (ps_if (PW.pt (pw_and (pt_cmpR op_eq (pv 6) pe_int (nomark _)) (pw_and1 (pt_cmpR op_notIn_seq (pv 5) (pv 3) (by rfl)))))
        (pss_one (ps_expr (pe_bm PySem.F.plainAttrs_list PySem.F.slot_list_append PySem.F.type_list_append mt_append (pv 3) (pa_cons (pv 5) pa_nil))))
        (pss_one (ps_expr (pe_bm PySem.F.plainAttrs_list PySem.F.slot_list_append PySem.F.type_list_append mt_append (pv 3) (pa_cons (pe_op op_add_str pe_str (pe_callTy call_str_int (by rfl) T.b_str (by decide +kernel) (pa_cons (pv 4) pa_nil))) pa_nil)))))))))
      (pss_one (ps_ret (pv 3))))), ?_⟩
    refine ⟨Nat.zero_le _, fun D hD => ⟨_, rfl, (n : Int), rfl, by omega, by omega, ?_⟩⟩
    have hbD := box_ne hB hD
    have hbl : l ≠ b := by
      obtain ⟨x, y, z, h⟩ := hB
      intro e
      rw [e, h] at hl
      cases es with
      | nil => cases he1
      | cons e es => cases hl
    have hlD : l ≠ D := ne_of_none hl hD
    have hlw : wo H b l = some (.lst (es.map V.str)) := by rw [wo_ne hbl]; exact hl
    refine for_it (walk_range (lo := 0) (n := n)) (fun i σ H' => ∃ (as : List Str) (v4 v5 v6 : Option V), as.length = i ∧ AskOk as ∧ σ = [some (.ref b), some (.ref l), some (.int (n : Nat)), some (.ref D), v4, v5, v6] ∧ Same (wo H b) H' ∧ BoxAt H' b ∧ H' D = some (.lst (as.map V.str)))
      ⟨[], none, none, none, rfl, ⟨List.nodup_nil, fun _ h => nomatch h⟩, rfl, same_put wo_same (wo_none hD), hB.mono (same_new (Same.refl H) hD), upd_same⟩ (fun _ _ _ _ _ => trivial) ?_ ?_
    · rintro i x σ H1 H2 hi ⟨as, v4, v5, v6, hal, hok, rfl, k, hB1, eD⟩ ⟨rfl, rfl⟩
      have hl1 := k _ _ hlw
      refine ⟨_, rfl, _, rfl, _, rfl, l, _, rfl, .inl (sqL hl1), ?_⟩
      rw [List.length_map]
      refine ⟨b, es.length, rfl, hB1, he1, by omega, fun H3 r s3 hB3 hr2 => ?_⟩
      have eD3 := s3 D _ ((wo_ne hbD.symm).trans eD)
      have k3 := (wo_of k wo_at).trans s3
      have hl3 := k3 _ _ hlw
      have er : es[r]? = some es[r] := List.getElem?_eq_getElem hr2
      obtain ⟨c, hc, ec⟩ := hno r _ er
      have hent := NameOk.ent hno he2 _ (List.mem_of_getElem? er)
      refine ⟨l, _, _, _, rfl, rfl, sqL hl3, at_of rfl (show (es.map V.str)[r]? = some (.str es[r]) by rw [List.getElem?_map, er]; rfl), ?_⟩
      generalize es[r] = old at ec hent
      refine ⟨_, rfl, b, 2, rfl, hB3, by decide, by decide, fun H4 u s4 hB4 hu => ?_⟩
      have eD4 := s4 D _ ((wo_ne hbD.symm).trans eD3)
      have k4 := (wo_of k3 wo_at).trans s4
      have z64 := small1000 (n := 64) (by decide)
      have hz : (as.map V.str).length < sizeLine := by rw [List.length_map]; omega
      have bx : ∀ o, BoxAt (upd H4 D o) b := fun o => by
        obtain ⟨x, y, z, h⟩ := hB4
        exact ⟨x, y, z, by rw [upd_ne hbD]; exact h⟩
      have fnew : AskOk (as ++ [S (48 :: 110 :: dg i)]) := by
        have := hok.new (by omega)
        rw [hal] at this
        exact this
      refine ⟨_, rfl, rfl, _, rfl, ?_⟩
      have hu2 : u = 0 ∨ u = 1 := by omega
      rcases hu2 with rfl | rfl
      · have e0 : decide (V.int ((0 : Nat) : Int) = V.int 0) = true := by decide +kernel
        rw [e0]
        refine iteT ?_
        refine ⟨_, rfl, _, rfl, D, _, rfl, .inl (sqL eD4), rfl, flat_strs _, _, rfl, ?_⟩
        rw [inV_strs]
        by_cases hin : old ∈ as
        · rw [decide_eq_true hin]
          refine ⟨_, rfl, .inl ⟨rfl, _, sqL eD4⟩, _, rfl, (i : Int), by show [V.int (0 + (i : Int))] = _; rw [Int.zero_add], log2_small (by omega), _, _, rfl, rfl, by rw [dg_str, S_len]; have := (dg_ok i (by omega)).1; have e0 : ("0n" : Str).length = 2 := (by decide +kernel); omega, ?_⟩
          rw [zn_str]
          refine ⟨D, _, _, rfl, rfl, eD4, hz, as ++ [S (48 :: 110 :: dg i)], _, _, _, by rw [List.length_append, hal]; rfl, fnew, rfl, same_put k4 (wo_none hD), bx _, by rw [upd_same, List.map_append]; rfl⟩
        · rw [decide_eq_false hin]
          refine ⟨_, rfl, .inl ⟨rfl, _, sqL eD4⟩, _, rfl, D, _, _, rfl, rfl, eD4, hz, as ++ [old], _, _, _, by rw [List.length_append, hal]; rfl, hok.old hin hent ⟨c, hc, r, ec⟩, rfl, same_put k4 (wo_none hD), bx _, by rw [upd_same, List.map_append]; rfl⟩
      · have e0 : decide (V.int ((1 : Nat) : Int) = V.int 0) = false := by decide +kernel
        rw [e0]
        refine ⟨_, rfl, .inl ⟨rfl, _, sqL eD4⟩, _, rfl, (i : Int), by show [V.int (0 + (i : Int))] = _; rw [Int.zero_add], log2_small (by omega), _, _, rfl, rfl, by rw [dg_str, S_len]; have := (dg_ok i (by omega)).1; have e0 : ("0n" : Str).length = 2 := (by decide +kernel); omega, ?_⟩
        rw [zn_str]
        refine ⟨D, _, _, rfl, rfl, eD4, hz, as ++ [S (48 :: 110 :: dg i)], _, _, _, by rw [List.length_append, hal]; rfl, fnew, rfl, same_put k4 (wo_none hD), bx _, by rw [upd_same, List.map_append]; rfl⟩
    · rintro σ H1 ⟨as, v4, v5, v6, hal, hok, rfl, k, hB1, eD⟩
      exact ⟨_, rfl, q H1 D as k hB1 hD eD hal hok.1 fun a ha => (hok.2 a ha).1⟩
end
end Ls
/-! The law's own defs: same. -/
namespace Ls
open PySem PySem.Spec PyProof.Rows L2
def atomV (x : V) : Prop := x = .non ∨ (∃ i, x = .int i) ∨ ∃ y, x = .str y
section
variable {P : Program} {w : World} {K : PySem.W.Frag} {mg : Str → Option Value} {base : Heap}
theorem kit2 {n : String} (h1 : kitB n "list" = some false) (h2 : kitB n "tuple" = some false) : PySem.W.kitAny K (.type n) [.type "list", .type "tuple"] = some false := by
  refine kitAny_cons (b := false) (kit_ty h1) (fun _ => kitAny_cons (b := false) (kit_ty h2) (fun _ => kitAny_nil) (fun z => absurd z (by decide))) (fun z => absurd z (by decide))
def noSp : Sp := fun _ _ _ _ => False
theorem ok_same_no (T : TX K mg) : FnOk P w K mg base CX0 1 T.l_same.f T.l_same.fd ["_law_told", "_law_due"] noSp := ⟨fun _ _ _ _ h => h.elim, fun _ _ _ _ _ _ _ _ _ _ _ _ _ h => h.elim⟩
theorem fn_or {k f fd ps} {sp sp' : Sp} (F : FnOk P w K mg base CX0 k f fd ps sp) (G : FnOk P w K mg base CX0 k f fd ps sp') : FnOk P w K mg base CX0 k f fd ps (fun vs H Q E => sp vs H Q E ∨ sp' vs H Q E) :=
  ⟨fun vs H Q E h => h.elim (F.len vs H Q E) (G.len vs H Q E), fun A outer s H args us vs Q E h1 h2 h3 h4 h => h.elim (F.run A outer s H args us vs Q E h1 h2 h3 h4) (G.run A outer s H args us vs Q E h1 h2 h3 h4)⟩
def spSame0 : Sp := fun vs H Q _ => ∃ x : V, vs = [x, x] ∧ atomV x ∧ ∀ H', Same H H' → Q (.bl true) H'
theorem ok_same0 (T : TX K mg) : FnOk P w K mg base CX0 2 T.l_same.f T.l_same.fd ["_law_told", "_law_due"] spSame0 := by
  have ok_l_same : ∀ (T : TX K mg), FnOk P w K mg base CX0 1 T.l_same.f T.l_same.fd ["_law_told", "_law_due"] noSp := fun T => ok_same_no T
  refine T.l_same.F.ok sc_l_same (fun vs H Q E h => ?_) (fun cdv A outer s H vs Q E hr h => ?_)
  · obtain ⟨x, rfl, _⟩ := h
    rfl
  · obtain ⟨x, rfl, hx, q⟩ := h
    rcases hx with rfl | ⟨i, rfl⟩ | ⟨y, rfl⟩
    · refine ⟨_, (pss_cons (ps_if (PW.pt (pw_or (pt_cmpR op_ne (pe_callB call_isi (by rfl) T.b_isinstance (by decide +kernel) (pa_cons (pv 1) (pa_cons (pe_bltn (by rfl) T.b_list (by decide +kernel) (v := .ty "list") rfl) pa_nil))) (pe_callB call_isi (by rfl) T.b_isinstance (by decide +kernel) (pa_cons (pv 0) (pa_cons (pe_bltn (by rfl) T.b_list (by decide +kernel) (v := .ty "list") rfl) pa_nil))) (nomark _)) (pw_or1 (pt_cmpR op_ne (pe_callB call_isi (by rfl) T.b_isinstance (by decide +kernel) (pa_cons (pv 1) (pa_cons (pe_bltn (by rfl) T.b_tuple (by decide +kernel) (v := .ty "tuple") rfl) pa_nil))) (pe_callB call_isi (by rfl) T.b_isinstance (by decide +kernel) (pa_cons (pv 0) (pa_cons (pe_bltn (by rfl) T.b_tuple (by decide +kernel) (v := .ty "tuple") rfl) pa_nil))) (nomark _)))))
        (pss_one (ps_ret pe_bl))
        pss_nil)
      (pss_cons (ps_if (pt_val (pe_callB call_isiT (by rfl) T.b_isinstance (by decide +kernel) (pa_cons (pv 1) (pa_cons (pe_tup (pa_cons (pe_bltn (by rfl) T.b_list (by decide +kernel) (v := .ty "list") rfl) (pa_cons (pe_bltn (by rfl) T.b_tuple (by decide +kernel) (v := .ty "tuple") rfl) pa_nil))) pa_nil))))
        (pss_cons (ps_if (pt_cmpR op_ne (pe_callB call_len_seq (by rfl) T.b_len (by decide +kernel) (pa_cons (pv 0) pa_nil)) (pe_callB call_len_seq (by rfl) T.b_len (by decide +kernel) (pa_cons (pv 1) pa_nil)) (nomark _))
        (pss_one (ps_ret pe_bl))
        pss_nil)
      (pss_one (ps_ret (pe_callB (cr_all rfl) (by rfl) T.b_all (by decide +kernel) (pa_cons (pe_lc (own := [("_law_k", 2)]) rfl sc_l_same.nd (pi_range1 rfl T.b_range (pa_cons (pe_callB call_len_seq (by rfl) T.b_len (by decide +kernel) (pa_cons (pv 1) pa_nil)) pa_nil)) (blkOk_by (N := ["_law_told", "_law_due", "_law_k"]) (sc := defScope s_l_same) (by decide +kernel)) (fun _ _ _ _ _ => (pg_name (i := 2) sc_l_same.nd rfl (by first | exact .inl rfl | exact .inr rfl))) (fun _ _ _ _ _ => pts_nil) (fun _ _ _ _ _ => (pe_call (ok_l_same T) (hr.mono (by decide)) (by rfl) T.l_same.g T.l_same.F.kp T.l_same.b .nil pass0 (pa_cons (pe_ix (ix_seqK (K := K) rfl) (pv 0) (pv 2) (fun _ _ => rfl)) (pa_cons (pe_ix (ix_seqK (K := K) rfl) (pv 1) (pv 2) (fun _ _ => rfl)) pa_nil))))) pa_nil)))))
        pss_nil)
      (pss_cons (ps_if (PW.pt (pw_or (pt_cmpR op_isN (pv 1) pe_non (nomark _)) (pw_or1 (pt_cmpR op_isN (pv 0) pe_non (nomark _)))))
        (pss_one (ps_ret (pe_and (pe_cmpR op_isN (pv 1) pe_non (nomark _)) (pe_one (pe_cmpR op_isN (pv 0) pe_non (nomark _))))))
        pss_nil)
      (pss_cons (ps_if (PW.pt (pw_or (pt_val (pe_callB call_isi (by rfl) T.b_isinstance (by decide +kernel) (pa_cons (pv 1) (pa_cons (pe_bltn (by rfl) T.b_bool (by decide +kernel) (v := .ty "bool") rfl) pa_nil)))) (pw_or1 (pt_val (pe_callB call_isi (by rfl) T.b_isinstance (by decide +kernel) (pa_cons (pv 0) (pa_cons (pe_bltn (by rfl) T.b_bool (by decide +kernel) (v := .ty "bool") rfl) pa_nil)))))))
        (pss_one (ps_ret (pe_and (pe_callB call_isi (by rfl) T.b_isinstance (by decide +kernel) (pa_cons (pv 1) (pa_cons (pe_bltn (by rfl) T.b_bool (by decide +kernel) (v := .ty "bool") rfl) pa_nil))) (pe_and (pe_callB call_isi (by rfl) T.b_isinstance (by decide +kernel) (pa_cons (pv 0) (pa_cons (pe_bltn (by rfl) T.b_bool (by decide +kernel) (v := .ty "bool") rfl) pa_nil))) (pe_one (pe_cmpR op_eq (pv 1) (pv 0) (nomark _)))))))
        pss_nil)
      (pss_cons (ps_if (PW.pt (pw_or (pt_val (pe_callB call_isi (by rfl) T.b_isinstance (by decide +kernel) (pa_cons (pv 1) (pa_cons (pe_bltn (by rfl) T.b_str (by decide +kernel) (v := .ty "str") rfl) pa_nil)))) (pw_or1 (pt_val (pe_callB call_isi (by rfl) T.b_isinstance (by decide +kernel) (pa_cons (pv 0) (pa_cons (pe_bltn (by rfl) T.b_str (by decide +kernel) (v := .ty "str") rfl) pa_nil)))))))
        (pss_one (ps_ret (pe_and (pe_callB call_isi (by rfl) T.b_isinstance (by decide +kernel) (pa_cons (pv 1) (pa_cons (pe_bltn (by rfl) T.b_str (by decide +kernel) (v := .ty "str") rfl) pa_nil))) (pe_and (pe_callB call_isi (by rfl) T.b_isinstance (by decide +kernel) (pa_cons (pv 0) (pa_cons (pe_bltn (by rfl) T.b_str (by decide +kernel) (v := .ty "str") rfl) pa_nil))) (pe_one (pe_cmpR op_eq (pv 1) (pv 0) (nomark _)))))))
        pss_nil)
      (pss_one (ps_ret (pe_and (pe_callB call_isi (by rfl) T.b_isinstance (by decide +kernel) (pa_cons (pv 0) (pa_cons (pe_bltn (by rfl) T.b_int (by decide +kernel) (v := .ty "int") rfl) pa_nil))) (pe_one (pe_cmpR op_eq (pv 0) (pv 1) (nomark _))))))))))), ?_⟩
      refine ⟨_, rfl, .non, .ty "list", .type "NoneType", .type "list", false, rfl, .ty _, .base .non, kit_ty (by decide +kernel), _, rfl, .non, .ty "list", .type "NoneType", .type "list", false, rfl, .ty _, .base .non, kit_ty (by decide +kernel), rfl, _, rfl, ?_⟩
      refine iteF ?_
      refine ⟨_, rfl, .non, .ty "tuple", .type "NoneType", .type "tuple", false, rfl, .ty _, .base .non, kit_ty (by decide +kernel), _, rfl, .non, .ty "tuple", .type "NoneType", .type "tuple", false, rfl, .ty _, .base .non, kit_ty (by decide +kernel), rfl, _, rfl, ?_⟩
      refine iteF ?_
      refine ⟨_, rfl, (by show 2 ≤ sizeLine; decide), fun tp htp => ?_⟩
      have s1 := same_new (Same.refl H) htp (o := .tup [.ty "list", .ty "tuple"])
      refine ⟨.non, tp, _, .type "NoneType", [.type "list", .type "tuple"], false, rfl, upd_same, .cons (.ty _) (.cons (.ty _) .nil), .base .non, kit2 (by decide +kernel) (by decide +kernel), _, rfl, ?_⟩
      refine iteF ?_
      refine ⟨_, rfl, rfl, _, rfl, ?_⟩
      refine iteT ?_
      refine iteT ?_
      refine ⟨_, rfl, rfl, true, rfl, iteT ?_⟩
      exact ⟨_, rfl, rfl, q _ s1⟩
    · refine ⟨_, (pss_cons (ps_if (PW.pt (pw_or (pt_cmpR op_ne (pe_callB call_isi (by rfl) T.b_isinstance (by decide +kernel) (pa_cons (pv 1) (pa_cons (pe_bltn (by rfl) T.b_list (by decide +kernel) (v := .ty "list") rfl) pa_nil))) (pe_callB call_isi (by rfl) T.b_isinstance (by decide +kernel) (pa_cons (pv 0) (pa_cons (pe_bltn (by rfl) T.b_list (by decide +kernel) (v := .ty "list") rfl) pa_nil))) (nomark _)) (pw_or1 (pt_cmpR op_ne (pe_callB call_isi (by rfl) T.b_isinstance (by decide +kernel) (pa_cons (pv 1) (pa_cons (pe_bltn (by rfl) T.b_tuple (by decide +kernel) (v := .ty "tuple") rfl) pa_nil))) (pe_callB call_isi (by rfl) T.b_isinstance (by decide +kernel) (pa_cons (pv 0) (pa_cons (pe_bltn (by rfl) T.b_tuple (by decide +kernel) (v := .ty "tuple") rfl) pa_nil))) (nomark _)))))
        (pss_one (ps_ret pe_bl))
        pss_nil)
      (pss_cons (ps_if (pt_val (pe_callB call_isiT (by rfl) T.b_isinstance (by decide +kernel) (pa_cons (pv 1) (pa_cons (pe_tup (pa_cons (pe_bltn (by rfl) T.b_list (by decide +kernel) (v := .ty "list") rfl) (pa_cons (pe_bltn (by rfl) T.b_tuple (by decide +kernel) (v := .ty "tuple") rfl) pa_nil))) pa_nil))))
        (pss_cons (ps_if (pt_cmpR op_ne (pe_callB call_len_seq (by rfl) T.b_len (by decide +kernel) (pa_cons (pv 0) pa_nil)) (pe_callB call_len_seq (by rfl) T.b_len (by decide +kernel) (pa_cons (pv 1) pa_nil)) (nomark _))
        (pss_one (ps_ret pe_bl))
        pss_nil)
      (pss_one (ps_ret (pe_callB (cr_all rfl) (by rfl) T.b_all (by decide +kernel) (pa_cons (pe_lc (own := [("_law_k", 2)]) rfl sc_l_same.nd (pi_range1 rfl T.b_range (pa_cons (pe_callB call_len_seq (by rfl) T.b_len (by decide +kernel) (pa_cons (pv 1) pa_nil)) pa_nil)) (blkOk_by (N := ["_law_told", "_law_due", "_law_k"]) (sc := defScope s_l_same) (by decide +kernel)) (fun _ _ _ _ _ => (pg_name (i := 2) sc_l_same.nd rfl (by first | exact .inl rfl | exact .inr rfl))) (fun _ _ _ _ _ => pts_nil) (fun _ _ _ _ _ => (pe_call (ok_l_same T) (hr.mono (by decide)) (by rfl) T.l_same.g T.l_same.F.kp T.l_same.b .nil pass0 (pa_cons (pe_ix (ix_seqK (K := K) rfl) (pv 0) (pv 2) (fun _ _ => rfl)) (pa_cons (pe_ix (ix_seqK (K := K) rfl) (pv 1) (pv 2) (fun _ _ => rfl)) pa_nil))))) pa_nil)))))
        pss_nil)
      (pss_cons (ps_if (PW.pt (pw_or (pt_cmpR op_isN (pv 1) pe_non (nomark _)) (pw_or1 (pt_cmpR op_isN (pv 0) pe_non (nomark _)))))
        (pss_one (ps_ret (pe_and (pe_cmpR op_isN (pv 1) pe_non (nomark _)) (pe_one (pe_cmpR op_isN (pv 0) pe_non (nomark _))))))
        pss_nil)
      (pss_cons (ps_if (PW.pt (pw_or (pt_val (pe_callB call_isi (by rfl) T.b_isinstance (by decide +kernel) (pa_cons (pv 1) (pa_cons (pe_bltn (by rfl) T.b_bool (by decide +kernel) (v := .ty "bool") rfl) pa_nil)))) (pw_or1 (pt_val (pe_callB call_isi (by rfl) T.b_isinstance (by decide +kernel) (pa_cons (pv 0) (pa_cons (pe_bltn (by rfl) T.b_bool (by decide +kernel) (v := .ty "bool") rfl) pa_nil)))))))
        (pss_one (ps_ret (pe_and (pe_callB call_isi (by rfl) T.b_isinstance (by decide +kernel) (pa_cons (pv 1) (pa_cons (pe_bltn (by rfl) T.b_bool (by decide +kernel) (v := .ty "bool") rfl) pa_nil))) (pe_and (pe_callB call_isi (by rfl) T.b_isinstance (by decide +kernel) (pa_cons (pv 0) (pa_cons (pe_bltn (by rfl) T.b_bool (by decide +kernel) (v := .ty "bool") rfl) pa_nil))) (pe_one (pe_cmpR op_eq (pv 1) (pv 0) (nomark _)))))))
        pss_nil)
      (pss_cons (ps_if (PW.pt (pw_or (pt_val (pe_callB call_isi (by rfl) T.b_isinstance (by decide +kernel) (pa_cons (pv 1) (pa_cons (pe_bltn (by rfl) T.b_str (by decide +kernel) (v := .ty "str") rfl) pa_nil)))) (pw_or1 (pt_val (pe_callB call_isi (by rfl) T.b_isinstance (by decide +kernel) (pa_cons (pv 0) (pa_cons (pe_bltn (by rfl) T.b_str (by decide +kernel) (v := .ty "str") rfl) pa_nil)))))))
        (pss_one (ps_ret (pe_and (pe_callB call_isi (by rfl) T.b_isinstance (by decide +kernel) (pa_cons (pv 1) (pa_cons (pe_bltn (by rfl) T.b_str (by decide +kernel) (v := .ty "str") rfl) pa_nil))) (pe_and (pe_callB call_isi (by rfl) T.b_isinstance (by decide +kernel) (pa_cons (pv 0) (pa_cons (pe_bltn (by rfl) T.b_str (by decide +kernel) (v := .ty "str") rfl) pa_nil))) (pe_one (pe_cmpR op_eq (pv 1) (pv 0) (nomark _)))))))
        pss_nil)
      (pss_one (ps_ret (pe_and (pe_callB call_isi (by rfl) T.b_isinstance (by decide +kernel) (pa_cons (pv 0) (pa_cons (pe_bltn (by rfl) T.b_int (by decide +kernel) (v := .ty "int") rfl) pa_nil))) (pe_one (pe_cmpR op_eq (pv 0) (pv 1) (nomark _))))))))))), ?_⟩
      refine ⟨_, rfl, .int i, .ty "list", .type "int", .type "list", false, rfl, .ty _, .base (.int i), kit_ty (by decide +kernel), _, rfl, .int i, .ty "list", .type "int", .type "list", false, rfl, .ty _, .base (.int i), kit_ty (by decide +kernel), rfl, _, rfl, ?_⟩
      refine iteF ?_
      refine ⟨_, rfl, .int i, .ty "tuple", .type "int", .type "tuple", false, rfl, .ty _, .base (.int i), kit_ty (by decide +kernel), _, rfl, .int i, .ty "tuple", .type "int", .type "tuple", false, rfl, .ty _, .base (.int i), kit_ty (by decide +kernel), rfl, _, rfl, ?_⟩
      refine iteF ?_
      refine ⟨_, rfl, (by show 2 ≤ sizeLine; decide), fun tp htp => ?_⟩
      have s1 := same_new (Same.refl H) htp (o := .tup [.ty "list", .ty "tuple"])
      refine ⟨.int i, tp, _, .type "int", [.type "list", .type "tuple"], false, rfl, upd_same, .cons (.ty _) (.cons (.ty _) .nil), .base (.int i), kit2 (by decide +kernel) (by decide +kernel), _, rfl, ?_⟩
      refine iteF ?_
      refine ⟨_, rfl, rfl, _, rfl, ?_⟩
      refine iteF ?_
      refine ⟨_, rfl, rfl, _, rfl, ?_⟩
      refine iteF ?_
      refine ⟨_, rfl, .int i, .ty "bool", .type "int", .type "bool", false, rfl, .ty _, .base (.int i), kit_ty (by decide +kernel), _, rfl, ?_⟩
      refine iteF ?_
      refine ⟨_, rfl, .int i, .ty "bool", .type "int", .type "bool", false, rfl, .ty _, .base (.int i), kit_ty (by decide +kernel), _, rfl, ?_⟩
      refine iteF ?_
      refine ⟨_, rfl, .int i, .ty "str", .type "int", .type "str", false, rfl, .ty _, .base (.int i), kit_ty (by decide +kernel), _, rfl, ?_⟩
      refine iteF ?_
      refine ⟨_, rfl, .int i, .ty "str", .type "int", .type "str", false, rfl, .ty _, .base (.int i), kit_ty (by decide +kernel), _, rfl, ?_⟩
      refine iteF ?_
      refine ⟨_, rfl, .int i, .ty "int", .type "int", .type "int", true, rfl, .ty _, .base (.int i), kit_ty (by decide +kernel), true, rfl, iteT ?_⟩
      refine ⟨_, rfl, _, rfl, rfl, ?_⟩
      rw [decide_eq_true rfl]
      exact q _ s1
    · refine ⟨_, (pss_cons (ps_if (PW.pt (pw_or (pt_cmpR op_ne (pe_callB call_isi (by rfl) T.b_isinstance (by decide +kernel) (pa_cons (pv 1) (pa_cons (pe_bltn (by rfl) T.b_list (by decide +kernel) (v := .ty "list") rfl) pa_nil))) (pe_callB call_isi (by rfl) T.b_isinstance (by decide +kernel) (pa_cons (pv 0) (pa_cons (pe_bltn (by rfl) T.b_list (by decide +kernel) (v := .ty "list") rfl) pa_nil))) (nomark _)) (pw_or1 (pt_cmpR op_ne (pe_callB call_isi (by rfl) T.b_isinstance (by decide +kernel) (pa_cons (pv 1) (pa_cons (pe_bltn (by rfl) T.b_tuple (by decide +kernel) (v := .ty "tuple") rfl) pa_nil))) (pe_callB call_isi (by rfl) T.b_isinstance (by decide +kernel) (pa_cons (pv 0) (pa_cons (pe_bltn (by rfl) T.b_tuple (by decide +kernel) (v := .ty "tuple") rfl) pa_nil))) (nomark _)))))
        (pss_one (ps_ret pe_bl))
        pss_nil)
      (pss_cons (ps_if (pt_val (pe_callB call_isiT (by rfl) T.b_isinstance (by decide +kernel) (pa_cons (pv 1) (pa_cons (pe_tup (pa_cons (pe_bltn (by rfl) T.b_list (by decide +kernel) (v := .ty "list") rfl) (pa_cons (pe_bltn (by rfl) T.b_tuple (by decide +kernel) (v := .ty "tuple") rfl) pa_nil))) pa_nil))))
        (pss_cons (ps_if (pt_cmpR op_ne (pe_callB call_len_seq (by rfl) T.b_len (by decide +kernel) (pa_cons (pv 0) pa_nil)) (pe_callB call_len_seq (by rfl) T.b_len (by decide +kernel) (pa_cons (pv 1) pa_nil)) (nomark _))
        (pss_one (ps_ret pe_bl))
        pss_nil)
      (pss_one (ps_ret (pe_callB (cr_all rfl) (by rfl) T.b_all (by decide +kernel) (pa_cons (pe_lc (own := [("_law_k", 2)]) rfl sc_l_same.nd (pi_range1 rfl T.b_range (pa_cons (pe_callB call_len_seq (by rfl) T.b_len (by decide +kernel) (pa_cons (pv 1) pa_nil)) pa_nil)) (blkOk_by (N := ["_law_told", "_law_due", "_law_k"]) (sc := defScope s_l_same) (by decide +kernel)) (fun _ _ _ _ _ => (pg_name (i := 2) sc_l_same.nd rfl (by first | exact .inl rfl | exact .inr rfl))) (fun _ _ _ _ _ => pts_nil) (fun _ _ _ _ _ => (pe_call (ok_l_same T) (hr.mono (by decide)) (by rfl) T.l_same.g T.l_same.F.kp T.l_same.b .nil pass0 (pa_cons (pe_ix (ix_seqK (K := K) rfl) (pv 0) (pv 2) (fun _ _ => rfl)) (pa_cons (pe_ix (ix_seqK (K := K) rfl) (pv 1) (pv 2) (fun _ _ => rfl)) pa_nil))))) pa_nil)))))
        pss_nil)
      (pss_cons (ps_if (PW.pt (pw_or (pt_cmpR op_isN (pv 1) pe_non (nomark _)) (pw_or1 (pt_cmpR op_isN (pv 0) pe_non (nomark _)))))
        (pss_one (ps_ret (pe_and (pe_cmpR op_isN (pv 1) pe_non (nomark _)) (pe_one (pe_cmpR op_isN (pv 0) pe_non (nomark _))))))
        pss_nil)
      (pss_cons (ps_if (PW.pt (pw_or (pt_val (pe_callB call_isi (by rfl) T.b_isinstance (by decide +kernel) (pa_cons (pv 1) (pa_cons (pe_bltn (by rfl) T.b_bool (by decide +kernel) (v := .ty "bool") rfl) pa_nil)))) (pw_or1 (pt_val (pe_callB call_isi (by rfl) T.b_isinstance (by decide +kernel) (pa_cons (pv 0) (pa_cons (pe_bltn (by rfl) T.b_bool (by decide +kernel) (v := .ty "bool") rfl) pa_nil)))))))
        (pss_one (ps_ret (pe_and (pe_callB call_isi (by rfl) T.b_isinstance (by decide +kernel) (pa_cons (pv 1) (pa_cons (pe_bltn (by rfl) T.b_bool (by decide +kernel) (v := .ty "bool") rfl) pa_nil))) (pe_and (pe_callB call_isi (by rfl) T.b_isinstance (by decide +kernel) (pa_cons (pv 0) (pa_cons (pe_bltn (by rfl) T.b_bool (by decide +kernel) (v := .ty "bool") rfl) pa_nil))) (pe_one (pe_cmpR op_eq (pv 1) (pv 0) (nomark _)))))))
        pss_nil)
      (pss_cons (ps_if (PW.pt (pw_or (pt_val (pe_callB call_isi (by rfl) T.b_isinstance (by decide +kernel) (pa_cons (pv 1) (pa_cons (pe_bltn (by rfl) T.b_str (by decide +kernel) (v := .ty "str") rfl) pa_nil)))) (pw_or1 (pt_val (pe_callB call_isi (by rfl) T.b_isinstance (by decide +kernel) (pa_cons (pv 0) (pa_cons (pe_bltn (by rfl) T.b_str (by decide +kernel) (v := .ty "str") rfl) pa_nil)))))))
        (pss_one (ps_ret (pe_and (pe_callB call_isi (by rfl) T.b_isinstance (by decide +kernel) (pa_cons (pv 1) (pa_cons (pe_bltn (by rfl) T.b_str (by decide +kernel) (v := .ty "str") rfl) pa_nil))) (pe_and (pe_callB call_isi (by rfl) T.b_isinstance (by decide +kernel) (pa_cons (pv 0) (pa_cons (pe_bltn (by rfl) T.b_str (by decide +kernel) (v := .ty "str") rfl) pa_nil))) (pe_one (pe_cmpR op_eq (pv 1) (pv 0) (nomark _)))))))
        pss_nil)
      (pss_one (ps_ret (pe_and (pe_callB call_isi (by rfl) T.b_isinstance (by decide +kernel) (pa_cons (pv 0) (pa_cons (pe_bltn (by rfl) T.b_int (by decide +kernel) (v := .ty "int") rfl) pa_nil))) (pe_one (pe_cmpR op_eq (pv 0) (pv 1) (nomark _))))))))))), ?_⟩
      refine ⟨_, rfl, .str y, .ty "list", .type "str", .type "list", false, rfl, .ty _, .base (.str y), kit_ty (by decide +kernel), _, rfl, .str y, .ty "list", .type "str", .type "list", false, rfl, .ty _, .base (.str y), kit_ty (by decide +kernel), rfl, _, rfl, ?_⟩
      refine iteF ?_
      refine ⟨_, rfl, .str y, .ty "tuple", .type "str", .type "tuple", false, rfl, .ty _, .base (.str y), kit_ty (by decide +kernel), _, rfl, .str y, .ty "tuple", .type "str", .type "tuple", false, rfl, .ty _, .base (.str y), kit_ty (by decide +kernel), rfl, _, rfl, ?_⟩
      refine iteF ?_
      refine ⟨_, rfl, (by show 2 ≤ sizeLine; decide), fun tp htp => ?_⟩
      have s1 := same_new (Same.refl H) htp (o := .tup [.ty "list", .ty "tuple"])
      refine ⟨.str y, tp, _, .type "str", [.type "list", .type "tuple"], false, rfl, upd_same, .cons (.ty _) (.cons (.ty _) .nil), .base (.str y), kit2 (by decide +kernel) (by decide +kernel), _, rfl, ?_⟩
      refine iteF ?_
      refine ⟨_, rfl, rfl, _, rfl, ?_⟩
      refine iteF ?_
      refine ⟨_, rfl, rfl, _, rfl, ?_⟩
      refine iteF ?_
      refine ⟨_, rfl, .str y, .ty "bool", .type "str", .type "bool", false, rfl, .ty _, .base (.str y), kit_ty (by decide +kernel), _, rfl, ?_⟩
      refine iteF ?_
      refine ⟨_, rfl, .str y, .ty "bool", .type "str", .type "bool", false, rfl, .ty _, .base (.str y), kit_ty (by decide +kernel), _, rfl, ?_⟩
      refine iteF ?_
      refine ⟨_, rfl, .str y, .ty "str", .type "str", .type "str", true, rfl, .ty _, .base (.str y), kit_ty (by decide +kernel), _, rfl, ?_⟩
      refine iteT ?_
      refine iteT ?_
      refine ⟨_, rfl, .str y, .ty "str", .type "str", .type "str", true, rfl, .ty _, .base (.str y), kit_ty (by decide +kernel), true, rfl, iteT ?_⟩
      refine ⟨_, rfl, .str y, .ty "str", .type "str", .type "str", true, rfl, .ty _, .base (.str y), kit_ty (by decide +kernel), true, rfl, iteT ?_⟩
      refine ⟨_, rfl, _, rfl, rfl, ?_⟩
      rw [decide_eq_true rfl]
      exact q _ s1
theorem kit2l : PySem.W.kitAny K (.type "list") [.type "list", .type "tuple"] = some true := kitAny_cons (b := true) (kit_ty (by decide +kernel)) (fun z => absurd z (by decide)) (fun _ => rfl)
theorem kit2t : PySem.W.kitAny K (.type "tuple") [.type "list", .type "tuple"] = some true := kitAny_cons (b := false) (kit_ty (by decide +kernel)) (fun _ => kitAny_cons (b := true) (kit_ty (by decide +kernel)) (fun z => absurd z (by decide)) (fun _ => rfl)) (fun z => absurd z (by decide))
def spSeq : Sp := fun vs H Q _ => ∃ (a b : Addr) (xs : List V), vs = [.ref a, .ref b] ∧ ((H a = some (.lst xs) ∧ H b = some (.lst xs)) ∨ (H a = some (.tup xs) ∧ H b = some (.tup xs))) ∧ (∀ x ∈ xs, atomV x) ∧ xs.length ≤ 1000 ∧ ∀ H', Same H H' → Q (.bl true) H'
theorem ok_seq (T : TX K mg) : FnOk P w K mg base CX0 3 T.l_same.f T.l_same.fd ["_law_told", "_law_due"] spSeq := by
  have ok_l_same : ∀ (T : TX K mg), FnOk P w K mg base CX0 2 T.l_same.f T.l_same.fd ["_law_told", "_law_due"] spSame0 := fun T => ok_same0 T
  refine T.l_same.F.ok sc_l_same (fun vs H Q E h => ?_) (fun cdv A outer s H vs Q E hr h => ?_)
  · obtain ⟨a, b, xs, rfl, _⟩ := h
    rfl
  · obtain ⟨a, b, xs, rfl, hx, hat, hz, q⟩ := h
    rcases hx with ⟨ha, hb⟩ | ⟨ha, hb⟩
    · refine ⟨_, (pss_cons (ps_if (PW.pt (pw_or (pt_cmpR op_ne (pe_callB call_isi (by rfl) T.b_isinstance (by decide +kernel) (pa_cons (pv 1) (pa_cons (pe_bltn (by rfl) T.b_list (by decide +kernel) (v := .ty "list") rfl) pa_nil))) (pe_callB call_isi (by rfl) T.b_isinstance (by decide +kernel) (pa_cons (pv 0) (pa_cons (pe_bltn (by rfl) T.b_list (by decide +kernel) (v := .ty "list") rfl) pa_nil))) (nomark _)) (pw_or1 (pt_cmpR op_ne (pe_callB call_isi (by rfl) T.b_isinstance (by decide +kernel) (pa_cons (pv 1) (pa_cons (pe_bltn (by rfl) T.b_tuple (by decide +kernel) (v := .ty "tuple") rfl) pa_nil))) (pe_callB call_isi (by rfl) T.b_isinstance (by decide +kernel) (pa_cons (pv 0) (pa_cons (pe_bltn (by rfl) T.b_tuple (by decide +kernel) (v := .ty "tuple") rfl) pa_nil))) (nomark _)))))
        (pss_one (ps_ret pe_bl))
        pss_nil)
      (pss_cons (ps_if (pt_val (pe_callB call_isiT (by rfl) T.b_isinstance (by decide +kernel) (pa_cons (pv 1) (pa_cons (pe_tup (pa_cons (pe_bltn (by rfl) T.b_list (by decide +kernel) (v := .ty "list") rfl) (pa_cons (pe_bltn (by rfl) T.b_tuple (by decide +kernel) (v := .ty "tuple") rfl) pa_nil))) pa_nil))))
        (pss_cons (ps_if (pt_cmpR op_ne (pe_callB call_len_seq (by rfl) T.b_len (by decide +kernel) (pa_cons (pv 0) pa_nil)) (pe_callB call_len_seq (by rfl) T.b_len (by decide +kernel) (pa_cons (pv 1) pa_nil)) (nomark _))
        (pss_one (ps_ret pe_bl))
        pss_nil)
      (pss_one (ps_ret (pe_callB (cr_all rfl) (by rfl) T.b_all (by decide +kernel) (pa_cons (pe_lc (own := [("_law_k", 2)]) rfl sc_l_same.nd (pi_range1 rfl T.b_range (pa_cons (pe_callB call_len_seq (by rfl) T.b_len (by decide +kernel) (pa_cons (pv 1) pa_nil)) pa_nil)) (blkOk_by (N := ["_law_told", "_law_due", "_law_k"]) (sc := defScope s_l_same) (by decide +kernel)) (fun _ _ _ _ _ => (pg_name (i := 2) sc_l_same.nd rfl (by first | exact .inl rfl | exact .inr rfl))) (fun _ _ _ _ _ => pts_nil) (fun _ _ _ _ _ => (pe_call (ok_l_same T) (hr.mono (by decide)) (by rfl) T.l_same.g T.l_same.F.kp T.l_same.b .nil pass0 (pa_cons (pe_ix (ix_seqK (K := K) rfl) (pv 0) (pv 2) (fun _ _ => rfl)) (pa_cons (pe_ix (ix_seqK (K := K) rfl) (pv 1) (pv 2) (fun _ _ => rfl)) pa_nil))))) pa_nil)))))
        pss_nil)
      (pss_cons (ps_if (PW.pt (pw_or (pt_cmpR op_isN (pv 1) pe_non (nomark _)) (pw_or1 (pt_cmpR op_isN (pv 0) pe_non (nomark _)))))
        (pss_one (ps_ret (pe_and (pe_cmpR op_isN (pv 1) pe_non (nomark _)) (pe_one (pe_cmpR op_isN (pv 0) pe_non (nomark _))))))
        pss_nil)
      (pss_cons (ps_if (PW.pt (pw_or (pt_val (pe_callB call_isi (by rfl) T.b_isinstance (by decide +kernel) (pa_cons (pv 1) (pa_cons (pe_bltn (by rfl) T.b_bool (by decide +kernel) (v := .ty "bool") rfl) pa_nil)))) (pw_or1 (pt_val (pe_callB call_isi (by rfl) T.b_isinstance (by decide +kernel) (pa_cons (pv 0) (pa_cons (pe_bltn (by rfl) T.b_bool (by decide +kernel) (v := .ty "bool") rfl) pa_nil)))))))
        (pss_one (ps_ret (pe_and (pe_callB call_isi (by rfl) T.b_isinstance (by decide +kernel) (pa_cons (pv 1) (pa_cons (pe_bltn (by rfl) T.b_bool (by decide +kernel) (v := .ty "bool") rfl) pa_nil))) (pe_and (pe_callB call_isi (by rfl) T.b_isinstance (by decide +kernel) (pa_cons (pv 0) (pa_cons (pe_bltn (by rfl) T.b_bool (by decide +kernel) (v := .ty "bool") rfl) pa_nil))) (pe_one (pe_cmpR op_eq (pv 1) (pv 0) (nomark _)))))))
        pss_nil)
      (pss_cons (ps_if (PW.pt (pw_or (pt_val (pe_callB call_isi (by rfl) T.b_isinstance (by decide +kernel) (pa_cons (pv 1) (pa_cons (pe_bltn (by rfl) T.b_str (by decide +kernel) (v := .ty "str") rfl) pa_nil)))) (pw_or1 (pt_val (pe_callB call_isi (by rfl) T.b_isinstance (by decide +kernel) (pa_cons (pv 0) (pa_cons (pe_bltn (by rfl) T.b_str (by decide +kernel) (v := .ty "str") rfl) pa_nil)))))))
        (pss_one (ps_ret (pe_and (pe_callB call_isi (by rfl) T.b_isinstance (by decide +kernel) (pa_cons (pv 1) (pa_cons (pe_bltn (by rfl) T.b_str (by decide +kernel) (v := .ty "str") rfl) pa_nil))) (pe_and (pe_callB call_isi (by rfl) T.b_isinstance (by decide +kernel) (pa_cons (pv 0) (pa_cons (pe_bltn (by rfl) T.b_str (by decide +kernel) (v := .ty "str") rfl) pa_nil))) (pe_one (pe_cmpR op_eq (pv 1) (pv 0) (nomark _)))))))
        pss_nil)
      (pss_one (ps_ret (pe_and (pe_callB call_isi (by rfl) T.b_isinstance (by decide +kernel) (pa_cons (pv 0) (pa_cons (pe_bltn (by rfl) T.b_int (by decide +kernel) (v := .ty "int") rfl) pa_nil))) (pe_one (pe_cmpR op_eq (pv 0) (pv 1) (nomark _))))))))))), ?_⟩
      refine ⟨_, rfl, .ref b, .ty "list", .type "list", .type "list", true, rfl, .ty _, .base (.lst hb), kit_ty (by decide +kernel), _, rfl, .ref a, .ty "list", .type "list", .type "list", true, rfl, .ty _, .base (.lst ha), kit_ty (by decide +kernel), rfl, _, rfl, ?_⟩
      refine iteF ?_
      refine ⟨_, rfl, .ref b, .ty "tuple", .type "list", .type "tuple", false, rfl, .ty _, .base (.lst hb), kit_ty (by decide +kernel), _, rfl, .ref a, .ty "tuple", .type "list", .type "tuple", false, rfl, .ty _, .base (.lst ha), kit_ty (by decide +kernel), rfl, _, rfl, ?_⟩
      refine iteF ?_
      refine ⟨_, rfl, (by show 2 ≤ sizeLine; decide), fun tp htp => ?_⟩
      have s1 := same_new (Same.refl H) htp (o := .tup [.ty "list", .ty "tuple"])
      refine ⟨.ref b, tp, _, .type "list", [.type "list", .type "tuple"], true, rfl, upd_same, .cons (.ty _) (.cons (.ty _) .nil), .base (.lst (s1 _ _ hb)), kit2l, _, rfl, ?_⟩
      generalize upd H tp (.tup [.ty "list", .ty "tuple"]) = H1 at s1 ⊢
      have ha1 := s1 _ _ ha
      have hb1 := s1 _ _ hb
      refine iteT ?_
      refine ⟨_, rfl, a, xs, rfl, .inl (sqL ha1), _, rfl, b, xs, rfl, .inl (sqL hb1), rfl, _, rfl, ?_⟩
      rw [decide_eq_true rfl]
      refine iteF ?_
      refine ⟨_, rfl, b, xs, rfl, .inl (sqL hb1), (xs.length : Int), rfl, by omega, by omega, fun D hD => lc_map (walk_range (lo := 0) (n := xs.length)) _ yRng (fun i => .bl true) (fun _ _ => trivial) hD hz (fun _ => rfl) ?_ ?_⟩
      · intro i H' Q' hi s' q'
        have hx := List.getElem?_eq_getElem hi
        refine ⟨_, rfl, _, rfl, .inl ⟨a, xs, _, xs[i], rfl, rfl, sqL (s' _ _ ha1), at_of rfl hx, _, rfl, _, rfl, .inl ⟨b, xs, _, xs[i], rfl, rfl, sqL (s' _ _ hb1), at_of rfl hx, xs[i], rfl, hat _ (List.getElem_mem hi), fun H2 s2 => q' H2 s2⟩⟩⟩
      · intro H' s' e
        refine ⟨D, (List.range xs.length).map fun _ => true, rfl, sqL (by rw [e, List.map_map]; rfl), ?_⟩
        have e2 : ((List.range xs.length).map fun _ => true).all id = true := by
          rw [List.all_map]
          exact List.all_eq_true.mpr fun _ _ => rfl
        rw [e2]
        exact q H' (s1.trans s')
    · refine ⟨_, (pss_cons (ps_if (PW.pt (pw_or (pt_cmpR op_ne (pe_callB call_isi (by rfl) T.b_isinstance (by decide +kernel) (pa_cons (pv 1) (pa_cons (pe_bltn (by rfl) T.b_list (by decide +kernel) (v := .ty "list") rfl) pa_nil))) (pe_callB call_isi (by rfl) T.b_isinstance (by decide +kernel) (pa_cons (pv 0) (pa_cons (pe_bltn (by rfl) T.b_list (by decide +kernel) (v := .ty "list") rfl) pa_nil))) (nomark _)) (pw_or1 (pt_cmpR op_ne (pe_callB call_isi (by rfl) T.b_isinstance (by decide +kernel) (pa_cons (pv 1) (pa_cons (pe_bltn (by rfl) T.b_tuple (by decide +kernel) (v := .ty "tuple") rfl) pa_nil))) (pe_callB call_isi (by rfl) T.b_isinstance (by decide +kernel) (pa_cons (pv 0) (pa_cons (pe_bltn (by rfl) T.b_tuple (by decide +kernel) (v := .ty "tuple") rfl) pa_nil))) (nomark _)))))
        (pss_one (ps_ret pe_bl))
        pss_nil)
      (pss_cons (ps_if (pt_val (pe_callB call_isiT (by rfl) T.b_isinstance (by decide +kernel) (pa_cons (pv 1) (pa_cons (pe_tup (pa_cons (pe_bltn (by rfl) T.b_list (by decide +kernel) (v := .ty "list") rfl) (pa_cons (pe_bltn (by rfl) T.b_tuple (by decide +kernel) (v := .ty "tuple") rfl) pa_nil))) pa_nil))))
        (pss_cons (ps_if (pt_cmpR op_ne (pe_callB call_len_seq (by rfl) T.b_len (by decide +kernel) (pa_cons (pv 0) pa_nil)) (pe_callB call_len_seq (by rfl) T.b_len (by decide +kernel) (pa_cons (pv 1) pa_nil)) (nomark _))
        (pss_one (ps_ret pe_bl))
        pss_nil)
      (pss_one (ps_ret (pe_callB (cr_all rfl) (by rfl) T.b_all (by decide +kernel) (pa_cons (pe_lc (own := [("_law_k", 2)]) rfl sc_l_same.nd (pi_range1 rfl T.b_range (pa_cons (pe_callB call_len_seq (by rfl) T.b_len (by decide +kernel) (pa_cons (pv 1) pa_nil)) pa_nil)) (blkOk_by (N := ["_law_told", "_law_due", "_law_k"]) (sc := defScope s_l_same) (by decide +kernel)) (fun _ _ _ _ _ => (pg_name (i := 2) sc_l_same.nd rfl (by first | exact .inl rfl | exact .inr rfl))) (fun _ _ _ _ _ => pts_nil) (fun _ _ _ _ _ => (pe_call (ok_l_same T) (hr.mono (by decide)) (by rfl) T.l_same.g T.l_same.F.kp T.l_same.b .nil pass0 (pa_cons (pe_ix (ix_seqK (K := K) rfl) (pv 0) (pv 2) (fun _ _ => rfl)) (pa_cons (pe_ix (ix_seqK (K := K) rfl) (pv 1) (pv 2) (fun _ _ => rfl)) pa_nil))))) pa_nil)))))
        pss_nil)
      (pss_cons (ps_if (PW.pt (pw_or (pt_cmpR op_isN (pv 1) pe_non (nomark _)) (pw_or1 (pt_cmpR op_isN (pv 0) pe_non (nomark _)))))
        (pss_one (ps_ret (pe_and (pe_cmpR op_isN (pv 1) pe_non (nomark _)) (pe_one (pe_cmpR op_isN (pv 0) pe_non (nomark _))))))
        pss_nil)
      (pss_cons (ps_if (PW.pt (pw_or (pt_val (pe_callB call_isi (by rfl) T.b_isinstance (by decide +kernel) (pa_cons (pv 1) (pa_cons (pe_bltn (by rfl) T.b_bool (by decide +kernel) (v := .ty "bool") rfl) pa_nil)))) (pw_or1 (pt_val (pe_callB call_isi (by rfl) T.b_isinstance (by decide +kernel) (pa_cons (pv 0) (pa_cons (pe_bltn (by rfl) T.b_bool (by decide +kernel) (v := .ty "bool") rfl) pa_nil)))))))
        (pss_one (ps_ret (pe_and (pe_callB call_isi (by rfl) T.b_isinstance (by decide +kernel) (pa_cons (pv 1) (pa_cons (pe_bltn (by rfl) T.b_bool (by decide +kernel) (v := .ty "bool") rfl) pa_nil))) (pe_and (pe_callB call_isi (by rfl) T.b_isinstance (by decide +kernel) (pa_cons (pv 0) (pa_cons (pe_bltn (by rfl) T.b_bool (by decide +kernel) (v := .ty "bool") rfl) pa_nil))) (pe_one (pe_cmpR op_eq (pv 1) (pv 0) (nomark _)))))))
        pss_nil)
      (pss_cons (ps_if (PW.pt (pw_or (pt_val (pe_callB call_isi (by rfl) T.b_isinstance (by decide +kernel) (pa_cons (pv 1) (pa_cons (pe_bltn (by rfl) T.b_str (by decide +kernel) (v := .ty "str") rfl) pa_nil)))) (pw_or1 (pt_val (pe_callB call_isi (by rfl) T.b_isinstance (by decide +kernel) (pa_cons (pv 0) (pa_cons (pe_bltn (by rfl) T.b_str (by decide +kernel) (v := .ty "str") rfl) pa_nil)))))))
        (pss_one (ps_ret (pe_and (pe_callB call_isi (by rfl) T.b_isinstance (by decide +kernel) (pa_cons (pv 1) (pa_cons (pe_bltn (by rfl) T.b_str (by decide +kernel) (v := .ty "str") rfl) pa_nil))) (pe_and (pe_callB call_isi (by rfl) T.b_isinstance (by decide +kernel) (pa_cons (pv 0) (pa_cons (pe_bltn (by rfl) T.b_str (by decide +kernel) (v := .ty "str") rfl) pa_nil))) (pe_one (pe_cmpR op_eq (pv 1) (pv 0) (nomark _)))))))
        pss_nil)
      (pss_one (ps_ret (pe_and (pe_callB call_isi (by rfl) T.b_isinstance (by decide +kernel) (pa_cons (pv 0) (pa_cons (pe_bltn (by rfl) T.b_int (by decide +kernel) (v := .ty "int") rfl) pa_nil))) (pe_one (pe_cmpR op_eq (pv 0) (pv 1) (nomark _))))))))))), ?_⟩
      refine ⟨_, rfl, .ref b, .ty "list", .type "tuple", .type "list", false, rfl, .ty _, .base (.tup hb), kit_ty (by decide +kernel), _, rfl, .ref a, .ty "list", .type "tuple", .type "list", false, rfl, .ty _, .base (.tup ha), kit_ty (by decide +kernel), rfl, _, rfl, ?_⟩
      refine iteF ?_
      refine ⟨_, rfl, .ref b, .ty "tuple", .type "tuple", .type "tuple", true, rfl, .ty _, .base (.tup hb), kit_ty (by decide +kernel), _, rfl, .ref a, .ty "tuple", .type "tuple", .type "tuple", true, rfl, .ty _, .base (.tup ha), kit_ty (by decide +kernel), rfl, _, rfl, ?_⟩
      refine iteF ?_
      refine ⟨_, rfl, (by show 2 ≤ sizeLine; decide), fun tp htp => ?_⟩
      have s1 := same_new (Same.refl H) htp (o := .tup [.ty "list", .ty "tuple"])
      refine ⟨.ref b, tp, _, .type "tuple", [.type "list", .type "tuple"], true, rfl, upd_same, .cons (.ty _) (.cons (.ty _) .nil), .base (.tup (s1 _ _ hb)), kit2t, _, rfl, ?_⟩
      generalize upd H tp (.tup [.ty "list", .ty "tuple"]) = H1 at s1 ⊢
      have ha1 := s1 _ _ ha
      have hb1 := s1 _ _ hb
      refine iteT ?_
      refine ⟨_, rfl, a, xs, rfl, .inr (sqT ha1), _, rfl, b, xs, rfl, .inr (sqT hb1), rfl, _, rfl, ?_⟩
      rw [decide_eq_true rfl]
      refine iteF ?_
      refine ⟨_, rfl, b, xs, rfl, .inr (sqT hb1), (xs.length : Int), rfl, by omega, by omega, fun D hD => lc_map (walk_range (lo := 0) (n := xs.length)) _ yRng (fun i => .bl true) (fun _ _ => trivial) hD hz (fun _ => rfl) ?_ ?_⟩
      · intro i H' Q' hi s' q'
        have hx := List.getElem?_eq_getElem hi
        refine ⟨_, rfl, _, rfl, .inr <| .inl ⟨a, xs, _, xs[i], rfl, rfl, sqT (s' _ _ ha1), at_of rfl hx, _, rfl, _, rfl, .inr <| .inl ⟨b, xs, _, xs[i], rfl, rfl, sqT (s' _ _ hb1), at_of rfl hx, xs[i], rfl, hat _ (List.getElem_mem hi), fun H2 s2 => q' H2 s2⟩⟩⟩
      · intro H' s' e
        refine ⟨D, (List.range xs.length).map fun _ => true, rfl, sqL (by rw [e, List.map_map]; rfl), ?_⟩
        have e2 : ((List.range xs.length).map fun _ => true).all id = true := by
          rw [List.all_map]
          exact List.all_eq_true.mpr fun _ _ => rfl
        rw [e2]
        exact q H' (s1.trans s')
def spSame : Sp := fun vs H Q E => spSame0 vs H Q E ∨ spSeq vs H Q E
theorem ok_l_same (T : TX K mg) : FnOk P w K mg base CX0 3 T.l_same.f T.l_same.fd ["_law_told", "_law_due"] spSame := fn_or ((ok_same0 T).mono (by decide)) (ok_seq T)
end
end Ls
/-! The law's own defs: the world. -/
namespace Ls
open PySem PySem.Spec PyProof.Rows L2
/-- trees with their first slots -/
def offs : Nat → List Tr → List (Tr × Nat)
  | _, [] => []
  | o, t :: ts => (t, o) :: offs (o + t.slots) ts
def tot : List Tr → Nat
  | [] => 0
  | t :: ts => t.slots + tot ts
theorem tot_app : ∀ a b : List Tr, tot (a ++ b) = tot a + tot b
  | [], b => (Nat.zero_add _).symm
  | t :: a, b => by
    show t.slots + tot (a ++ b) = t.slots + tot a + tot b
    rw [tot_app a b, Nat.add_assoc]
theorem offs_app : ∀ (o : Nat) (a b : List Tr), offs o (a ++ b) = offs o a ++ offs (o + tot a) b
  | _, [], _ => rfl
  | o, t :: a, b => by
    show (t, o) :: offs (o + t.slots) (a ++ b) = (t, o) :: (offs (o + t.slots) a ++ offs (o + (t.slots + tot a)) b)
    rw [offs_app (o + t.slots) a b, Nat.add_assoc]
theorem offs_len : ∀ (o : Nat) (a : List Tr), (offs o a).length = a.length
  | _, [] => rfl
  | o, t :: a => by
    show (offs (o + t.slots) a).length + 1 = a.length + 1
    rw [offs_len]
theorem offs_mem : ∀ (o : Nat) (a : List Tr) (q : Tr × Nat), q ∈ offs o a → o ≤ q.2 ∧ q.2 + q.1.slots ≤ o + tot a
  | _, [], _, h => nomatch h
  | o, t :: a, q, h => by
    show o ≤ q.2 ∧ q.2 + q.1.slots ≤ o + (t.slots + tot a)
    rcases List.mem_cons.mp h with e | h
    · subst e
      exact ⟨Nat.le_refl _, by show o + t.slots ≤ _; omega⟩
    · have := offs_mem (o + t.slots) a q h
      omega
def dots (n : Nat) : List Tr := List.replicate n .dot
theorem tot_dots : ∀ n, tot (dots n) = n
  | 0 => rfl
  | n + 1 => by
    show 1 + tot (dots n) = n + 1
    rw [tot_dots n, Nat.add_comm]
theorem offs_dots : ∀ (n o : Nat), offs o (dots n) = (List.range n).map fun i => (.dot, o + i)
  | 0, _ => rfl
  | n + 1, o => by
    show (Tr.dot, o) :: offs (o + 1) (dots n) = _
    rw [offs_dots n (o + 1), List.range_succ_eq_map, List.map_cons, List.map_map]
    congr 1
    apply List.map_congr_left
    intro i _
    show (Tr.dot, o + 1 + i) = (Tr.dot, o + (i + 1))
    rw [Nat.add_assoc, Nat.add_comm 1 i]
section
variable {P : Program} {w : World} {K : PySem.W.Frag} {mg : Str → Option Value} {base : Heap}
def PartAt (H : Hp) (v : V) (q : Tr × Nat) : Prop := ∃ a pl : Addr, v = .ref a ∧ H a = some (.lst [.str (S q.1.txt), .int (q.2 : Nat), .int ((q.2 + q.1.slots - 1 : Nat) : Int), .ref pl]) ∧ H pl = some (.lst (intsV (q.1.post q.2)))
theorem PartAt.mono {H H' : Hp} {v : V} {q : Tr × Nat} (s : Same H H') (h : PartAt H v q) : PartAt H' v q := by
  obtain ⟨a, pl, e, h1, h2⟩ := h
  exact ⟨a, pl, e, s _ _ h1, s _ _ h2⟩
def SpansOk (H : Hp) (sv : List V) (q : Tr × Nat) : Prop := ∀ i p, (q.1.spans q.2)[i]? = some p → ∃ c : Addr, sv[q.2 + i]? = some (.ref c) ∧ H c = some (.tup [.int p.1, .int p.2])
theorem SpansOk.mono {H H' : Hp} {sv : List V} {q : Tr × Nat} (s : Same H H') (h : SpansOk H sv q) : SpansOk H' sv q := fun i p e => by
  obtain ⟨c, e1, e2⟩ := h i p e
  exact ⟨c, e1, s _ _ e2⟩
theorem SpansOk.set {H : Hp} {sv : List V} {q : Tr × Nat} {j : Nat} {x : V} (h : SpansOk H sv q) (hj : j < q.2 ∨ q.2 + q.1.slots ≤ j + 1) : SpansOk H (sv.set j x) q := fun i p e => by
  obtain ⟨c, e1, e2⟩ := h i p e
  have hi := (List.getElem?_eq_some_iff.mp e).1
  rw [Tr.spans_len] at hi
  exact ⟨c, by rw [List.getElem?_set_ne (by omega)]; exact e1, e2⟩
theorem SpansOk.node {H : Hp} {sv : List V} {l r : Tr} {o : Nat} {c : Addr} (hl : SpansOk H sv (l, o)) (hr : SpansOk H sv (r, o + l.slots)) (hj : o + l.slots - 1 < sv.length) (hc : H c = some (.tup [.int (o : Nat), .int ((o + l.slots + r.slots - 1 : Nat) : Int)])) :
    SpansOk H (sv.set (o + l.slots - 1) (.ref c)) (.node l r, o) := fun i p e => by
  have p1 := Tr.slots_pos l
  have e : (l.spans o ++ (o, o + (l.slots + r.slots) - 1) :: r.spans (o + l.slots))[i]? = some p := e
  show ∃ d, (sv.set (o + l.slots - 1) (.ref c))[o + i]? = some (.ref d) ∧ _
  by_cases c1 : i + 1 < l.slots
  · rw [List.getElem?_append_left (by rw [Tr.spans_len]; omega)] at e
    obtain ⟨d, e1, e2⟩ := hl i p e
    exact ⟨d, by rw [List.getElem?_set_ne (by omega)]; exact e1, e2⟩
  · by_cases c2 : i + 1 = l.slots
    · rw [List.getElem?_append_right (by rw [Tr.spans_len]; omega), Tr.spans_len, show i - (l.slots - 1) = 0 by omega] at e
      cases e
      refine ⟨c, ?_, ?_⟩
      · rw [show o + i = o + l.slots - 1 by omega, List.getElem?_set_self hj]
      · rw [hc, Nat.add_assoc]
    · rw [List.getElem?_append_right (by rw [Tr.spans_len]; omega), Tr.spans_len, show i - (l.slots - 1) = (i - l.slots) + 1 by omega, List.getElem?_cons_succ] at e
      obtain ⟨d, e1, e2⟩ := hr (i - l.slots) p e
      have e1 : sv[o + l.slots + (i - l.slots)]? = some (.ref d) := e1
      exact ⟨d, by rw [List.getElem?_set_ne (by omega), show o + i = o + l.slots + (i - l.slots) by omega]; exact e1, e2⟩
/-- the forest after some joins: parts at pa, spans at sp -/
structure Forest (L : List Addr) (Hf H : Hp) (pa sp : Addr) (n : Nat) (Ts : List Tr) : Prop where
  fz : Fzl L Hf H
  tn : tot Ts = n
  pt : ∃ vs, Hf pa = some (.lst vs) ∧ All2 (PartAt Hf) vs (offs 0 Ts)
  sv : ∃ sv, H sp = some (.lst sv) ∧ sv.length = n - 1 ∧ ∀ q ∈ offs 0 Ts, SpansOk Hf sv q
theorem same_upd {Hf H : Hp} {p : Addr} {o : HO} (s : Same Hf H) (h : H p = some o) : Same (upd Hf p o) H := fun a x e => by
  by_cases c : a = p
  · subst c
    rw [upd_same] at e
    rw [h]
    exact e
  · rw [upd_ne c] at e
    exact s a x e
theorem Fzl.draw {L : List Addr} {Hf H H' : Hp} {b : Addr} (f : Fzl L Hf H) (hb : b ∈ L) (hB : BoxAt H' b) (s : Same (wo H b) H') : Fzl L Hf H' := by
  refine ⟨(wo_of f.s (f.free b hb)).trans s, f.free, fun a ha e => ?_⟩
  by_cases c : a = b
  · obtain ⟨x, y, z, h⟩ := hB
    rw [c, h] at e
    cases e
  · cases h : H a with
    | none => exact f.at_ a ha h
    | some o =>
      rw [s a o ((wo_ne c).trans h)] at e
      cases e
theorem Fzl.less {L : List Addr} {Hf H : Hp} {p : Addr} (f : Fzl (p :: L) Hf H) : Fzl L Hf H := ⟨f.s, fun a ha => f.free a (List.mem_cons_of_mem _ ha), fun a ha => f.at_ a (List.mem_cons_of_mem _ ha)⟩
/-- what changed no more is kept -/
theorem Fzl.keep {L : List Addr} {Hf H : Hp} {p : Addr} {o : HO} (f : Fzl (p :: L) Hf H) (h : H p = some o) (hp : ¬ p ∈ L) : Fzl L (upd Hf p o) H :=
  ⟨same_upd f.s h, fun a ha => by rw [upd_ne (fun (e : a = p) => hp (e ▸ ha))]; exact f.free a (List.mem_cons_of_mem _ ha), fun a ha => f.at_ a (List.mem_cons_of_mem _ ha)⟩
def pw (i : Nat) : Nat := [1, 2, 4, 8, 16, 32, 64].getD i 0
theorem pw_val : ∀ i, i < 7 → [V.int 1, .int 2, .int 4, .int 8, .int 16, .int 32, .int 64].getD i .non = .int (pw i : Nat)
  | 0, _ | 1, _ | 2, _ | 3, _ | 4, _ | 5, _ | 6, _ => rfl
theorem pw_pos : ∀ i, i < 7 → 1 ≤ pw i := by decide
theorem lean_dec (a c : Nat) : decide (V.int (a : Nat) = V.int (c : Nat)) = decide (a = c) := by
  by_cases z : a = c
  · rw [z, decide_eq_true rfl, decide_eq_true rfl]
  · rw [decide_eq_false z, decide_eq_false]
    intro z2
    injection z2 with z2
    omega
theorem dots_at {Hf : Hp} {a pl : Addr} {i : Nat} (h1 : Hf a = some (.lst [.str ".", .int (i : Nat), .int (i : Nat), .ref pl])) (h2 : Hf pl = some (.lst [])) : PartAt Hf (.ref a) (.dot, i) := by
  refine ⟨a, pl, rfl, ?_, h2⟩
  rw [h1]
  have e1 : ("." : Str) = S (Tr.dot).txt := by decide +kernel
  have e2 : i + (Tr.dot).slots - 1 = i := by show i + 1 - 1 = i; omega
  rw [e1]
  show _ = some (HO.lst [.str (S (Tr.dot).txt), .int (i : Nat), .int ((i + (Tr.dot).slots - 1 : Nat) : Int), .ref pl])
  rw [e2]
theorem range_dots (n : Nat) : offs 0 (dots n) = (List.range n).map fun i => (Tr.dot, i) := by
  rw [offs_dots]
  apply List.map_congr_left
  intro i _
  rw [Nat.zero_add]
theorem split2 {α : Type} : ∀ (Ts : List α) (k : Nat), k + 2 ≤ Ts.length → ∃ A l r B, Ts = A ++ l :: r :: B ∧ A.length = k
  | [], _, h => absurd h (by simp)
  | [_], _, h => absurd h (by simp)
  | a :: b :: B, 0, _ => ⟨[], a, b, B, rfl, rfl⟩
  | a :: Ts, k + 1, h => by
    obtain ⟨A, l, r, B, e1, e2⟩ := split2 Ts k (by simpa using h)
    exact ⟨a :: A, l, r, B, by rw [e1]; rfl, by rw [List.length_cons, e2]⟩
theorem All2.split {α β : Type} {R : α → β → Prop} : ∀ {ys1 ys2 : List β} {xs : List α}, All2 R xs (ys1 ++ ys2) → ∃ xs1 xs2, xs = xs1 ++ xs2 ∧ All2 R xs1 ys1 ∧ All2 R xs2 ys2
  | [], _, xs, h => ⟨[], xs, rfl, .nil, h⟩
  | y :: ys1, ys2, _, .cons r h => by
    obtain ⟨x1, x2, e, h1, h2⟩ := All2.split h
    exact ⟨_ :: x1, x2, by rw [e]; rfl, .cons r h1, h2⟩
theorem node_txt (l r : Tr) : (("(" : Str) ++ S l.txt) ++ S r.txt ++ (")" : Str) = S (Tr.node l r).txt := by
  rw [show ("(" : Str) = S [40] by decide +kernel, show (")" : Str) = S [41] by decide +kernel, S_app, S_app, S_app]
  show S ([40] ++ l.txt ++ r.txt ++ [41]) = S (40 :: (l.txt ++ r.txt ++ [41]))
  congr 1
def spWorld (K : PySem.W.Frag) : Sp := fun vs H Q _ => ∃ (b : Addr) (most : Nat), vs = [.ref b, .int most] ∧ BoxAt H b ∧ 1 ≤ most ∧ most ≤ 64 ∧ ∀ H' v t, Same (wo H b) H' → BoxAt H' b → Dp K (wo H' b) v (worldD t) → t.slots ≤ 64 → Q v H'
theorem ok_l_world (T : TX K mg) : FnOk P w K mg base CX0 2 T.l_world.f T.l_world.fd ["_law_box_here", "_law_most"] (spWorld K) := by
  refine T.l_world.F.ok sc_l_world (fun vs H Q E h => ?_) (fun cdv A outer s H vs Q E hr h => ?_)
  · obtain ⟨b, most, rfl, _⟩ := h
    rfl
  · obtain ⟨b, most, rfl, hB, hm1, hm64, q⟩ := h
    refine ⟨_, (pss_cons (ps_set (i := 2) sc_l_world.nd rfl (by first | exact .inl rfl | exact .inr rfl) (pe_op op_add pe_int (pe_call (ok_l_take T) (hr.mono (by decide)) (by rfl) T.l_take.g T.l_take.F.kp T.l_take.b .nil pass0 (pa_cons (pv 0) (pa_cons (pv 1) pa_nil)))))
      (pss_cons (ps_set (i := 3) sc_l_world.nd rfl (by first | exact .inl rfl | exact .inr rfl) (pe_call (ok_l_take T) (hr.mono (by decide)) (by rfl) T.l_take.g T.l_take.F.kp T.l_take.b .nil pass0 (pa_cons (pv 0) (pa_cons pe_int pa_nil))))
      (pss_cons (ps_if (pt_cmpR op_eq (pv 3) pe_int (nomark _))
        (pss_one (ps_set (i := 2) sc_l_world.nd rfl (by first | exact .inl rfl | exact .inr rfl) (pe_callB (cr_max rfl) (by rfl) T.b_max (by decide +kernel) (pa_cons (pe_lc (own := [("_law_power", 4)]) rfl sc_l_world.nd (pi_list (pe_lst (pa_cons pe_int (pa_cons pe_int (pa_cons pe_int (pa_cons pe_int (pa_cons pe_int (pa_cons pe_int (pa_cons pe_int pa_nil))))))))) (blkOk_by (N := ["_law_box_here", "_law_most", "_law_many", "_law_lean", "_law_power", "_law_parts", "_law_k", "_law_spans", "_law_turn", "_law_step", "_law_place", "_law_one", "_law_two", "_law_whole"]) (sc := defScope s_l_world) (by decide +kernel)) (fun _ _ _ _ _ => (pg_name (i := 4) sc_l_world.nd rfl (by first | exact .inl rfl | exact .inr rfl))) (fun _ _ _ _ _ => (pts_one (pt_cmpR op_le (pv 4) (pv 2) (nomark _)))) (fun _ _ _ _ _ => (pe_callTy call_int1 (by rfl) T.b_int (by decide +kernel) (pa_cons (pv 4) pa_nil)))) pa_nil))))
        (pss_one (ps_if (pt_cmpR op_eq (pv 3) pe_int (nomark _))
        (pss_one (ps_set (i := 2) sc_l_world.nd rfl (by first | exact .inl rfl | exact .inr rfl) (pv 1)))
        pss_nil)))
      (pss_cons (ps_setLc (i := 5) (own := [("_law_k", 6)]) rfl sc_l_world.nd rfl rfl (sw_true rfl rfl rfl (by decide +kernel)) (pi_range1 rfl T.b_range (pa_cons (pv 2) pa_nil)) (blkOk_by (N := ["_law_box_here", "_law_most", "_law_many", "_law_lean", "_law_power", "_law_parts", "_law_k", "_law_spans", "_law_turn", "_law_step", "_law_place", "_law_one", "_law_two", "_law_whole"]) (sc := defScope s_l_world) (by decide +kernel)) (fun _ _ _ _ _ => (pg_name (i := 6) sc_l_world.nd rfl (by first | exact .inl rfl | exact .inr rfl))) (fun _ _ _ _ _ => pts_nil) (fun _ _ _ _ _ => (pe_lst (pa_cons pe_str (pa_cons (pv 6) (pa_cons (pv 6) (pa_cons (pe_lst pa_nil) pa_nil)))))))
      (pss_cons (ps_setLc (i := 7) (own := [("_law_k", 6)]) rfl sc_l_world.nd rfl rfl (sw_true rfl rfl rfl (by decide +kernel)) (pi_range1 rfl T.b_range (pa_cons (pe_op op_sub (pv 2) pe_int) pa_nil)) (blkOk_by (N := ["_law_box_here", "_law_most", "_law_many", "_law_lean", "_law_power", "_law_parts", "_law_k", "_law_spans", "_law_turn", "_law_step", "_law_place", "_law_one", "_law_two", "_law_whole"]) (sc := defScope s_l_world) (by decide +kernel)) (fun _ _ _ _ _ => (pg_name (i := 6) sc_l_world.nd rfl (by first | exact .inl rfl | exact .inr rfl))) (fun _ _ _ _ _ => pts_nil) (fun _ _ _ _ _ => (pe_tup (pa_cons pe_int (pa_cons pe_int pa_nil)))))
      (pss_cons (ps_set (i := 8) sc_l_world.nd rfl (by first | exact .inl rfl | exact .inr rfl) pe_int)
      (pss_cons (ps_for PassesOwn.never rfl (pi_range1 rfl T.b_range (pa_cons (pe_op op_sub (pv 2) pe_int) pa_nil)) (pg_name (i := 9) sc_l_world.nd rfl (by first | exact .inl rfl | exact .inr rfl))
        (pss_cons (ps_set (i := 10) sc_l_world.nd rfl (by first | exact .inl rfl | exact .inr rfl) (pe_call (ok_l_take T) (hr.mono (by decide)) (by rfl) T.l_take.g T.l_take.F.kp T.l_take.b .nil pass0 (pa_cons (pv 0) (pa_cons (pe_op op_sub (pe_callB call_len_seq (by rfl) T.b_len (by decide +kernel) (pa_cons (pv 5) pa_nil)) pe_int) pa_nil))))
      (pss_cons (ps_if (pt_cmpR op_eq (pv 3) pe_int (nomark _))
        (pss_one (ps_set (i := 10) sc_l_world.nd rfl (by first | exact .inl rfl | exact .inr rfl) (pe_op op_sub (pe_callB call_len_seq (by rfl) T.b_len (by decide +kernel) (pa_cons (pv 5) pa_nil)) pe_int)))
        (pss_one (ps_if (pt_cmpR op_eq (pv 3) pe_int (nomark _))
        (pss_one (ps_set (i := 10) sc_l_world.nd rfl (by first | exact .inl rfl | exact .inr rfl) pe_int))
        (pss_one (ps_if (pt_cmpR op_eq (pv 3) pe_int (nomark _))
        (pss_cons (ps_if (pt_cmpR op_gt (pv 8) (pe_op op_sub (pe_callB call_len_seq (by rfl) T.b_len (by decide +kernel) (pa_cons (pv 5) pa_nil)) pe_int) (nomark _))
        (pss_one (ps_set (i := 8) sc_l_world.nd rfl (by first | exact .inl rfl | exact .inr rfl) pe_int))
        pss_nil)
      (pss_cons (ps_set (i := 10) sc_l_world.nd rfl (by first | exact .inl rfl | exact .inr rfl) (pv 8))
      (pss_one (ps_set (i := 8) sc_l_world.nd rfl (by first | exact .inl rfl | exact .inr rfl) (pe_op op_add (pv 8) pe_int)))))
        pss_nil)))))
      (pss_cons (ps_set (i := 11) sc_l_world.nd rfl (by first | exact .inl rfl | exact .inr rfl) (pe_ix ix_list (pv 5) (pv 10) (fun _ _ => rfl)))
      (pss_cons (ps_set (i := 12) sc_l_world.nd rfl (by first | exact .inl rfl | exact .inr rfl) (pe_ix ix_list (pv 5) (pe_op op_add (pv 10) pe_int) (fun _ _ => rfl)))
      (pss_cons (ps_asg (pe_tup (pa_cons (pe_ix ix_list (pv 11) pe_int (fun _ _ => rfl)) (pa_cons (pe_ix ix_list (pv 12) pe_int (fun _ _ => rfl)) pa_nil))) (pg_sub (pv 7) (pe_ix ix_list (pv 11) pe_int (fun _ _ => rfl)) set_list))
      (pss_cons (ps_set (i := 13) sc_l_world.nd rfl (by first | exact .inl rfl | exact .inr rfl) (pe_lst (pa_cons (pe_op op_add_str (pe_op op_add_str (pe_op op_add_str pe_str (pe_ix ix_list (pv 11) pe_int (fun _ _ => rfl))) (pe_ix ix_list (pv 12) pe_int (fun _ _ => rfl))) pe_str) (pa_cons (pe_ix ix_list (pv 11) pe_int (fun _ _ => rfl)) (pa_cons (pe_ix ix_list (pv 12) pe_int (fun _ _ => rfl)) (pa_cons (pe_op op_cat (pe_op op_cat (pe_ix ix_list (pv 11) pe_int (fun _ _ => rfl)) (pe_ix ix_list (pv 12) pe_int (fun _ _ => rfl))) (pe_lst (pa_cons (pe_ix ix_list (pv 11) pe_int (fun _ _ => rfl)) pa_nil))) pa_nil))))))
      (pss_one (ps_set (i := 5) sc_l_world.nd rfl (by first | exact .inl rfl | exact .inr rfl) (pe_op op_cat (pe_op op_cat (pe_slice sl_list (pv 5) po_none (po_some (pv 10))) (pe_lst (pa_cons (pv 13) pa_nil))) (pe_slice sl_list (pv 5) (po_some (pe_op op_add (pv 10) pe_int)) po_none)))))))))))
      (pss_one (ps_ret (pe_tup (pa_cons (pe_ix ix_list (pe_ix ix_list (pv 5) pe_int (fun _ _ => rfl)) pe_int (fun _ _ => rfl)) (pa_cons (pv 2) (pa_cons (pv 7) (pa_cons (pe_ix ix_list (pe_ix ix_list (pv 5) pe_int (fun _ _ => rfl)) pe_int (fun _ _ => rfl)) pa_nil)))))))))))))), ?_⟩
    refine ⟨_, rfl, _, rfl, b, most, rfl, hB, hm1, by omega, fun H1 r1 s1 hB1 hr1 => ⟨_, _, rfl, rfl, ?_⟩⟩
    refine ⟨_, rfl, b, 6, rfl, hB1, by decide, by decide, fun H2 lean s2 hB2 hlean => ?_⟩
    have k2 := (wo_of s1 wo_at).trans s2
    refine ⟨_, rfl, rfl, _, rfl, ?_⟩
    generalize hN : tSeq _ _ _ = N
    have key : ∀ (many : Nat) (H' : Hp), 1 ≤ many → many ≤ 64 → Same (wo H b) H' → BoxAt H' b → N [some (.ref b), some (.int (most : Nat)), some (.int (many : Nat)), some (.int (lean : Nat)), none, none, none, none, none, none, none, none, none, none] H' := by
      intro many H3 hm hm2 k3 hB3
      rw [← hN]
      clear hN
      have z200 := small1000 (n := 400) (by decide)
      refine ⟨_, rfl, (many : Int), rfl, by omega, by omega, fun pa hpa => lc_it (walk_range (lo := 0) (n := many)) (fun i Hc => ∃ (Hf : Hp) (vs : List V), Same (wo H b) Hf ∧ Fzl [pa, b] Hf Hc ∧ BoxAt Hc b ∧ Hc pa = some (.lst vs) ∧ vs.length = i ∧ All2 (PartAt Hf) vs ((List.range i).map fun i => (Tr.dot, i)))
        ⟨wo H3 b, [], wo_of k3 wo_at, Fzl.add ⟨wo_same, fun a ha => by rw [List.mem_singleton.mp ha]; exact wo_at, fun a ha e => by
          obtain ⟨x, y, z, h⟩ := hB3
          rw [List.mem_singleton.mp ha, h] at e; cases e⟩ _ hpa, hB3.mono (same_new (Same.refl _) hpa), upd_same, rfl, .nil⟩ (fun _ _ _ _ => trivial) ?_ ?_⟩
      · rintro i x Hc Hc' hi ⟨Hf, vs, g1, g2, g3, g4, g5, g6⟩ hy
        obtain ⟨rfl, rfl⟩ := yRng i _ _ _ hi hy
        refine ⟨rfl, _, rfl, _, rfl, Nat.zero_le _, fun pl hpl => ⟨(by show 4 ≤ sizeLine; decide), fun a ha => ?_⟩⟩
        have u1 := g2.new (.lst []) hpl
        have u2 := u1.new (.lst [.str ".", .int (i : Nat), .int (i : Nat), .ref pl]) ha
        have m1 := g2.sub (.lst []) hpl
        have m2 := u1.sub (.lst [.str ".", .int (i : Nat), .int (i : Nat), .ref pl]) ha
        have n1 := same_new (Same.refl Hc') hpl (o := .lst [])
        have n2 := n1.trans (same_new (Same.refl _) ha (o := .lst [.str ".", .int (i : Nat), .int (i : Nat), .ref pl]))
        have hbp : b ≠ pa := g2.ne (a := b) (p := pa) (by simp) |> fun _ => box_ne hB3 hpa
        refine ⟨vs, n2 _ _ g4, by omega, _, vs ++ [.ref a], g1.trans (m1.trans m2), u2.put (by simp) _, ?_, upd_same, by rw [List.length_append, g5]; rfl, ?_⟩
        · obtain ⟨x, y, z, h⟩ := g3
          exact ⟨x, y, z, by rw [upd_ne hbp]; exact n2 _ _ h⟩
        · rw [List.range_succ, List.map_append]
          exact (g6.mono fun _ _ z => z.mono (m1.trans m2)).snoc (dots_at upd_same (m2 _ _ upd_same))
      · rintro H4 ⟨Hf, vs, g1, g2, g3, g4, g5, g6⟩
        have hbp : b ≠ pa := box_ne hB3 hpa
        have g2' := g2.keep g4 (by simp; exact hbp.symm)
        have sf : Same Hf (upd Hf pa (.lst vs)) := same_new (Same.refl Hf) (g2.free _ (by simp))
        have ep : (upd Hf pa (.lst vs)) pa = some (.lst vs) := upd_same
        have g6' := g6.mono fun _ _ z => z.mono sf
        rw [← range_dots] at g6'
        have g1' := g1.trans sf
        generalize upd Hf pa (.lst vs) = Hf1 at g2' ep g6' g1'
        clear g2 g6 g1 sf
        refine ⟨_, rfl, _, _, rfl, rfl, ((many - 1 : Nat) : Int), congrArg (fun z => [V.int z]) (nat_pred hm), by omega, by omega, fun sp hsp => lc_it (walk_range (lo := 0) (n := many - 1)) (fun i Hc => ∃ (sv : List V), Fzl [sp, b] Hf1 Hc ∧ BoxAt Hc b ∧ Hc sp = some (.lst sv) ∧ sv.length = i)
          ⟨[], g2'.add _ hsp, g3.mono (same_new (Same.refl _) hsp), upd_same, rfl⟩ (fun _ _ _ _ => trivial) ?_ ?_⟩
        · rintro i x Hc Hc' hi ⟨sv, f1, f2, f3, f4⟩ ⟨rfl, rfl⟩
          have hbs : b ≠ sp := box_ne g3 hsp
          refine ⟨rfl, (by show 2 ≤ sizeLine; decide), fun c hc => ?_⟩
          have n1 := same_new (Same.refl Hc') hc (o := .tup [.int 0, .int 0])
          refine ⟨sv, n1 _ _ f3, by omega, sv ++ [.ref c], (f1.go n1).put (by simp) _, ?_, upd_same, by rw [List.length_append, f4]; rfl⟩
          obtain ⟨x, y, z, h⟩ := f2
          exact ⟨x, y, z, by rw [upd_ne hbs]; exact n1 _ _ h⟩
        · rintro H5 ⟨sv, f1, f2, f3, f4⟩
          have hbs : b ≠ sp := box_ne g3 hsp
          refine ⟨_, rfl, _, _, rfl, rfl, ((many - 1 : Nat) : Int), congrArg (fun z => [V.int z]) (nat_pred hm), by omega, by omega, ?_⟩
          refine for_it (walk_range (lo := 0) (n := many - 1)) (fun i σ Hc => ∃ (Hf : Hp) (Ts : List Tr) (pa : Addr) (turn : Nat) (v9 v10 v11 v12 v13 : Option V), σ = [some (.ref b), some (.int (most : Nat)), some (.int (many : Nat)), some (.int (lean : Nat)), none, some (.ref pa), none, some (.ref sp), some (.int (turn : Nat)), v9, v10, v11, v12, v13] ∧ Same (wo H b) Hf ∧ Ts.length = many - i ∧ Forest [sp, b] Hf Hc pa sp many Ts ∧ BoxAt Hc b)
            ⟨Hf1, dots many, pa, 0, none, none, none, none, none, rfl, g1', List.length_replicate, ⟨f1, tot_dots many, ⟨vs, ep, g6'⟩, ⟨sv, f3, f4, ?_⟩⟩, f2⟩ (fun _ _ _ _ _ => trivial) ?_ ?_
          · intro q hq i p e
            rw [range_dots] at hq
            obtain ⟨j, _, rfl⟩ := List.mem_map.mp hq
            cases e
          · rintro i x σ Hc Hc' hi ⟨Hf, Ts, pa, turn, v9, v10, v11, v12, v13, rfl, g1, gl, ⟨fz, tn, ⟨vs, ep, ea⟩, ⟨sv, es1, es2, es3⟩⟩, gB⟩ hy
            obtain ⟨rfl, rfl⟩ := yRng i _ _ _ hi hy
            have hvl : vs.length = many - i := by rw [ea.len, offs_len, gl]
            refine ⟨_, rfl, _, rfl, pa, vs, rfl, .inl (sqL (fz.s _ _ ep)), _, _, rfl, rfl, ?_⟩
            refine ⟨b, many - i - 1, congrArg (fun z => [V.ref b, V.int z]) (by omega), gB, by omega, by omega, fun H6 r s6 hB6 hr6 => ?_⟩
            have fz6 := fz.draw (by simp) hB6 s6
            have es6 : H6 sp = some (.lst sv) := s6 _ _ ((wo_ne hbs.symm).trans es1)
            refine ⟨_, rfl, rfl, _, rfl, ?_⟩
            generalize hN2 : tSeq _ _ _ = N2
            have key2 : ∀ place turn : Nat, place + 2 ≤ many - i → N2 [some (.ref b), some (.int (most : Nat)), some (.int (many : Nat)), some (.int (lean : Nat)), none, some (.ref pa), none, some (.ref sp), some (.int (turn : Nat)), some (.int (i : Nat)), some (.int (place : Nat)), v11, v12, v13] H6 := by
              intro place turn hpl
              rw [← hN2]
              clear hN2
              obtain ⟨TA, l, r, TB, rfl, hTA⟩ := split2 Ts place (by omega)
              have p1 := Tr.slots_pos l
              have p2 := Tr.slots_pos r
              rw [offs_app] at ea es3
              have tn2 : tot TA + (l.slots + (r.slots + tot TB)) = many := by rw [tot_app] at tn; exact tn
              obtain ⟨vA, v3, rfl, eA, ea2⟩ := All2.split ea
              rw [Nat.zero_add] at ea2 es3
              have hvA : vA.length = place := by rw [eA.len, offs_len, hTA]
              cases ea2 with
              | cons h1 ea2 =>
                cases ea2 with
                | cons h2 eB =>
                  rename_i v1 vs1 v2 vB
                  obtain ⟨a1, pl1, rfl, g11, g12⟩ := h1
                  obtain ⟨a2, pl2, rfl, g21, g22⟩ := h2
                  have g11 : Hf a1 = some (.lst [.str (S l.txt), .int (tot TA : Nat), .int ((tot TA + l.slots - 1 : Nat) : Int), .ref pl1]) := g11
                  have g12 : Hf pl1 = some (.lst (intsV (l.post (tot TA)))) := g12
                  have g21 : Hf a2 = some (.lst [.str (S r.txt), .int ((tot TA + l.slots : Nat) : Int), .int ((tot TA + l.slots + r.slots - 1 : Nat) : Int), .ref pl2]) := g21
                  have g22 : Hf pl2 = some (.lst (intsV (r.post (tot TA + l.slots)))) := g22
                  have ep6 := fz6.s _ _ ep
                  have e1 : (vA ++ .ref a1 :: .ref a2 :: vB)[place]? = some (.ref a1) := by rw [List.getElem?_append_right (by omega), hvA, Nat.sub_self]; rfl
                  have e2 : (vA ++ .ref a1 :: .ref a2 :: vB)[place + 1]? = some (.ref a2) := by rw [List.getElem?_append_right (by omega), hvA, show place + 1 - place = 1 by omega]; rfl
                  have x11 := fz6.s _ _ g11
                  have x21 := fz6.s _ _ g21
                  refine ⟨_, rfl, _, rfl, pa, _, _, _, rfl, rfl, sqL ep6, at_of rfl e1, ?_⟩
                  refine ⟨_, rfl, _, rfl, _, _, rfl, rfl, pa, _, _, _, rfl, rfl, sqL ep6, at_of (j := place + 1) rfl e2, ?_⟩
                  refine ⟨_, rfl, a1, _, 1, _, rfl, rfl, sqL x11, rfl, _, rfl, a2, _, 2, _, rfl, rfl, sqL x21, rfl, (by show 2 ≤ sizeLine; decide), fun c hc => ?_⟩
                  have w1 := fz6.new (.tup [.int (tot TA : Nat), .int ((tot TA + l.slots + r.slots - 1 : Nat) : Int)]) hc
                  have m1 := fz6.sub (.tup [.int (tot TA : Nat), .int ((tot TA + l.slots + r.slots - 1 : Nat) : Int)]) hc
                  have c1 : (upd Hf c (.tup [.int (tot TA : Nat), .int ((tot TA + l.slots + r.slots - 1 : Nat) : Int)])) c = some (.tup [.int (tot TA : Nat), .int ((tot TA + l.slots + r.slots - 1 : Nat) : Int)]) := upd_same
                  have es7 := (same_new (Same.refl H6) hc (o := .tup [.int (tot TA : Nat), .int ((tot TA + l.slots + r.slots - 1 : Nat) : Int)])) _ _ es6
                  have hB7 := hB6.mono (same_new (Same.refl H6) hc (o := .tup [.int (tot TA : Nat), .int ((tot TA + l.slots + r.slots - 1 : Nat) : Int)]))
                  generalize upd H6 c (.tup [.int (tot TA : Nat), .int ((tot TA + l.slots + r.slots - 1 : Nat) : Int)]) = H7 at w1 es7 hB7 ⊢
                  generalize upd Hf c (.tup [.int (tot TA : Nat), .int ((tot TA + l.slots + r.slots - 1 : Nat) : Int)]) = Hf1 at w1 m1 c1
                  refine ⟨_, rfl, _, rfl, a1, _, 2, _, rfl, rfl, sqL (w1.s _ _ (m1 _ _ g11)), rfl, sp, sv, _, tot TA + l.slots - 1, rfl, rfl, es7, ?_, ?_⟩
                  · unfold ixN
                    rw [if_pos (by omega), if_pos (by omega), Int.toNat_natCast]
                  have w2 := w1.put (k := sp) (by simp) (.lst (sv.set (tot TA + l.slots - 1) (.ref c)))
                  have es8 : (upd H7 sp (.lst (sv.set (tot TA + l.slots - 1) (.ref c)))) sp = some (.lst (sv.set (tot TA + l.slots - 1) (.ref c))) := upd_same
                  have hB8 : BoxAt (upd H7 sp (.lst (sv.set (tot TA + l.slots - 1) (.ref c)))) b := by
                    obtain ⟨x, y, z, h⟩ := hB7
                    exact ⟨x, y, z, by rw [upd_ne hbs]; exact h⟩
                  generalize upd H7 sp (.lst (sv.set (tot TA + l.slots - 1) (.ref c))) = H8 at w2 es8 hB8 ⊢
                  have y11 := w2.s _ _ (m1 _ _ g11)
                  have y21 := w2.s _ _ (m1 _ _ g21)
                  have y12 := w2.s _ _ (m1 _ _ g12)
                  have y22 := w2.s _ _ (m1 _ _ g22)
                  have lt1 := Tr.txt_len l
                  have lt2 := Tr.txt_len r
                  have z300 := small1000 (n := 900) (by decide)
                  have e40 : ("(" : Str).length = 1 := by decide +kernel
                  have e41 : (")" : Str).length = 1 := by decide +kernel
                  have lp1 := Tr.post_len l (tot TA)
                  have lp2 := Tr.post_len r (tot TA + l.slots)
                  refine ⟨_, rfl, a1, _, 0, _, rfl, rfl, sqL y11, rfl, _, _, rfl, rfl, by rw [e40, S_len]; omega, _, rfl, a2, _, 0, _, rfl, rfl, sqL y21, rfl, _, _, rfl, rfl, ?_, _, _, rfl, rfl, ?_, ?_⟩
                  · rw [show ("(" : Str) = S [40] by decide +kernel, S_app, S_len, S_len, List.length_append]
                    show 1 + _ + _ ≤ _
                    omega
                  · rw [show ("(" : Str) = S [40] by decide +kernel, S_app, S_app, S_len, List.length_append, List.length_append, e41]
                    show 1 + _ + _ + 1 ≤ _
                    omega
                  rw [node_txt]
                  refine ⟨_, rfl, a1, _, 1, _, rfl, rfl, sqL y11, rfl, _, rfl, a2, _, 2, _, rfl, rfl, sqL y21, rfl, ?_⟩
                  refine ⟨_, rfl, a1, _, 3, _, rfl, rfl, sqL y11, rfl, _, rfl, a2, _, 3, _, rfl, rfl, sqL y21, rfl, pl1, pl2, _, _, rfl, rfl, y12, y22, ?_, fun p3 hp3 => ?_⟩
                  · unfold intsV
                    rw [List.length_map, List.length_map]
                    show (l.post (tot TA)).length + (r.post (tot TA + l.slots)).length ≤ _
                    omega
                  have n3 := same_new (Same.refl H8) hp3 (o := .lst (intsV (l.post (tot TA)) ++ intsV (r.post (tot TA + l.slots))))
                  have a3 : (upd H8 p3 (.lst (intsV (l.post (tot TA)) ++ intsV (r.post (tot TA + l.slots))))) p3 = some (.lst (intsV (l.post (tot TA)) ++ intsV (r.post (tot TA + l.slots)))) := upd_same
                  have w3 := w2.go n3
                  have es9 := n3 _ _ es8
                  have hB9 := hB8.mono n3
                  generalize upd H8 p3 (.lst (intsV (l.post (tot TA)) ++ intsV (r.post (tot TA + l.slots)))) = H9 at w3 es9 hB9 n3 a3 ⊢
                  refine ⟨_, rfl, a1, _, 2, _, rfl, rfl, sqL (n3 _ _ y11), rfl, (by show 1 ≤ sizeLine; decide), fun p4 hp4 => ?_⟩
                  have n4 := same_new (Same.refl H9) hp4 (o := .lst [.int ((tot TA + l.slots - 1 : Nat) : Int)])
                  have a4 : (upd H9 p4 (.lst [.int ((tot TA + l.slots - 1 : Nat) : Int)])) p4 = some (.lst [.int ((tot TA + l.slots - 1 : Nat) : Int)]) := upd_same
                  refine ⟨p3, p4, _, _, rfl, rfl, n4 _ _ a3, a4, ?_, fun p5 hp5 => ?_⟩
                  · unfold intsV
                    rw [List.length_append, List.length_map, List.length_map, List.length_singleton]
                    omega
                  have w4 := w3.go n4
                  have es10 := n4 _ _ es9
                  have hB10 := hB9.mono n4
                  have n34 := n3.trans n4
                  generalize upd H9 p4 (.lst [.int ((tot TA + l.slots - 1 : Nat) : Int)]) = H10 at w4 es10 hB10 n34 n4 hp5 ⊢
                  have epost : intsV (l.post (tot TA)) ++ intsV (r.post (tot TA + l.slots)) ++ [.int ((tot TA + l.slots - 1 : Nat) : Int)] = intsV ((Tr.node l r).post (tot TA)) := by
                    unfold intsV
                    show _ = List.map _ (l.post (tot TA) ++ r.post (tot TA + l.slots) ++ [tot TA + l.slots - 1])
                    rw [List.map_append, List.map_append]
                    rfl
                  rw [epost]
                  have w5 := w4.new (.lst (intsV ((Tr.node l r).post (tot TA)))) hp5
                  have m5 := w4.sub (.lst (intsV ((Tr.node l r).post (tot TA)))) hp5
                  have n5 := same_new (Same.refl H10) hp5 (o := .lst (intsV ((Tr.node l r).post (tot TA))))
                  have a5 : (upd Hf1 p5 (.lst (intsV ((Tr.node l r).post (tot TA))))) p5 = some (.lst (intsV ((Tr.node l r).post (tot TA)))) := upd_same
                  generalize upd H10 p5 (.lst (intsV ((Tr.node l r).post (tot TA)))) = H11 at w5 n5 ⊢
                  generalize upd Hf1 p5 (.lst (intsV ((Tr.node l r).post (tot TA)))) = Hf2 at w5 m5 a5
                  refine ⟨(by show 4 ≤ sizeLine; decide), fun wa hwa => ?_⟩
                  have w6 := w5.new (.lst [.str (S (Tr.node l r).txt), .int (tot TA : Nat), .int ((tot TA + l.slots + r.slots - 1 : Nat) : Int), .ref p5]) hwa
                  have m6 := w5.sub (.lst [.str (S (Tr.node l r).txt), .int (tot TA : Nat), .int ((tot TA + l.slots + r.slots - 1 : Nat) : Int), .ref p5]) hwa
                  have n6 := same_new (Same.refl H11) hwa (o := .lst [.str (S (Tr.node l r).txt), .int (tot TA : Nat), .int ((tot TA + l.slots + r.slots - 1 : Nat) : Int), .ref p5])
                  have a6 : (upd Hf2 wa (.lst [.str (S (Tr.node l r).txt), .int (tot TA : Nat), .int ((tot TA + l.slots + r.slots - 1 : Nat) : Int), .ref p5])) wa = some (.lst [.str (S (Tr.node l r).txt), .int (tot TA : Nat), .int ((tot TA + l.slots + r.slots - 1 : Nat) : Int), .ref p5]) := upd_same
                  generalize upd H11 wa (.lst [.str (S (Tr.node l r).txt), .int (tot TA : Nat), .int ((tot TA + l.slots + r.slots - 1 : Nat) : Int), .ref p5]) = H12 at w6 n6 ⊢
                  generalize upd Hf2 wa (.lst [.str (S (Tr.node l r).txt), .int (tot TA : Nat), .int ((tot TA + l.slots + r.slots - 1 : Nat) : Int), .ref p5]) = Hf3 at w6 m6 a6
                  have m16 := m1.trans (m5.trans m6)
                  have ep12 := w6.s _ _ (m16 _ _ ep)
                  have es12 := n6 _ _ (n5 _ _ es10)
                  have hB12 := (hB10.mono n5).mono n6
                  refine ⟨_, rfl, _, rfl, _, rfl, pa, _, rfl, sqL ep12, fun q1 hq1 => ?_⟩
                  rw [cut_to (by rw [List.length_append]; omega), show (vA ++ .ref a1 :: .ref a2 :: vB).take place = vA by rw [← hvA, List.take_left]]
                  have u1 := same_new (Same.refl H12) hq1 (o := .lst vA)
                  have b1 : (upd H12 q1 (.lst vA)) q1 = some (.lst vA) := upd_same
                  refine ⟨_, rfl, (by show 1 ≤ sizeLine; decide), fun q2 hq2 => ?_⟩
                  have u2 := u1.trans (same_new (Same.refl _) hq2 (o := .lst [.ref wa]))
                  refine ⟨q1, q2, _, _, rfl, rfl, (same_new (Same.refl _) hq2) _ _ b1, upd_same, by rw [List.length_singleton]; omega, fun q3 hq3 => ?_⟩
                  have u3 := u2.trans (same_new (Same.refl _) hq3 (o := .lst (vA ++ [.ref wa])))
                  have b3 : (upd (upd (upd H12 q1 (.lst vA)) q2 (.lst [.ref wa])) q3 (.lst (vA ++ [.ref wa]))) q3 = some (.lst (vA ++ [.ref wa])) := upd_same
                  generalize upd (upd (upd H12 q1 (.lst vA)) q2 (.lst [.ref wa])) q3 (.lst (vA ++ [.ref wa])) = H13 at u3 b3 ⊢
                  refine ⟨_, rfl, _, rfl, _, _, rfl, rfl, _, rfl, pa, _, rfl, sqL (u3 _ _ ep12), fun q4 hq4 => ?_⟩
                  rw [show ((place : Nat) : Int) + 2 = ((place + 2 : Nat) : Int) from rfl, cut_from (by rw [List.length_append, List.length_cons, List.length_cons]; omega), show (vA ++ .ref a1 :: .ref a2 :: vB).drop (place + 2) = vB by rw [← hvA, List.drop_append]; simp]
                  have u4 := u3.trans (same_new (Same.refl _) hq4 (o := .lst vB))
                  rw [List.length_append, List.length_cons, List.length_cons] at hvl
                  refine ⟨q3, q4, _, _, rfl, rfl, (same_new (Same.refl _) hq4) _ _ b3, upd_same, by rw [List.length_append, List.length_singleton]; omega, fun q5 hq5 => ?_⟩
                  have w7 := (w6.go u4).new (.lst (vA ++ [.ref wa] ++ vB)) hq5
                  have m7 := (w6.go u4).sub (.lst (vA ++ [.ref wa] ++ vB)) hq5
                  have a7 : (upd Hf3 q5 (.lst (vA ++ [.ref wa] ++ vB))) q5 = some (.lst (vA ++ [.ref wa] ++ vB)) := upd_same
                  have u5 := u4.trans (same_new (Same.refl _) hq5 (o := .lst (vA ++ [.ref wa] ++ vB)))
                  generalize upd Hf3 q5 (.lst (vA ++ [.ref wa] ++ vB)) = Hf4 at w7 m7 a7
                  have m17 := m16.trans m7
                  have hsvl : (sv.set (tot TA + l.slots - 1) (.ref c)).length = many - 1 := by rw [List.length_set]; exact es2
                  have eoffs : offs 0 (TA ++ [Tr.node l r] ++ TB) = offs 0 TA ++ [(Tr.node l r, tot TA)] ++ offs (tot TA + l.slots + r.slots) TB := by
                    rw [List.append_assoc, offs_app, Nat.zero_add, List.append_assoc]
                    show _ = offs 0 TA ++ ((Tr.node l r, tot TA) :: offs (tot TA + l.slots + r.slots) TB)
                    congr 1
                    show (Tr.node l r, tot TA) :: offs (tot TA + (l.slots + r.slots)) TB = _
                    rw [Nat.add_assoc]
                  refine ⟨Hf4, TA ++ [Tr.node l r] ++ TB, q5, turn, _, _, _, _, _, rfl, g1.trans m17, ?_, ⟨w7, ?_, ⟨_, a7, ?_⟩, ⟨_, u5 _ _ es12, hsvl, ?_⟩⟩, hB12.mono u5⟩
                  · rw [List.length_append, List.length_append, List.length_singleton]
                    rw [List.length_append, List.length_cons, List.length_cons] at gl
                    omega
                  · rw [tot_app, tot_app]
                    show tot TA + (l.slots + r.slots + 0) + tot TB = many
                    omega
                  · rw [eoffs]
                    refine ((eA.mono fun _ _ z => z.mono m17).snoc ?_).app (eB.mono fun _ _ z => z.mono m17)
                    refine ⟨wa, p5, rfl, ?_, m7 _ _ (m6 _ _ a5)⟩
                    rw [m7 _ _ a6]
                    show _ = some (HO.lst [.str (S (Tr.node l r).txt), .int (tot TA : Nat), .int ((tot TA + (l.slots + r.slots) - 1 : Nat) : Int), .ref p5])
                    rw [Nat.add_assoc]
                  · intro q hq
                    rw [eoffs] at hq
                    rcases List.mem_append.mp hq with hq | hq
                    · rcases List.mem_append.mp hq with hq | hq
                      · have := offs_mem 0 TA q hq
                        exact ((es3 q (List.mem_append.mpr (.inl hq))).mono m17).set (.inr (by omega))
                      · rw [List.mem_singleton.mp hq]
                        refine SpansOk.node ((es3 (l, tot TA) (List.mem_append.mpr (.inr (List.mem_cons_self ..)))).mono m17) ((es3 (r, tot TA + l.slots) (List.mem_append.mpr (.inr (List.mem_cons_of_mem _ (List.mem_cons_self ..))))).mono m17) (by omega) (m7 _ _ (m6 _ _ (m5 _ _ c1)))
                    · have := offs_mem _ TB q hq
                      refine ((es3 q (List.mem_append.mpr (.inr (List.mem_cons_of_mem _ (List.mem_cons_of_mem _ hq))))).mono m17).set (.inl (by omega))
            rw [show decide (V.int (lean : Nat) = V.int 1) = decide (lean = 1) from lean_dec lean 1]
            rcases bool_cases (lean = 1) with ⟨e1, _⟩ | ⟨e1, _⟩
            · rw [e1]
              have h := key2 (many - i - 2) turn (by omega)
              rw [show ((many - i - 2 : Nat) : Int) = (vs.length : Int) - 2 by omega] at h
              exact ⟨_, rfl, pa, vs, rfl, .inl (sqL (fz6.s _ _ ep)), _, _, rfl, rfl, h⟩
            · rw [e1]
              refine ⟨_, rfl, rfl, _, rfl, ?_⟩
              rw [show decide (V.int (lean : Nat) = V.int 2) = decide (lean = 2) from lean_dec lean 2]
              rcases bool_cases (lean = 2) with ⟨e2, _⟩ | ⟨e2, _⟩
              · rw [e2]
                exact key2 0 turn (by omega)
              · rw [e2]
                refine ⟨_, rfl, rfl, _, rfl, ?_⟩
                rw [show decide (V.int (lean : Nat) = V.int 3) = decide (lean = 3) from lean_dec lean 3]
                rcases bool_cases (lean = 3) with ⟨e3, _⟩ | ⟨e3, _⟩
                · rw [e3]
                  refine ⟨_, rfl, _, rfl, pa, vs, rfl, .inl (sqL (fz6.s _ _ ep)), _, _, rfl, rfl, _, _, rfl, rfl, _, rfl, ?_⟩
                  rcases bool_cases ((vs.length : Int) - 2 < (turn : Int)) with ⟨e4, _⟩ | ⟨e4, h4⟩
                  · rw [e4]
                    exact ⟨_, rfl, _, rfl, _, _, rfl, rfl, key2 0 (0 + 1) (by omega)⟩
                  · rw [e4]
                    exact ⟨_, rfl, _, rfl, _, _, rfl, rfl, key2 turn (turn + 1) (by omega)⟩
                · rw [e3]
                  exact key2 r turn (by omega)
          · rintro σ Hc ⟨Hf, Ts, pa, turn, v9, v10, v11, v12, v13, rfl, g1, gl, ⟨fz, tn, ⟨vs, ep, ea⟩, ⟨sv, es1, es2, es3⟩⟩, gB⟩
            have hl1 : Ts.length = 1 := by omega
            obtain ⟨t, rfl⟩ := List.length_eq_one_iff.mp hl1
            have tn : t.slots + 0 = many := tn
            have ea : All2 (PartAt Hf) vs [(t, 0)] := ea
            cases ea with
            | cons hv ea =>
              cases ea
              obtain ⟨a, pl, rfl, h1, h2⟩ := hv
              have epc := fz.s _ _ ep
              have h1c := fz.s _ _ h1
              refine ⟨_, rfl, pa, _, 0, _, rfl, rfl, sqL epc, rfl, a, _, 0, _, rfl, rfl, sqL h1c, rfl, _, rfl, _, rfl, _, rfl, pa, _, 0, _, rfl, rfl, sqL epc, rfl, a, _, 3, _, rfl, rfl, sqL h1c, rfl, (by show 4 ≤ sizeLine; decide), fun w hw => ?_⟩
              have hwb : w ≠ b := (fz.ne (by simp) hw).symm
              have sw : Same Hf (wo (upd Hc w (.tup [.str (S t.txt), .int (many : Nat), .ref sp, .ref pl])) b) := wo_of (same_put fz.s (fz.s.free hw)) (fz.free _ (by simp))
              refine q _ (.ref w) t (g1.trans (same_put fz.s (fz.s.free hw))) ?_ ?_ (by omega)
              · obtain ⟨x, y, z, h⟩ := gB
                exact ⟨x, y, z, by rw [upd_ne hwb.symm]; exact h⟩
              · have hspw : sp ≠ w := fz.ne (by simp) hw
                refine .tup (sqT (xs := [.str (S t.txt), .int (many : Nat), .ref sp, .ref pl]) (by rw [wo_ne hwb, upd_same])) (.cons (.str _) (.cons ?_ (.cons ?_ (.cons ?_ .nil))))
                · rw [show many = t.slots by omega]
                  exact .int _
                · refine .lst (xs := sv) (sqL (by rw [wo_ne hbs.symm, upd_ne hspw]; exact es1)) (dpAll_of ?_ fun i v d ei ed => ?_)
                  · rw [es2, List.length_map, Tr.spans_len, show t.slots = many by omega]
                  · rw [List.getElem?_map] at ed
                    cases e5 : (t.spans 0)[i]? with
                    | none => rw [e5] at ed; cases ed
                    | some p =>
                      rw [e5] at ed
                      cases ed
                      obtain ⟨c, e6, e7⟩ := es3 (t, 0) (List.mem_cons_self ..) i p e5
                      have e6 : sv[0 + i]? = some (.ref c) := e6
                      rw [Nat.zero_add, ei] at e6
                      cases e6
                      exact .tup (sqT (sw _ _ e7)) (.cons (.int _) (.cons (.int _) .nil))
                · have e8 : (t.post 0).map (fun f => PyData.int (f : Nat)) = ((t.post 0).map fun f : Nat => (f : Int)).map PyData.int := by
                    rw [List.map_map]
                    rfl
                  rw [e8]
                  have e9 : intsV (t.post 0) = ((t.post 0).map fun f : Nat => (f : Int)).map V.int := by
                    unfold intsV
                    rw [List.map_map]
                    rfl
                  refine .lst (sqL (sw _ _ h2)) ?_
                  show DpAll K _ (intsV (t.post 0)) _
                  rw [e9]
                  exact ints_dpAll _
    have em : (1 : Int) + (r1 : Int) = ((r1 + 1 : Nat) : Int) := by omega
    show (if decide (V.int (lean : Nat) = V.int (3 : Nat)) = true then _ else _)
    rw [lean_dec]
    rcases bool_cases (lean = 3) with ⟨e0, _⟩ | ⟨e0, _⟩
    · rw [e0]
      refine ⟨(by show 7 ≤ sizeLine; decide), fun p hp => ?_⟩
      have hp1 : (upd H2 p (.lst [V.int 1, .int 2, .int 4, .int 8, .int 16, .int 32, .int 64])) p = some (.lst [V.int 1, .int 2, .int 4, .int 8, .int 16, .int 32, .int 64]) := upd_same
      have n1 := same_new (Same.refl H2) hp (o := .lst [V.int 1, .int 2, .int 4, .int 8, .int 16, .int 32, .int 64])
      generalize upd H2 p (.lst [V.int 1, .int 2, .int 4, .int 8, .int 16, .int 32, .int 64]) = H3 at hp1 n1 ⊢
      refine ⟨p, rfl, ⟨_, sqL hp1⟩, fun D hD => lc_filt (walk_list (K := K) (a := p) (xs := [V.int 1, .int 2, .int 4, .int 8, .int 16, .int 32, .int 64])) _ yAt (fun i => decide (pw i ≤ r1 + 1)) (fun i => .int (pw i : Nat)) (fun H' s' => sqL (s' _ _ hp1)) hD (by show 7 ≤ 1000; decide) (fun _ => rfl) ?_ ?_ ?_⟩
      · intro i H' Q' hi s' q'
        rw [pw_val i hi]
        refine ⟨_, rfl, _, rfl, _, _, rfl, rfl, _, rfl, ?_⟩
        have e3 : decide ((pw i : Int) ≤ (1 : Int) + (r1 : Int)) = decide (pw i ≤ r1 + 1) := by
          rw [Bool.eq_iff_iff, decide_eq_true_iff, decide_eq_true_iff]
          omega
        rw [e3]
        exact q' H' (Same.refl _)
      · intro i H' Q' hi hb' s' q'
        rw [pw_val i hi]
        exact ⟨_, rfl, .inl ⟨_, rfl, q' H' (Same.refl _)⟩⟩
      · intro H' s' e
        refine ⟨D, ((List.range 7).filter fun i => decide (pw i ≤ r1 + 1)).map fun i => (pw i : Int), rfl, sqL (by rw [e, List.map_map]; rfl), ?_, fun m hm hall => ?_⟩
        · rw [List.length_map]
          exact List.length_pos_of_mem (List.mem_filter.mpr ⟨List.mem_range.mpr (show 0 < 7 by decide), decide_eq_true (show pw 0 ≤ r1 + 1 by show 1 ≤ _; omega)⟩)
        · obtain ⟨i, hi, rfl⟩ := List.mem_map.mp hm
          obtain ⟨hi1, hi2⟩ := List.mem_filter.mp hi
          have hi1 := List.mem_range.mp hi1
          have hi2 : pw i ≤ r1 + 1 := of_decide_eq_true hi2
          exact key (pw i) H' (pw_pos i hi1) (by omega) (k2.trans (n1.trans s')) (hB2.mono (n1.trans s'))
    · rw [e0]
      refine ⟨_, rfl, rfl, _, rfl, ?_⟩
      show (if decide (V.int (lean : Nat) = V.int (4 : Nat)) = true then _ else _)
      rw [lean_dec]
      rcases bool_cases (lean = 4) with ⟨e1, _⟩ | ⟨e1, _⟩
      · rw [e1]
        exact ⟨_, rfl, key most H2 hm1 hm64 k2 hB2⟩
      · rw [e1]
        have := key (r1 + 1) H2 (by omega) (by omega) k2 hB2
        rw [← em] at this
        exact this
end
end Ls
/-! The plain law: settling, thrashing. -/
namespace Ls
open PySem
/-! ### flags after visits -/
theorem fget_set {F : List Bool} {i f : Nat} {b : Bool} (h : i < F.length) : fget (F.set i b) f = if i = f then b else fget F f := by
  unfold fget
  rw [List.getD_eq_getElem?_getD, List.getD_eq_getElem?_getD]
  by_cases c : i = f
  · rw [if_pos c, ← c, List.getElem?_set_self h]
    rfl
  · rw [if_neg c, List.getElem?_set_ne c]
theorem fget_setF (g : Nat → Bool) (f : Nat) : ∀ (w : List (Nat × Bool)) (F : List Bool), (∀ p ∈ w, p.1 < F.length ∧ p.2 = g p.1) → fget (setF F w) f = if w.any (fun p => p.1 == f) = true then g f else fget F f
  | [], F, _ => rfl
  | p :: w, F, h => by
    have h1 := h p (List.mem_cons_self ..)
    show fget (setF (F.set p.1 p.2) w) f = _
    rw [fget_setF g f w (F.set p.1 p.2) fun q hq => by rw [List.length_set]; exact h q (List.mem_cons_of_mem _ hq)]
    rw [List.any_cons, fget_set h1.1]
    by_cases c : p.1 = f
    · have e : (p.1 == f) = true := beq_iff_eq.mpr c
      rw [if_pos c, e, Bool.true_or, if_pos rfl, h1.2, c]
      split <;> rfl
    · have e : (p.1 == f) = false := beq_eq_false_iff_ne.mpr c
      rw [if_neg c, e, Bool.false_or]
theorem fget_turn {t : Tr} {F : List Bool} {s : Nat} (hF : F.length = t.slots - 1) (hs : s < t.slots) (f : Nat) : fget (turn t F s) f = if t.above 0 f s = true then decide (s ≤ f) else fget F f := by
  refine fget_setF (fun f => decide (s ≤ f)) f (t.way 0 s) F fun p hp => ?_
  have := Tr.way_mem t 0 s p (Nat.zero_le _) (by omega) hp
  exact ⟨by omega, this.2.2⟩
namespace Tr
theorem above_node (l r : Tr) (o f s : Nat) : (node l r).above o f s = ((o + l.slots - 1 == f) || (if s < o + l.slots then l.above o f s else r.above (o + l.slots) f s)) := by
  unfold above
  show (if s < o + l.slots then (o + l.slots - 1, true) :: l.way o s else (o + l.slots - 1, false) :: r.way (o + l.slots) s).any _ = _
  by_cases c : s < o + l.slots
  · rw [if_pos c, if_pos c, List.any_cons]
  · rw [if_neg c, if_neg c, List.any_cons]
theorem above_mem {t : Tr} {o f s : Nat} (h1 : o ≤ s) (h2 : s < o + t.slots) (h : t.above o f s = true) : o ≤ f ∧ f + 1 < o + t.slots := by
  obtain ⟨p, hp, e⟩ := List.any_eq_true.mp h
  have := way_mem t o s p h1 h2 hp
  have e := beq_iff_eq.mp e
  omega
theorem above_root (l r : Tr) (o s : Nat) : (node l r).above o (o + l.slots - 1) s = true := by
  rw [above_node, beq_self_eq_true, Bool.true_or]
/-! ### settling -/
def J (t : Tr) (o : Nat) (F U : Nat → Bool) : Prop := ∀ f s, o ≤ s → s < o + t.slots → t.above o f s = true → U s = true → ∃ s', o ≤ s' ∧ s' < o + t.slots ∧ U s' = true ∧ t.above o f s' = true ∧ decide (s' ≤ f) = F f
def cnt (U : Nat → Bool) (o n : Nat) : Nat := (List.range n).countP fun i => U (o + i)
theorem cnt_add (U : Nat → Bool) (o a b : Nat) : cnt U o (a + b) = cnt U o a + cnt U (o + a) b := by
  unfold cnt
  rw [List.range_add, List.countP_append, List.countP_map]
  congr 1
  refine List.countP_congr fun i _ => ?_
  show (U (o + (a + i)) = true) ↔ _
  rw [Nat.add_assoc]
theorem cnt_pos {U : Nat → Bool} {o n s : Nat} (h1 : o ≤ s) (h2 : s < o + n) (h : U s = true) : 1 ≤ cnt U o n := by
  refine List.countP_pos_iff.mpr ⟨s - o, List.mem_range.mpr (by omega), ?_⟩
  rw [show o + (s - o) = s by omega]
  exact h
theorem J_left {l r : Tr} {o : Nat} {F U : Nat → Bool} (h : J (node l r) o F U) : J l o F U := fun f s h1 h2 ha hu => by
  have p2 := slots_pos r
  have hf := above_mem h1 h2 ha
  obtain ⟨s', g1, g2, g3, g4, g5⟩ := h f s h1 (by show s < o + (l.slots + r.slots); omega) (by rw [above_node, if_pos h2, ha, Bool.or_true]) hu
  have g2 : s' < o + (l.slots + r.slots) := g2
  rw [above_node, beq_eq_false_iff_ne.mpr (by omega), Bool.false_or] at g4
  by_cases c : s' < o + l.slots
  · rw [if_pos c] at g4
    exact ⟨s', g1, c, g3, g4, g5⟩
  · rw [if_neg c] at g4
    have := above_mem (by omega) (by omega) g4
    omega
theorem J_right {l r : Tr} {o : Nat} {F U : Nat → Bool} (h : J (node l r) o F U) : J r (o + l.slots) F U := fun f s h1 h2 ha hu => by
  have p1 := slots_pos l
  have hf := above_mem h1 h2 ha
  obtain ⟨s', g1, g2, g3, g4, g5⟩ := h f s (by omega) (by show s < o + (l.slots + r.slots); omega) (by rw [above_node, if_neg (by omega), ha, Bool.or_true]) hu
  have g2 : s' < o + (l.slots + r.slots) := g2
  rw [above_node, beq_eq_false_iff_ne.mpr (by omega), Bool.false_or] at g4
  by_cases c : s' < o + l.slots
  · rw [if_pos c] at g4
    have := above_mem g1 c g4
    omega
  · rw [if_neg c] at g4
    exact ⟨s', by omega, by omega, g3, g4, g5⟩
/-- a kept victim: more kept than the least depth -/
theorem kept_many : ∀ (t : Tr) (o : Nat) (F U : Nat → Bool), J t o F U → U (t.victim o F) = true → t.least + 1 ≤ cnt U o t.slots
  | dot, o, F, U, _, h => cnt_pos (s := o) (Nat.le_refl _) (Nat.lt_succ_self _) h
  | node l r, o, F, U, hJ, h => by
    have p1 := slots_pos l
    have p2 := slots_pos r
    have hv := victim_mem (node l r) o F
    have hvs : (node l r).victim o F < o + (l.slots + r.slots) := hv.2
    obtain ⟨s', g1, g2, g3, _, g5⟩ := hJ (o + l.slots - 1) _ hv.1 hv.2 (above_root l r o _) h
    have g2 : s' < o + (l.slots + r.slots) := g2
    show 1 + min l.least r.least + 1 ≤ cnt U o (l.slots + r.slots)
    rw [cnt_add]
    cases hc : F (o + l.slots - 1) with
    | true =>
      rw [hc] at g5
      have h5 := of_decide_eq_true g5
      have e : (node l r).victim o F = r.victim (o + l.slots) F := by
        show (if F (o + l.slots - 1) = true then _ else _) = _
        rw [if_pos hc]
      rw [e] at h
      have := kept_many r (o + l.slots) F U (J_right hJ) h
      have := cnt_pos (n := l.slots) g1 (by omega) g3
      omega
    | false =>
      rw [hc] at g5
      have h5 := of_decide_eq_false g5
      have e : (node l r).victim o F = l.victim o F := by
        show (if F (o + l.slots - 1) = true then _ else _) = _
        rw [if_neg (by rw [hc]; exact Bool.false_ne_true)]
      rw [e] at h
      have := kept_many l o F U (J_left hJ) h
      have := cnt_pos (o := o + l.slots) (n := r.slots) (by omega) (by omega) g3
      omega
end Tr
theorem nodup_sub : ∀ {xs ys : List Str}, xs.Nodup → (∀ x ∈ xs, x ∈ ys) → xs.length ≤ ys.length
  | [], _, _, _ => Nat.zero_le _
  | x :: xs, ys, nd, h => by
    have nd' := List.nodup_cons.mp nd
    have hx := h x (List.mem_cons_self ..)
    have := nodup_sub (xs := xs) (ys := ys.erase x) nd'.2 fun y hy => (List.mem_erase_of_ne (fun (e : y = x) => nd'.1 (e ▸ hy))).mpr (h y (List.mem_cons_of_mem _ hy))
    rw [List.length_erase_of_mem hx] at this
    have hp := List.length_pos_of_mem hx
    rw [List.length_cons]
    omega
/-- the slots with an entry of R -/
def keptU (es R : List Str) (s : Nat) : Bool := match es[s]? with
  | some e => decide (e ∈ R)
  | none => false
theorem kept_iff {es R : List Str} {s : Nat} : keptU es R s = true ↔ ∃ e, es[s]? = some e ∧ e ∈ R := by
  unfold keptU
  cases h : es[s]? with
  | none => exact ⟨fun z => (Bool.false_ne_true z).elim, fun ⟨e, he, _⟩ => by cases he⟩
  | some e => exact ⟨fun z => ⟨e, rfl, of_decide_eq_true z⟩, fun ⟨e', he, hr⟩ => by cases he; exact decide_eq_true hr⟩
theorem nd_ix' {es : List Str} (nd : es.Nodup) {i j : Nat} {e : Str} (hi : es[i]? = some e) (hj : es[j]? = some e) : i = j := by
  have h1 := (List.getElem?_eq_some_iff.mp hi).1
  have h2 := (List.getElem?_eq_some_iff.mp hj).1
  rcases Nat.lt_trichotomy i j with h | h | h
  · exact absurd ((List.getElem?_eq_some_iff.mp hi).2.trans (List.getElem?_eq_some_iff.mp hj).2.symm) (List.pairwise_iff_getElem.mp nd i j h1 h2 h)
  · exact h
  · exact absurd ((List.getElem?_eq_some_iff.mp hj).2.trans (List.getElem?_eq_some_iff.mp hi).2.symm) (List.pairwise_iff_getElem.mp nd j i h2 h1 h)
theorem kept_cnt {es R as : List Str} {e : Str} (nd : es.Nodup) (hR : ∀ x ∈ R, x ∈ as) (he : e ∈ as) (hn : ¬ e ∈ es) (n : Nat) : Tr.cnt (keptU es R) 0 n + 1 ≤ as.length := by
  have e1 : Tr.cnt (keptU es R) 0 n = (((List.range n).filter fun i => keptU es R (0 + i)).map fun i => es.getD i Str.empty).length := by
    unfold Tr.cnt
    rw [List.length_map, List.countP_eq_length_filter]
  rw [e1]
  have key : ∀ i, keptU es R (0 + i) = true → es[i]? = some (es.getD i Str.empty) ∧ es.getD i Str.empty ∈ R := fun i hi => by
    rw [Nat.zero_add] at hi
    obtain ⟨x, hx, hr⟩ := kept_iff.mp hi
    rw [List.getD_eq_getElem?_getD, hx]
    exact ⟨rfl, hr⟩
  have := nodup_sub (xs := e :: (((List.range n).filter fun i => keptU es R (0 + i)).map fun i => es.getD i Str.empty)) (ys := as) ?_ ?_
  · rw [List.length_cons] at this
    exact this
  · refine List.nodup_cons.mpr ⟨fun hm => ?_, ?_⟩
    · obtain ⟨i, hi, ei⟩ := List.mem_map.mp hm
      have := key i (List.mem_filter.mp hi).2
      rw [ei] at this
      exact hn (List.mem_of_getElem? this.1)
    · refine List.pairwise_map.mpr (List.Pairwise.imp_of_mem (fun {i j} hi hj hij ee => ?_) ((List.nodup_range (n := n)).filter _))
      have h1 := (key i (List.mem_filter.mp hi).2).1
      have h2 := (key j (List.mem_filter.mp hj).2).1
      rw [ee] at h1
      exact hij (nd_ix' nd h1 h2)
  · intro x hx
    rcases List.mem_cons.mp hx with e2 | hx
    · rw [e2]; exact he
    · obtain ⟨i, hi, rfl⟩ := List.mem_map.mp hx
      exact hR _ (key i (List.mem_filter.mp hi).2).2
theorem nodup_set {es : List Str} {v : Nat} {e : Str} (nd : es.Nodup) (hn : ¬ e ∈ es) : (es.set v e).Nodup := by
  refine List.pairwise_iff_getElem.mpr fun i j hi hj hij ee => ?_
  rw [List.length_set] at hi hj
  rw [List.getElem_set, List.getElem_set] at ee
  by_cases c1 : v = i
  · rw [if_pos c1, if_neg (by omega)] at ee
    exact hn (ee ▸ List.getElem_mem hj)
  · rw [if_neg c1] at ee
    by_cases c2 : v = j
    · rw [if_pos c2] at ee
      exact hn (ee ▸ List.getElem_mem hi)
    · rw [if_neg c2] at ee
      exact List.pairwise_iff_getElem.mp nd i j hi hj hij ee
/-- what a settled set keeps: R is asked for already -/
structure SInv (t : Tr) (as : List Str) (F : List Bool) (es R : List Str) : Prop where
  hF : F.length = t.slots - 1
  hE : es.length = t.slots
  nd : es.Nodup
  sub : ∀ x ∈ R, x ∈ as
  kept : ∀ x ∈ R, x ∈ es
  j : Tr.J t 0 (fget F) (keptU es R)
theorem SInv.start {t : Tr} {as : List Str} {F : List Bool} {es : List Str} (hF : F.length = t.slots - 1) (hE : es.length = t.slots) (nd : es.Nodup) : SInv t as F es [] :=
  ⟨hF, hE, nd, (fun _ h => nomatch h), (fun _ h => nomatch h), fun f s _ _ _ hu => by
    obtain ⟨e, _, h⟩ := kept_iff.mp hu
    cases h⟩
theorem SInv.step {t : Tr} {as : List Str} {F : List Bool} {es R : List Str} {e : Str} (h : SInv t as F es R) (he : e ∈ as) (hz : as.length ≤ t.least + 1) : SInv t as (reqF t F es e) (reqE t F es e) (e :: R) := by
  have sub' : ∀ x ∈ e :: R, x ∈ as := fun x hx => by
    rcases List.mem_cons.mp hx with e1 | hx
    · rw [e1]; exact he
    · exact h.sub x hx
  by_cases hin : e ∈ es
  · unfold reqF reqE
    rw [if_pos hin, if_pos hin]
    obtain ⟨f1, f2, _⟩ := idx_facts hin
    have hs : es.idxOf e < t.slots := by have := h.hE; omega
    have hfl : (turn t F (es.idxOf e)).length = t.slots - 1 := by rw [turn_len]; exact h.hF
    refine ⟨hfl, h.hE, h.nd, sub', fun x hx => ?_, fun f s h1 h2 ha hu => ?_⟩
    · rcases List.mem_cons.mp hx with e1 | hx
      · rw [e1]; exact hin
      · exact h.kept x hx
    · rw [fget_turn h.hF hs]
      by_cases ca : t.above 0 f (es.idxOf e) = true
      · rw [if_pos ca]
        exact ⟨es.idxOf e, Nat.zero_le _, by omega, kept_iff.mpr ⟨e, f2, List.mem_cons_self ..⟩, ca, rfl⟩
      · rw [if_neg ca]
        obtain ⟨y, hy, hr⟩ := kept_iff.mp hu
        have hyR : y ∈ R := by
          rcases List.mem_cons.mp hr with e1 | hr
          · rw [e1] at hy
            rw [nd_ix' h.nd hy f2] at ha
            exact absurd ha ca
          · exact hr
        obtain ⟨s', g1, g2, g3, g4, g5⟩ := h.j f s h1 h2 ha (kept_iff.mpr ⟨y, hy, hyR⟩)
        obtain ⟨y', hy', hr'⟩ := kept_iff.mp g3
        exact ⟨s', g1, g2, kept_iff.mpr ⟨y', hy', List.mem_cons_of_mem _ hr'⟩, g4, g5⟩
  · unfold reqF reqE
    rw [if_neg hin, if_neg hin]
    have hv := vict_lt t F
    have hfl : (turn t F (vict t F)).length = t.slots - 1 := by rw [turn_len]; exact h.hF
    have hvU : keptU es R (vict t F) = false := by
      cases hc : keptU es R (vict t F) with
      | false => rfl
      | true =>
        have a := Tr.kept_many t 0 (fget F) (keptU es R) h.j hc
        have b := kept_cnt h.nd h.sub he hin t.slots
        omega
    have hvl : vict t F < es.length := by have := h.hE; omega
    have key : ∀ i y, i ≠ vict t F → ((es.set (vict t F) e)[i]? = some y ↔ es[i]? = some y) := fun i y hi => by rw [List.getElem?_set_ne (Ne.symm hi)]
    have self : (es.set (vict t F) e)[vict t F]? = some e := List.getElem?_set_self hvl
    refine ⟨hfl, by rw [List.length_set]; exact h.hE, nodup_set h.nd hin, sub', fun x hx => ?_, fun f s h1 h2 ha hu => ?_⟩
    · rcases List.mem_cons.mp hx with e1 | hx
      · rw [e1]; exact List.mem_of_getElem? self
      · obtain ⟨i, hi⟩ := List.mem_iff_getElem?.mp (h.kept x hx)
        have hne : i ≠ vict t F := fun e1 => by
          rw [e1] at hi
          rw [kept_iff.mpr ⟨x, hi, hx⟩] at hvU
          cases hvU
        exact List.mem_of_getElem? ((key i x hne).mpr hi)
    · rw [fget_turn h.hF hv]
      by_cases ca : t.above 0 f (vict t F) = true
      · rw [if_pos ca]
        exact ⟨vict t F, Nat.zero_le _, by omega, kept_iff.mpr ⟨e, self, List.mem_cons_self ..⟩, ca, rfl⟩
      · rw [if_neg ca]
        have hsv : s ≠ vict t F := fun e1 => ca (e1 ▸ ha)
        obtain ⟨y, hy, hr⟩ := kept_iff.mp hu
        have hy := (key s y hsv).mp hy
        have hyR : y ∈ R := by
          rcases List.mem_cons.mp hr with e1 | hr
          · rw [e1] at hy
            exact absurd (List.mem_of_getElem? hy) hin
          · exact hr
        obtain ⟨s', g1, g2, g3, g4, g5⟩ := h.j f s h1 h2 ha (kept_iff.mpr ⟨y, hy, hyR⟩)
        have hs'v : s' ≠ vict t F := fun e1 => by
          rw [e1, hvU] at g3
          cases g3
        obtain ⟨y', hy', hr'⟩ := kept_iff.mp g3
        exact ⟨s', g1, g2, kept_iff.mpr ⟨y', (key s' y' hs'v).mpr hy', List.mem_cons_of_mem _ hr'⟩, g4, g5⟩
end Ls
/-! The plain law: thrashing. -/
namespace Ls
open PySem
/-- the last visitor under a fork tells its flag -/
theorem fget_visits {t : Tr} {F : List Bool} (hF : F.length = t.slots - 1) (f : Nat) : ∀ us : List Nat, (∀ u ∈ us, u < t.slots) → fget (us.reverse.foldl (turn t) F) f = match us.find? (fun v => t.above 0 f v) with
    | some v => decide (v ≤ f)
    | none => fget F f
  | [], _ => rfl
  | u :: us, h => by
    rw [List.reverse_cons, List.foldl_append]
    show fget (turn t (us.reverse.foldl (turn t) F) u) f = _
    rw [fget_turn (by rw [Tr.foldl_turn_len]; exact hF) (h u (List.mem_cons_self ..)), List.find?_cons]
    cases hc : t.above 0 f u with
    | true => rfl
    | false =>
      rw [if_neg Bool.false_ne_true]
      exact fget_visits hF f us fun v hv => h v (List.mem_cons_of_mem _ hv)
theorem fget_visits' {t : Tr} {F : List Bool} (hF : F.length = t.slots - 1) (f : Nat) (vs : List Nat) (h : ∀ u ∈ vs, u < t.slots) : fget (vs.foldl (turn t) F) f = match vs.reverse.find? (fun v => t.above 0 f v) with
    | some v => decide (v ≤ f)
    | none => fget F f := by
  have := fget_visits hF f vs.reverse fun u hu => h u (List.mem_reverse.mp hu)
  rw [List.reverse_reverse] at this
  exact this
theorem flags_ext {F G : List Bool} (hl : F.length = G.length) (h : ∀ f, fget F f = fget G f) : F = G := by
  apply List.ext_getElem?
  intro i
  by_cases c : i < F.length
  · rw [fget_at c, fget_at (by omega), h]
  · rw [List.getElem?_eq_none (by omega), List.getElem?_eq_none (by omega)]
/-- the same visits again leave the same flags -/
theorem visits_again {t : Tr} {Z : List Bool} (hZ : Z.length = t.slots - 1) (vs : List Nat) (h : ∀ u ∈ vs, u < t.slots) : (vs ++ vs).foldl (turn t) (vs.foldl (turn t) Z) = vs.foldl (turn t) Z := by
  rw [← List.foldl_append]
  refine flags_ext (by rw [Tr.foldl_turn_len, Tr.foldl_turn_len]) fun f => ?_
  rw [fget_visits' hZ f vs h, fget_visits' hZ f (vs ++ (vs ++ vs)) fun u hu => by
    rcases List.mem_append.mp hu with hu | hu
    · exact h u hu
    · rcases List.mem_append.mp hu with hu | hu <;> exact h u hu]
  rw [List.reverse_append, List.reverse_append, List.find?_append, List.find?_append]
  cases vs.reverse.find? (fun v => t.above 0 f v) <;> rfl
theorem find_congr {f g : Nat → Bool} : ∀ xs : List Nat, (∀ v ∈ xs, f v = g v) → xs.find? f = xs.find? g
  | [], _ => rfl
  | v :: vs, h => by
    rw [List.find?_cons, List.find?_cons, h v (List.mem_cons_self ..), find_congr vs fun w hw => h w (List.mem_cons_of_mem _ hw)]
namespace Tr
theorem victim_to : ∀ (t : Tr) (o s : Nat) (G : Nat → Bool), o ≤ s → s < o + t.slots → (∀ p ∈ t.way o s, G p.1 = !p.2) → t.victim o G = s
  | dot, o, s, _, h1, h2, _ => by
    have h2 : s < o + 1 := h2
    show o = s
    omega
  | node l r, o, s, G, h1, h2, h => by
    have h2 : s < o + (l.slots + r.slots) := h2
    show (if G (o + l.slots - 1) = true then r.victim (o + l.slots) G else l.victim o G) = s
    unfold way at h
    by_cases c : s < o + l.slots
    · rw [if_pos c] at h
      have h0 : G (o + l.slots - 1) = false := h _ (List.mem_cons_self ..)
      rw [if_neg (by rw [h0]; exact Bool.false_ne_true)]
      exact victim_to l o s G h1 c fun p hp => h p (List.mem_cons_of_mem _ hp)
    · rw [if_neg c] at h
      have h0 : G (o + l.slots - 1) = true := h _ (List.mem_cons_self ..)
      rw [if_pos h0]
      exact victim_to r (o + l.slots) s G (by omega) (by omega) fun p hp => h p (List.mem_cons_of_mem _ hp)
theorem find_helper : ∀ (t : Tr) (o s : Nat), o ≤ s → s < o + t.slots → ∀ p ∈ t.way o s, ∃ h, (t.helps o s).find? (fun v => t.above o p.1 v) = some h ∧ decide (h ≤ p.1) = !p.2
  | dot, _, _, _, _, _, hp => nomatch hp
  | node l r, o, s, h1, h2, p, hp => by
    have p1 := slots_pos l
    have p2 := slots_pos r
    have h2 : s < o + (l.slots + r.slots) := h2
    unfold way at hp
    unfold helps
    by_cases c : s < o + l.slots
    · rw [if_pos c] at hp
      rw [if_pos c]
      rcases List.mem_cons.mp hp with e | hp
      · subst e
        refine ⟨o + l.slots, ?_, ?_⟩
        · rw [List.find?_cons, above_root]
        · show decide (o + l.slots ≤ o + l.slots - 1) = !true
          rw [decide_eq_false (by omega)]
          rfl
      · obtain ⟨m1, m2, _⟩ := way_mem l o s p h1 c hp
        obtain ⟨h, e1, e2⟩ := find_helper l o s h1 c p hp
        refine ⟨h, ?_, e2⟩
        have e0 : (node l r).above o p.1 (o + l.slots) = false := by
          rw [above_node, beq_eq_false_iff_ne.mpr (by omega), Bool.false_or, if_neg (by omega)]
          cases q : r.above (o + l.slots) p.1 (o + l.slots) with
          | false => rfl
          | true =>
            have := above_mem (Nat.le_refl _) (by omega) q
            omega
        rw [List.find?_cons, e0]
        have hcg : ∀ v ∈ l.helps o s, (node l r).above o p.1 v = l.above o p.1 v := fun v hv => by
          have := helps_mem l o s v h1 c hv
          rw [above_node, beq_eq_false_iff_ne.mpr (by omega), Bool.false_or, if_pos (by omega)]
        rw [← e1]
        exact find_congr _ hcg
    · rw [if_neg c] at hp
      rw [if_neg c]
      rcases List.mem_cons.mp hp with e | hp
      · subst e
        refine ⟨o, ?_, ?_⟩
        · rw [List.find?_cons, above_root]
        · show decide (o ≤ o + l.slots - 1) = !false
          rw [decide_eq_true (by omega)]
          rfl
      · obtain ⟨m1, m2, _⟩ := way_mem r (o + l.slots) s p (by omega) (by omega) hp
        obtain ⟨h, e1, e2⟩ := find_helper r (o + l.slots) s (by omega) (by omega) p hp
        refine ⟨h, ?_, e2⟩
        have e0 : (node l r).above o p.1 o = false := by
          rw [above_node, beq_eq_false_iff_ne.mpr (by omega), Bool.false_or, if_pos (by omega)]
          cases q : l.above o p.1 o with
          | false => rfl
          | true =>
            have := above_mem (Nat.le_refl _) (by omega) q
            omega
        rw [List.find?_cons, e0]
        have hcg : ∀ v ∈ r.helps (o + l.slots) s, (node l r).above o p.1 v = r.above (o + l.slots) p.1 v := fun v hv => by
          have := helps_mem r (o + l.slots) s v (by omega) (by omega) hv
          rw [above_node, beq_eq_false_iff_ne.mpr (by omega), Bool.false_or, if_neg (by omega)]
        rw [← e1]
        exact find_congr _ hcg
end Tr
/-- after hits at the helpers a load goes to the slot, whatever the flags were -/
theorem vict_helpers {t : Tr} {F : List Bool} {s : Nat} (hF : F.length = t.slots - 1) (hs : s < t.slots) : vict t ((t.helpers s).foldl (turn t) F) = s := by
  unfold vict
  refine Tr.victim_to t 0 s _ (Nat.zero_le _) (by omega) fun p hp => ?_
  rw [fget_visits' hF p.1 (t.helpers s) fun u hu => (Tr.helpers_mem t s u hs hu).1]
  rw [Tr.helpers_eq, List.reverse_reverse]
  obtain ⟨h, e1, e2⟩ := Tr.find_helper t 0 s (Nat.zero_le _) (by omega) p hp
  rw [e1]
  exact e2
/-! ### runs of requests -/
abbrev CS := List Bool × List Str
def rq (t : Tr) (c : CS) (e : Str) : CS := (reqF t c.1 c.2 e, reqE t c.1 c.2 e)
def rqs (t : Tr) (c : CS) (as : List Str) : CS := as.foldl (rq t) c
def lds (t : Tr) : CS → List Str → Nat
  | _, [] => 0
  | c, e :: as => (if e ∈ c.2 then 0 else 1) + lds t (rq t c e) as
theorem rqs_app (t : Tr) (c : CS) (as bs : List Str) : rqs t c (as ++ bs) = rqs t (rqs t c as) bs := List.foldl_append
theorem lds_app (t : Tr) : ∀ (as bs : List Str) (c : CS), lds t c (as ++ bs) = lds t c as + lds t (rqs t c as) bs
  | [], bs, c => (Nat.zero_add _).symm
  | e :: as, bs, c => by
    show (if e ∈ c.2 then 0 else 1) + lds t (rq t c e) (as ++ bs) = _
    rw [lds_app t as bs, ← Nat.add_assoc]
    rfl
theorem rqs_len (t : Tr) : ∀ (as : List Str) (c : CS), (rqs t c as).1.length = c.1.length ∧ (rqs t c as).2.length = c.2.length
  | [], c => ⟨rfl, rfl⟩
  | e :: as, c => by
    have := rqs_len t as (rq t c e)
    have h1 : (rq t c e).1.length = c.1.length := reqF_len ..
    have h2 : (rq t c e).2.length = c.2.length := reqE_len ..
    exact ⟨this.1.trans h1, this.2.trans h2⟩
theorem hits {t : Tr} {es : List Str} (nd : es.Nodup) : ∀ (hs : List Nat) (F : List Bool), (∀ h ∈ hs, es[h]? = some (enm h)) → rqs t (F, es) (hs.map enm) = (hs.foldl (turn t) F, es) ∧ lds t (F, es) (hs.map enm) = 0
  | [], F, _ => ⟨rfl, rfl⟩
  | h :: hs, F, hh => by
    have e1 := hh h (List.mem_cons_self ..)
    have hm := List.mem_of_getElem? e1
    have ei : es.idxOf (enm h) = h := nd_ix' nd (idx_facts hm).2.1 e1
    have er : rq t (F, es) (enm h) = (turn t F h, es) := by
      show (reqF t F es (enm h), reqE t F es (enm h)) = _
      unfold reqF reqE
      rw [if_pos hm, if_pos hm, ei]
    obtain ⟨a, b⟩ := hits nd hs (turn t F h) fun x hx => hh x (List.mem_cons_of_mem _ hx)
    refine ⟨?_, ?_⟩
    · show rqs t (rq t (F, es) (enm h)) (hs.map enm) = _
      rw [er, a]
      rfl
    · show (if enm h ∈ es then 0 else 1) + lds t (rq t (F, es) (enm h)) (hs.map enm) = 0
      rw [if_pos hm, er, b]
theorem load1 {t : Tr} {F : List Bool} {es : List Str} {e : Str} (hn : ¬ e ∈ es) : rqs t (F, es) [e] = (turn t F (vict t F), es.set (vict t F) e) ∧ lds t (F, es) [e] = 1 := by
  refine ⟨?_, ?_⟩
  · show (reqF t F es e, reqE t F es e) = _
    unfold reqF reqE
    rw [if_neg hn, if_neg hn]
  · show (if e ∈ es then 0 else 1) + 0 = 1
    rw [if_neg hn]
theorem x_str : ("x" : Str) = S [120] := by decide +kernel
theorem x_no {k : Nat} : ("x" : Str) ≠ enm k := fun h => by
  rw [x_str] at h
  have := (List.cons.inj (S_inj h)).1
  omega
/-- one round of the example -/
theorem round {t : Tr} (h64 : t.slots ≤ 64) : rqs t (t.thrF, t.thrE) t.thrA = (t.thrF, t.thrE) ∧ lds t (t.thrF, t.thrE) t.thrA = 2 := by
  obtain ⟨_, hs, _⟩ := Tr.shallow_at t
  have hF := Tr.thrF_len t
  have hh := fun u hu => Tr.helpers_mem t t.shallow u hs hu
  have nd := Tr.thrE_nodup t h64
  have hx : ¬ ("x" : Str) ∈ t.thrE := fun hm => by
    obtain ⟨k, _, e⟩ := List.mem_map.mp hm
    exact x_no e.symm
  have a1 := hits (t := t) nd (t.helpers t.shallow) t.thrF fun u hu => Tr.thrE_at t (hh u hu).1
  have v1 : vict t ((t.helpers t.shallow).foldl (turn t) t.thrF) = t.shallow := vict_helpers hF hs
  have a2 := load1 (t := t) (F := (t.helpers t.shallow).foldl (turn t) t.thrF) hx
  rw [v1] at a2
  have nd2 : (t.thrE.set t.shallow "x").Nodup := nodup_set nd hx
  have a3 := hits (t := t) nd2 (t.helpers t.shallow) (turn t ((t.helpers t.shallow).foldl (turn t) t.thrF) t.shallow) fun u hu => by
    rw [List.getElem?_set_ne (Ne.symm (hh u hu).2)]
    exact Tr.thrE_at t (hh u hu).1
  have hF2 : (turn t ((t.helpers t.shallow).foldl (turn t) t.thrF) t.shallow).length = t.slots - 1 := by rw [turn_len, Tr.foldl_turn_len]; exact hF
  have v2 : vict t ((t.helpers t.shallow).foldl (turn t) (turn t ((t.helpers t.shallow).foldl (turn t) t.thrF) t.shallow)) = t.shallow := vict_helpers hF2 hs
  have hes : ¬ enm t.shallow ∈ t.thrE.set t.shallow "x" := fun hm => by
    obtain ⟨i, hi⟩ := List.mem_iff_getElem?.mp hm
    by_cases c : t.shallow = i
    · subst c
      rw [List.getElem?_set_self (by rw [Tr.thrE_len]; exact hs)] at hi
      exact x_no (Option.some.inj hi)
    · rw [List.getElem?_set_ne c] at hi
      exact c (nd_ix' nd (Tr.thrE_at t hs) hi)
  have a4 := load1 (t := t) (F := (t.helpers t.shallow).foldl (turn t) (turn t ((t.helpers t.shallow).foldl (turn t) t.thrF) t.shallow)) hes
  rw [v2] at a4
  have eE : (t.thrE.set t.shallow "x").set t.shallow (enm t.shallow) = t.thrE := by
    rw [List.set_set]
    apply List.ext_getElem?
    intro i
    by_cases c : t.shallow = i
    · subst c
      rw [List.getElem?_set_self (by rw [Tr.thrE_len]; exact hs), Tr.thrE_at t hs]
    · rw [List.getElem?_set_ne c]
  have eF : turn t ((t.helpers t.shallow).foldl (turn t) (turn t ((t.helpers t.shallow).foldl (turn t) t.thrF) t.shallow)) t.shallow = t.thrF := by
    have hv : ∀ u ∈ t.helpers t.shallow ++ [t.shallow], u < t.slots := fun u hu => by
      rcases List.mem_append.mp hu with hu | hu
      · exact (hh u hu).1
      · rw [List.mem_singleton.mp hu]; exact hs
    have := visits_again (t := t) (Z := List.replicate (t.slots - 1) true) List.length_replicate (t.helpers t.shallow ++ [t.shallow]) hv
    rw [List.foldl_append, List.foldl_append, List.foldl_append (l := t.helpers t.shallow) (l' := [t.shallow])] at this
    exact this
  unfold Tr.thrA
  simp only [rqs_app, lds_app, a1.1, a2.1, a3.1, a4.1, a1.2, a2.2, a3.2, a4.2, eE, eF]
  exact ⟨trivial, trivial⟩
theorem put_new {acc : List Str} {x : Str} (h : ¬ x ∈ acc) : LsSet.put acc x = acc ++ [x] := by
  unfold LsSet.put
  rw [if_neg]
  intro z
  obtain ⟨y, hy, e⟩ := List.any_eq_true.mp z
  exact h ((beq_iff_eq.mp e) ▸ hy)
theorem put_old {acc : List Str} {x : Str} (h : x ∈ acc) : LsSet.put acc x = acc := by
  unfold LsSet.put
  have e : (acc.any fun y => y == x) = true := List.any_eq_true.mpr ⟨x, h, beq_self_eq_true x⟩
  rw [if_pos e]
theorem put_news : ∀ (xs acc : List Str), (acc ++ xs).Nodup → xs.foldl LsSet.put acc = acc ++ xs
  | [], acc, _ => (List.append_nil _).symm
  | x :: xs, acc, h => by
    have hx : ¬ x ∈ acc := fun hm => (List.nodup_append.mp h).2.2 x hm x (List.mem_cons_self ..) rfl
    rw [List.foldl_cons, put_new hx, put_news xs (acc ++ [x]) (by rw [List.append_assoc]; exact h), List.append_assoc]
    rfl
theorem put_olds : ∀ (xs acc : List Str), (∀ x ∈ xs, x ∈ acc) → xs.foldl LsSet.put acc = acc
  | [], _, _ => rfl
  | x :: xs, acc, h => by
    rw [List.foldl_cons, put_old (h x (List.mem_cons_self ..))]
    exact put_olds xs acc fun y hy => h y (List.mem_cons_of_mem _ hy)
theorem thrA_dist {t : Tr} (h64 : t.slots ≤ 64) : (LsSet.dist t.thrA).length = t.least + 2 := by
  obtain ⟨_, hs, hl⟩ := Tr.shallow_at t
  have hh := fun u hu => Tr.helpers_mem t t.shallow u hs hu
  have nd : ((t.helpers t.shallow).map enm).Nodup := by
    refine List.pairwise_map.mpr (List.Pairwise.imp_of_mem (fun {a b} ha hb hab e => ?_) (Tr.helpers_nodup t t.shallow hs))
    have h1 := (hh a ha).1
    have h2 := (hh b hb).1
    exact hab (enm_inj (by omega) (by omega) e)
  have nx : ¬ ("x" : Str) ∈ (t.helpers t.shallow).map enm := fun hm => by
    obtain ⟨k, _, e⟩ := List.mem_map.mp hm
    exact x_no e.symm
  have ns : ¬ enm t.shallow ∈ (t.helpers t.shallow).map enm ++ [("x" : Str)] := fun hm => by
    rcases List.mem_append.mp hm with hm | hm
    · obtain ⟨k, hk, e⟩ := List.mem_map.mp hm
      have h1 := hh k hk
      exact h1.2 (enm_inj (by omega) (by omega) e)
    · exact x_no (List.mem_singleton.mp hm).symm
  have nd1 : ((t.helpers t.shallow).map enm ++ [("x" : Str)]).Nodup := List.nodup_append.mpr ⟨nd, List.pairwise_singleton _ _, fun a ha b hb e => nx (by rw [List.mem_singleton.mp hb] at e; rw [← e]; exact ha)⟩
  unfold LsSet.dist Tr.thrA
  rw [List.foldl_append, List.foldl_append, List.foldl_append]
  rw [put_news ((t.helpers t.shallow).map enm) [] (by rw [List.nil_append]; exact nd), List.nil_append, put_news [("x" : Str)] _ nd1, put_olds ((t.helpers t.shallow).map enm) _ (fun x hx => List.mem_append.mpr (.inl hx))]
  show (LsSet.put _ (enm t.shallow)).length = _
  rw [put_new ns, List.length_append, List.length_append, List.length_map, Tr.helpers_len, hl]
  rfl
theorem reqE_ent {t : Tr} {F : List Bool} {es : List Str} {e : Str} (h : ∀ x ∈ es, Ent x) (he : Ent e) : ∀ x ∈ reqE t F es e, Ent x := by
  intro x hx
  unfold reqE at hx
  split at hx
  · exact h x hx
  · rcases List.mem_or_eq_of_mem_set hx with hx | e1
    · exact h x hx
    · rw [e1]; exact he
theorem thrA_ent {t : Tr} (h64 : t.slots ≤ 64) : ∀ e ∈ t.thrA, Ent e := by
  obtain ⟨_, hs, _⟩ := Tr.shallow_at t
  have hm : ∀ e ∈ (t.helpers t.shallow).map enm, Ent e := fun e he => by
    obtain ⟨k, hk, rfl⟩ := List.mem_map.mp he
    have := (Tr.helpers_mem t t.shallow k hs hk).1
    exact enm_ent (by omega)
  intro e he
  unfold Tr.thrA at he
  rcases List.mem_append.mp he with he | he
  · rcases List.mem_append.mp he with he | he
    · rcases List.mem_append.mp he with he | he
      · exact hm e he
      · rw [List.mem_singleton.mp he]
        decide +kernel
    · exact hm e he
  · rw [List.mem_singleton.mp he]
    exact enm_ent (by omega)
theorem thrA_len {t : Tr} (h64 : t.slots ≤ 64) : t.thrA.length ≤ 200 := by
  have := Tr.way_len t 0 t.shallow
  unfold Tr.thrA
  rw [List.length_append, List.length_append, List.length_append, List.length_map, Tr.helpers_len, List.length_singleton, List.length_singleton]
  omega
end Ls
/-! The law's own defs: the example. -/
namespace Ls
open PySem PySem.Spec PyProof.Rows L2
section
variable {P : Program} {w : World} {K : PySem.W.Frag} {mg : Str → Option Value} {base : Heap}
def spExample (K : PySem.W.Frag) : Sp := fun vs H Q _ => ∃ (v : V) (t : Tr), vs = [v] ∧ Dp K H v (worldD t) ∧ t.slots ≤ 64 ∧ ∀ H' p k, Same H H' → H p = none → H k = none → H' p = some (.tup [.str (flagS t.thrF), .ref k]) → H' k = some (.lst (t.thrA.map V.str)) → Q (.ref p) H'
theorem ok_l_example (T : TX K mg) : FnOk P w K mg base CX0 3 T.l_example.f T.l_example.fd ["_law_world_here"] (spExample K) := by
  refine T.l_example.F.ok sc_l_example (fun vs H Q E h => ?_) (fun cdv A outer s H vs Q E hr h => ?_)
  · obtain ⟨v, t, rfl, _⟩ := h
    rfl
  · obtain ⟨v, t, rfl, hw, h64, q⟩ := h
    refine ⟨_, (pss_cons (ps_set (i := 1) sc_l_example.nd rfl (by first | exact .inl rfl | exact .inr rfl) (pe_call (ok_l_least T) (hr.mono (by decide)) (by rfl) T.l_least.g T.l_least.F.kp T.l_least.b .nil pass0 (pa_cons (pv 0) pa_nil)))
      (pss_cons (ps_set (i := 2) sc_l_example.nd rfl (by first | exact .inl rfl | exact .inr rfl) (pe_ix ix_list (pe_lc (own := [("_law_k", 3)]) rfl sc_l_example.nd (pi_range1 rfl T.b_range (pa_cons (pe_ix ix_tup (pv 0) pe_int (fun _ _ => rfl)) pa_nil)) (blkOk_by (N := ["_law_world_here", "_law_least_here", "_law_slot", "_law_k", "_law_helpers", "_law_flags_here", "_law_fork", "_law_place"]) (sc := defScope s_l_example) (by decide +kernel)) (fun _ _ _ _ _ => (pg_name (i := 3) sc_l_example.nd rfl (by first | exact .inl rfl | exact .inr rfl))) (fun _ _ _ _ _ => (pts_one (pt_cmpR op_eq (pe_callB (call_len_seqK (K := K) rfl) (by rfl) T.b_len (by decide +kernel) (pa_cons (pe_call (ok_l_way T) (hr.mono (by decide)) (by rfl) T.l_way.g T.l_way.F.kp T.l_way.b .nil pass0 (pa_cons (pv 0) (pa_cons (pv 3) pa_nil))) pa_nil)) (pv 1) (nomark _)))) (fun _ _ _ _ _ => (pv 3))) pe_int (fun _ _ => rfl)))
      (pss_cons (ps_set (i := 4) sc_l_example.nd rfl (by first | exact .inl rfl | exact .inr rfl) (pe_lst pa_nil))
      (pss_cons (ps_set (i := 5) sc_l_example.nd rfl (by first | exact .inl rfl | exact .inr rfl) (pe_op op_mul_str pe_str (pe_op op_sub (pe_ix ix_tup (pv 0) pe_int (fun _ _ => rfl)) pe_int)))
      (pss_cons (ps_for PassesOwn.never rfl (pi_list (pe_revL (pe_call (ok_l_way T) (hr.mono (by decide)) (by rfl) T.l_way.g T.l_way.F.kp T.l_way.b .nil pass0 (pa_cons (pv 0) (pa_cons (pv 2) pa_nil))))) (pg_name (i := 6) sc_l_example.nd rfl (by first | exact .inl rfl | exact .inr rfl))
        (pss_cons (ps_set (i := 7) sc_l_example.nd rfl (by first | exact .inl rfl | exact .inr rfl) (pe_ix ix_tup (pe_ix ix_list (pe_ix ix_tup (pv 0) pe_int (fun _ _ => rfl)) (pv 6) (fun _ _ => rfl)) pe_int (fun _ _ => rfl)))
      (pss_cons (ps_if (pt_cmpR op_le (pv 2) (pv 6) (nomark _))
        (pss_one (ps_set (i := 7) sc_l_example.nd rfl (by first | exact .inl rfl | exact .inr rfl) (pe_op op_add (pv 6) pe_int)))
        pss_nil)
      (pss_cons (ps_expr (pe_bm PySem.F.plainAttrs_list PySem.F.slot_list_append PySem.F.type_list_append mt_append (pv 4) (pa_cons (pe_op op_add_str pe_str (pe_callTy call_str_int (by rfl) T.b_str (by decide +kernel) (pa_cons (pv 7) pa_nil))) pa_nil)))
      (pss_one (ps_set (i := 5) sc_l_example.nd rfl (by first | exact .inl rfl | exact .inr rfl) (pe_call (ok_l_turned T) (hr.mono (by decide)) (by rfl) T.l_turned.g T.l_turned.F.kp T.l_turned.b .nil pass0 (pa_cons (pv 0) (pa_cons (pv 5) (pa_cons (pv 7) pa_nil))))))))))
      (pss_cons (ps_set (i := 5) sc_l_example.nd rfl (by first | exact .inl rfl | exact .inr rfl) (pe_call (ok_l_turned T) (hr.mono (by decide)) (by rfl) T.l_turned.g T.l_turned.F.kp T.l_turned.b .nil pass0 (pa_cons (pv 0) (pa_cons (pv 5) (pa_cons (pv 2) pa_nil)))))
      (pss_one (ps_ret (pe_tup (pa_cons (pv 5) (pa_cons (pe_op op_cat (pe_op op_cat (pe_op op_cat (pv 4) (pe_lst (pa_cons pe_str pa_nil))) (pv 4)) (pe_lst (pa_cons (pe_op op_add_str pe_str (pe_callTy call_str_int (by rfl) T.b_str (by decide +kernel) (pa_cons (pv 2) pa_nil))) pa_nil))) pa_nil))))))))))), ?_⟩
    refine ⟨_, rfl, v, t, rfl, hw, h64, fun H1 s1 => ?_⟩
    have hw1 := dp_mono s1 hw
    obtain ⟨a, b, c, xs, _, rfl, ha, hb, hxs, hc, _⟩ := world_open hw1
    have p1 := Tr.slots_pos t
    obtain ⟨hsh, hss, _⟩ := Tr.shallow_at t
    refine ⟨_, rfl, a, _, 1, _, rfl, rfl, ha, rfl, (t.slots : Int), rfl, by omega, by omega, fun D hD => lc_filt (walk_range (lo := 0) (n := t.slots)) _ yRng (fun i => decide ((t.way 0 i).length = t.least)) (fun i => .int (i : Nat)) (fun _ _ => trivial) hD (by omega) (fun _ => rfl) ?_ ?_ ?_⟩
    · intro i H' Q' hi s' q'
      refine ⟨_, rfl, _, rfl, _, t, i, rfl, dp_mono s' hw1, h64, hi, fun H2 p s2 hp ep => ⟨p, _, rfl, .inl (sqL ep), _, rfl, rfl, _, rfl, ?_⟩⟩
      have el : (intsV ((t.way 0 i).map (·.1))).length = (t.way 0 i).length := by unfold intsV; rw [List.length_map, List.length_map]
      rw [el, lean_dec]
      exact q' H2 s2
    · intro i H' Q' hi hb' s' q'
      exact ⟨_, rfl, q' H' (Same.refl _)⟩
    · intro H2 s2 e2
      refine ⟨D, _, 0, _, rfl, rfl, sqL e2, at_of (j := 0) rfl (by rw [List.getElem?_map]; show (t.shallows[0]?).map _ = _; rw [hsh]; rfl), ?_⟩
      have s12 := s1.trans s2
      refine ⟨Nat.zero_le _, fun hp hhp => ?_⟩
      have fz := (Fzl.nil H2).add (.lst []) hhp
      have hw2 := dp_mono s2 hw1
      have ehp : (upd H2 hp (.lst [])) hp = some (.lst []) := upd_same
      generalize upd H2 hp (.lst []) = H3 at fz ehp ⊢
      have s23 := fz.s
      refine ⟨_, rfl, a, _, 1, _, rfl, rfl, sqt (s2.trans s23) ha, rfl, _, _, rfl, rfl, 76, t.slots - 1, by decide +kernel, congrArg V.int (nat_pred p1), by omega, ?_⟩
      rw [L_rep]
      refine ⟨_, rfl, _, rfl, _, t, t.shallow, rfl, dp_mono s23 hw2, h64, hss, fun H4 pw s4 hpw epw => ⟨pw, _, rfl, sqL epw, fun p2 hp2 => ?_⟩⟩
      have n5 := s4.trans (same_new (Same.refl H4) hp2 (o := .lst (intsV ((t.way 0 t.shallow).map (·.1))).reverse))
      have e5 : (upd H4 p2 (.lst (intsV ((t.way 0 t.shallow).map (·.1))).reverse)) p2 = some (.lst (intsV ((t.way 0 t.shallow).reverse.map (·.1)))) := by
        rw [upd_same]
        unfold intsV
        rw [List.map_reverse, List.map_reverse]
      generalize upd H4 p2 (.lst (intsV ((t.way 0 t.shallow).map (·.1))).reverse) = H5 at n5 e5 ⊢
      have fz5 := fz.go n5
      have ehp5 := n5 _ _ ehp
      have hp2p : p2 ≠ hp := fun z => by
        have h4 := s4 _ _ ehp
        rw [z, h4] at hp2
        cases hp2
      have fw : Same H2 (wo H5 hp) := wo_of fz5.s (fz5.free _ (by simp))
      have e5w : wo H5 hp p2 = _ := (wo_ne hp2p).trans e5
      have hww := dp_mono fw hw2
      have hlen : (intsV ((t.way 0 t.shallow).reverse.map (·.1))).length = (t.way 0 t.shallow).length := by unfold intsV; rw [List.length_map, List.length_map, List.length_reverse]
      have hhl := Tr.helpers_len t t.shallow
      have hwl := Tr.way_len t 0 t.shallow
      have z200 := small1000 (n := 300) (by decide)
      refine ⟨p2, rfl, ⟨_, sqL e5⟩, for_list (K := K) (a := p2) (xs := intsV ((t.way 0 t.shallow).reverse.map (·.1))) (fun i σ Hc => ∃ v6 v7, σ = [some (.ref a), some (.int (t.least : Nat)), some (.int (t.shallow : Nat)), none, some (.ref hp), some (.str (flagS (((t.helpers t.shallow).take i).foldl (turn t) (List.replicate (t.slots - 1) true)))), v6, v7] ∧ Same (wo H5 hp) Hc ∧ Hc hp = some (.lst ((((t.helpers t.shallow).take i).map enm).map V.str)))
        ⟨none, none, rfl, wo_same, ehp5⟩ (fun i σ Hc _ ⟨_, _, _, k, _⟩ => sqL (k _ _ e5w)) ?_ ?_⟩
      · rintro i x σ Hc hx ⟨v6, v7, rfl, k, eh⟩
        have hi : i < (t.way 0 t.shallow).length := by
          rw [← hlen]
          exact (List.getElem?_eq_some_iff.mp hx).1
        have hir : i < (t.way 0 t.shallow).reverse.length := by rw [List.length_reverse]; exact hi
        have er : (t.way 0 t.shallow).reverse[i]? = some (t.way 0 t.shallow).reverse[i] := List.getElem?_eq_getElem hir
        have ehh : (t.helpers t.shallow)[i]? = some (t.lowest (t.way 0 t.shallow).reverse[i]) := by
          unfold Tr.helpers
          rw [List.getElem?_map, er]
          rfl
        have hm := Tr.way_mem t 0 t.shallow _ (Nat.zero_le _) (by omega) (List.mem_reverse.mp (List.mem_of_getElem? er))
        have ex : x = .int ((t.way 0 t.shallow).reverse[i].1 : Nat) := by
          unfold intsV at hx
          rw [List.getElem?_map, List.getElem?_map, er] at hx
          exact (Option.some.inj hx).symm
        subst ex
        generalize (t.way 0 t.shallow).reverse[i] = pr at hm ehh
        obtain ⟨f, bb⟩ := pr
        have hm2 : f + 1 < t.slots := by have := hm.2.1; show f + 1 < _; omega
        have hm3 : bb = decide (t.shallow ≤ f) := hm.2.2
        obtain ⟨lo, hi2, es, _⟩ := Tr.spans_at t 0 f hm2
        obtain ⟨d, e1, hd⟩ := span_at hxs es
        have sk : Same H1 Hc := (s2.trans fw).trans k
        have elow : t.lowest (f, bb) = if bb = true then f + 1 else lo := by
          unfold Tr.lowest
          show (if bb = true then f + 1 else ((t.spans 0).getD f (0, 0)).1) = _
          rw [List.getD_eq_getElem?_getD, es]
          rfl
        have hlt := (Tr.helpers_mem t t.shallow _ hss (List.mem_of_getElem? ehh)).1
        refine ⟨_, rfl, a, _, 2, _, rfl, rfl, sqt sk ha, rfl, _, rfl, b, xs, _, _, rfl, rfl, sk.seq hb, at_of rfl e1, d, _, 0, _, rfl, rfl, sqt sk hd, rfl, ?_⟩
        refine ⟨_, rfl, _, rfl, _, _, rfl, rfl, _, rfl, ?_⟩
        generalize hN : tSeq _ _ _ = N
        have key : N [some (.ref a), some (.int (t.least : Nat)), some (.int (t.shallow : Nat)), none, some (.ref hp), some (.str (flagS (((t.helpers t.shallow).take i).foldl (turn t) (List.replicate (t.slots - 1) true)))), some (.int (f : Nat)), some (.int (t.lowest (f, bb) : Nat))] Hc := by
          rw [← hN]
          clear hN
          generalize t.lowest (f, bb) = pl at ehh hlt
          have hee := (enm_ent (k := pl) (by omega)).2.1
          refine ⟨_, rfl, .inl ⟨rfl, _, sqL eh⟩, _, rfl, _, rfl, log2_small (by omega), _, _, rfl, rfl, ?_, ?_⟩
          · rw [dg_str, S_len]
            have := (dg_ok pl (by omega)).1
            have e0 : ("e" : Str).length = 1 := by decide +kernel
            omega
          rw [e_str]
          refine ⟨hp, _, _, rfl, rfl, eh, by rw [List.length_map, List.length_map, List.length_take]; omega, ?_⟩
          have k2 : Same (wo H5 hp) (upd Hc hp (.lst ((((t.helpers t.shallow).take i).map enm).map V.str ++ [.str (enm pl)]))) := same_put k wo_at
          have eh2 : (upd Hc hp (.lst ((((t.helpers t.shallow).take i).map enm).map V.str ++ [.str (enm pl)]))) hp = some (.lst ((((t.helpers t.shallow).take (i + 1)).map enm).map V.str)) := by
            rw [upd_same, List.take_add_one, ehh, List.map_append, List.map_append]
            rfl
          generalize upd Hc hp (.lst ((((t.helpers t.shallow).take i).map enm).map V.str ++ [.str (enm pl)])) = Hd at k2 eh2 ⊢
          refine ⟨_, rfl, _, rfl, _, rfl, _, t, _, pl, rfl, dp_mono k2 hww, h64, by rw [Tr.foldl_turn_len, List.length_replicate], hlt, fun He s8 => ⟨some (.int (f : Nat)), some (.int (pl : Nat)), ?_, k2.trans s8, s8 _ _ eh2⟩⟩
          rw [List.take_add_one, ehh, List.foldl_append]
          rfl
        rw [elow, hm3] at key
        rcases bool_cases ((t.shallow : Int) ≤ (f : Int)) with ⟨e0, g0⟩ | ⟨e0, g0⟩
        · rw [e0]
          rw [decide_eq_true (show t.shallow ≤ f by omega), if_pos rfl] at key
          exact ⟨_, rfl, _, _, rfl, rfl, key⟩
        · rw [e0]
          rw [decide_eq_false (show ¬ t.shallow ≤ f by omega), if_neg Bool.false_ne_true] at key
          exact key
      · rintro σ Hc ⟨v6, v7, rfl, k, eh⟩
        rw [hlen, ← hhl, List.take_length] at eh
        rw [hlen, ← hhl, List.take_length]
        refine ⟨_, rfl, _, rfl, _, rfl, _, t, _, t.shallow, rfl, dp_mono k hww, h64, by rw [Tr.foldl_turn_len, List.length_replicate], hss, fun He s8 => ?_⟩
        have eF : turn t ((t.helpers t.shallow).foldl (turn t) (List.replicate (t.slots - 1) true)) t.shallow = t.thrF := by
          unfold Tr.thrF
          rw [List.foldl_append]
          rfl
        rw [eF]
        have eh8 := s8 _ _ eh
        have k8 := k.trans s8
        have hlenm : (((t.helpers t.shallow).map enm).map V.str).length ≤ 63 := by rw [List.length_map, List.length_map, hhl]; omega
        have hph : hp ≠ hp → False := fun z => z rfl
        have hhpH : H hp = none := s12.free hhp
        have base8 : Same H He := (s12.trans fw).trans k8
        refine ⟨_, rfl, _, rfl, (by show 1 ≤ sizeLine; decide), fun g1 hg1 => ?_⟩
        have u1 := same_new (Same.refl He) hg1 (o := .lst [.str "x"])
        refine ⟨hp, g1, _, _, rfl, rfl, u1 _ _ eh8, upd_same, by rw [List.length_singleton]; omega, fun g2 hg2 => ?_⟩
        have u2 := u1.trans (same_new (Same.refl _) hg2 (o := .lst (((t.helpers t.shallow).map enm).map V.str ++ [.str "x"])))
        refine ⟨_, rfl, g2, hp, _, _, rfl, rfl, upd_same, u2 _ _ eh8, by rw [List.length_append, List.length_singleton]; omega, fun g3 hg3 => ?_⟩
        have u3 := u2.trans (same_new (Same.refl _) hg3 (o := .lst (((t.helpers t.shallow).map enm).map V.str ++ [.str "x"] ++ ((t.helpers t.shallow).map enm).map V.str)))
        have w3 : (upd (upd (upd He g1 (.lst [.str "x"])) g2 (.lst (((t.helpers t.shallow).map enm).map V.str ++ [.str "x"]))) g3 (.lst (((t.helpers t.shallow).map enm).map V.str ++ [.str "x"] ++ ((t.helpers t.shallow).map enm).map V.str))) g3 = some _ := upd_same
        generalize upd (upd (upd He g1 (.lst [.str "x"])) g2 (.lst (((t.helpers t.shallow).map enm).map V.str ++ [.str "x"]))) g3 (.lst (((t.helpers t.shallow).map enm).map V.str ++ [.str "x"] ++ ((t.helpers t.shallow).map enm).map V.str)) = Hb at u3 w3 ⊢
        refine ⟨_, rfl, _, rfl, log2_small (by omega), _, _, rfl, rfl, ?_, ?_⟩
        · rw [dg_str, S_len]
          have := (dg_ok t.shallow (by omega)).1
          have e0 : ("e" : Str).length = 1 := by decide +kernel
          omega
        rw [e_str]
        refine ⟨(by show 1 ≤ sizeLine; decide), fun g4 hg4 => ?_⟩
        have u4 := u3.trans (same_new (Same.refl _) hg4 (o := .lst [.str (enm t.shallow)]))
        have w4 := (same_new (Same.refl _) hg4 (o := .lst [.str (enm t.shallow)])) _ _ w3
        refine ⟨g3, g4, _, _, rfl, rfl, w4, upd_same, by rw [List.length_append, List.length_append, List.length_singleton, List.length_singleton]; omega, fun g5 hg5 => ?_⟩
        have eA : ((t.helpers t.shallow).map enm).map V.str ++ [.str "x"] ++ ((t.helpers t.shallow).map enm).map V.str ++ [.str (enm t.shallow)] = t.thrA.map V.str := by
          unfold Tr.thrA
          rw [List.map_append, List.map_append, List.map_append]
          rfl
        rw [eA]
        have u5 := u4.trans (same_new (Same.refl _) hg5 (o := .lst (t.thrA.map V.str)))
        have w5 : (upd (upd Hb g4 (.lst [.str (enm t.shallow)])) g5 (.lst (t.thrA.map V.str))) g5 = some _ := upd_same
        have na : He g5 = none := u4.free hg5
        generalize upd (upd Hb g4 (.lst [.str (enm t.shallow)])) g5 (.lst (t.thrA.map V.str)) = Hg at u5 w5 ⊢
        refine ⟨(by show 2 ≤ sizeLine; decide), fun g6 hg6 => ?_⟩
        have u6 := u5.trans (same_new (Same.refl _) hg6 (o := .tup [.str (flagS t.thrF), .ref g5]))
        exact q _ g6 g5 (base8.trans u6) (base8.free (u5.free hg6)) (base8.free na) upd_same ((same_new (Same.refl _) hg6 (o := .tup [.str (flagS t.thrF), .ref g5])) _ _ w5)
end
end Ls
/-! The law's own defs: the example told right. -/
namespace Ls
open PySem PySem.Spec PyProof.Rows L2
theorem atoms_strs (es : List Str) : ∀ x ∈ es.map V.str, atomV x := fun x hx => by
  obtain ⟨e, _, rfl⟩ := List.mem_map.mp hx
  exact .inr (.inr ⟨e, rfl⟩)
section
variable {P : Program} {w : World} {K : PySem.W.Frag} {mg : Str → Option Value} {base : Heap}
def spRight (X : TX K mg) : Sp := fun vs H Q _ => ∃ (v : V) (tr told due nm c l k k2 : Addr) (t : Tr), vs = [v, .ref tr, .ref told, .ref due, .ref nm] ∧ Dp K H v (worldD t) ∧ TreeAt X H tr t ∧ H told = some (.tup [.ref c, .ref k]) ∧ CacheAt X H c l tr t.thrF t.thrE ∧ H k = some (.lst (t.thrA.map V.str)) ∧
  H due = some (.tup [.str (flagS t.thrF), .ref k2]) ∧ H k2 = some (.lst (t.thrA.map V.str)) ∧ H nm = some (.lst (t.thrE.map V.str)) ∧ ∀ H', Same H H' → Q (.bl true) H'
theorem ok_l_example_right (T : TX K mg) : FnOk P w K mg base CX0 6 T.l_example_right.f T.l_example_right.fd ["_law_world_here", "_law_tree", "_law_told", "_law_due", "_law_names_here"] (spRight T) := by
  refine T.l_example_right.F.ok sc_l_example_right (fun vs H Q E h => ?_) (fun cdv A outer s H vs Q E hr h => ?_)
  · obtain ⟨v, tr, told, due, nm, c, l, k, k2, t, rfl, _⟩ := h
    rfl
  · obtain ⟨v, tr, told, due, nm, c, l, k, k2, t, rfl, hw, hT, htold, hC, hk, hdue, hk2, hnm, q⟩ := h
    have h64 := hT.small
    refine ⟨_, (pss_cons (ps_if (PW.pt (pw_or (pt_not (pt_val (pe_callB call_isi (by rfl) T.b_isinstance (by decide +kernel) (pa_cons (pv 2) (pa_cons (pe_bltn (by rfl) T.b_tuple (by decide +kernel) (v := .ty "tuple") rfl) pa_nil))))) (pw_or (pt_cmpR op_ne (pe_callB call_len_seq (by rfl) T.b_len (by decide +kernel) (pa_cons (pv 2) pa_nil)) pe_int (nomark _)) (pw_or1 (pt_not (pt_val (pe_callB call_isi (by rfl) T.b_isinstance (by decide +kernel) (pa_cons (pe_ix ix_tup (pv 2) pe_int (fun _ _ => rfl)) (pa_cons (pe_glob rfl T.Cache.g (v := .ref T.Cache.C) rfl) pa_nil)))))))))
        (pss_one (ps_ret pe_bl))
        pss_nil)
      (pss_cons (ps_if (PW.pt (pw_or (pt_not (pt_val (pe_callB call_isi (by rfl) T.b_isinstance (by decide +kernel) (pa_cons (pe_fld (pe_ix ix_tup (pv 2) pe_int (fun _ _ => rfl)) rfl) (pa_cons (pe_glob rfl T.Tree.g (v := .ref T.Tree.C) rfl) pa_nil))))) (pw_or1 (pt_not (pt_val (pe_call (ok_l_same T) (hr.mono (by decide)) (by rfl) T.l_same.g T.l_same.F.kp T.l_same.b .nil pass0 (pa_cons (pe_fld (pe_fld (pe_ix ix_tup (pv 2) pe_int (fun _ _ => rfl)) rfl) rfl) (pa_cons (pe_ix ix_tup (pv 0) pe_int (fun _ _ => rfl)) pa_nil))))))))
        (pss_one (ps_ret pe_bl))
        pss_nil)
      (pss_cons (ps_if (PW.pt (pw_or (pt_not (pt_val (pe_call (ok_l_same T) (hr.mono (by decide)) (by rfl) T.l_same.g T.l_same.F.kp T.l_same.b .nil pass0 (pa_cons (pe_fld (pe_ix ix_tup (pv 2) pe_int (fun _ _ => rfl)) rfl) (pa_cons (pe_ix ix_tup (pv 3) pe_int (fun _ _ => rfl)) pa_nil))))) (pw_or1 (pt_not (pt_val (pe_call (ok_l_same T) (hr.mono (by decide)) (by rfl) T.l_same.g T.l_same.F.kp T.l_same.b .nil pass0 (pa_cons (pe_meth0 (pe_ix ix_tup (pv 2) pe_int (fun _ _ => rfl)) T.Cache.cl T.c_listed.m (ok_c_listed T) (hr.mono (by decide)) T.c_listed.b .nil pass0) (pa_cons (pv 4) pa_nil))))))))
        (pss_one (ps_ret pe_bl))
        pss_nil)
      (pss_one (ps_ret (pe_and (pe_call (ok_l_same T) (hr.mono (by decide)) (by rfl) T.l_same.g T.l_same.F.kp T.l_same.b .nil pass0 (pa_cons (pe_ix ix_tup (pv 2) pe_int (fun _ _ => rfl)) (pa_cons (pe_ix ix_tup (pv 3) pe_int (fun _ _ => rfl)) pa_nil))) (pe_one (pe_cmpR (op_ownCache T (hr.mono (by decide))) (pe_ix ix_tup (pv 2) pe_int (fun _ _ => rfl)) (pe_make T.c_init.M (ok_c_init T) (hr.mono (by decide)) (by rfl) T.Cache.g T.c_init.b .nil pass0 (pa_cons (pv 1) (pa_cons (pe_ix ix_tup (pv 3) pe_int (fun _ _ => rfl)) (pa_cons (pe_callTy call_list_of (by rfl) T.b_list (by decide +kernel) (pa_cons (pv 4) pa_nil)) pa_nil)))) (nomark _))))))))), ?_⟩
    obtain ⟨⟨dx, fs, h0, h1, h2, h3, h4, h5, h6, h7⟩, hl⟩ := id hC
    obtain ⟨⟨dt, ft, vl, vr, vs, vt, vw, t0, t1, _⟩, _⟩ := id hT
    obtain ⟨a, b, cc, xs, _, rfl, ha, hb, hxs, hc, _⟩ := world_open hw
    refine ⟨_, rfl, .ref told, .ty "tuple", .type "tuple", .type "tuple", true, rfl, .ty _, .base (.tup htold), kit_ty (by decide +kernel), true, rfl, ?_⟩
    refine iteF ?_
    refine ⟨_, rfl, told, _, rfl, .inr (sqT htold), rfl, _, rfl, ?_⟩
    refine iteF ?_
    refine ⟨_, rfl, told, _, 0, _, rfl, rfl, sqT htold, rfl, .ref c, .ref T.Cache.C, _, _, true, rfl, .own _, ty_own T T.Cache h0, T.Cache.kit, true, rfl, ?_⟩
    refine iteF ?_
    refine ⟨_, rfl, told, _, 0, _, rfl, rfl, sqT htold, rfl, c, _, dx, fs, _, rfl, h0, T.Cache.cl, T.nC_tree, h1, .ref tr, .ref T.Tree.C, _, _, true, rfl, .own _, ty_own T T.Tree t0, T.Tree.kit, true, rfl, ?_⟩
    refine iteF ?_
    refine ⟨_, rfl, told, _, 0, _, rfl, rfl, sqT htold, rfl, c, _, dx, fs, _, rfl, h0, T.Cache.cl, T.nC_tree, h1, tr, _, dt, ft, _, rfl, t0, T.Tree.cl, T.nT_text, t1, _, rfl, a, _, 0, _, rfl, rfl, ha, rfl, .inl ⟨_, rfl, .inr (.inr ⟨_, rfl⟩), fun H1 s1 => ⟨true, rfl, ?_⟩⟩⟩
    refine iteF ?_
    have C1 := hC.mono (fun o => s1 _ o) (fun o => s1 _ o)
    refine ⟨_, rfl, told, _, 0, _, rfl, rfl, sqT (s1 _ _ htold), rfl, c, _, dx, fs, _, rfl, s1 _ _ h0, T.Cache.cl, T.nC_flags, h2, _, rfl, due, _, 0, _, rfl, rfl, sqT (s1 _ _ hdue), rfl, .inl ⟨_, rfl, .inr (.inr ⟨_, rfl⟩), fun H2 s2 => ⟨true, rfl, ?_⟩⟩⟩
    refine iteF ?_
    have s12 := s1.trans s2
    have C2 := hC.mono (fun o => s12 _ o) (fun o => s12 _ o)
    refine ⟨_, rfl, told, _, 0, _, rfl, rfl, sqT (s12 _ _ htold), rfl, c, dx, fs, rfl, s12 _ _ h0, h4, c, l, tr, t.thrF, t.thrE, rfl, C2, fun H3 p s3 hp ep => ?_⟩
    have s13 := s12.trans s3
    refine ⟨_, rfl, .inr ⟨p, nm, _, rfl, .inl ⟨ep, s13 _ _ hnm⟩, atoms_strs _, by rw [List.length_map, Tr.thrE_len]; omega, fun H4 s4 => ⟨true, rfl, ?_⟩⟩⟩
    refine iteF ?_
    have s14 := s13.trans s4
    have al := thrA_len h64
    refine ⟨_, rfl, told, _, 1, _, rfl, rfl, sqT (s14 _ _ htold), rfl, _, rfl, due, _, 1, _, rfl, rfl, sqT (s14 _ _ hdue), rfl, .inr ⟨k, k2, _, rfl, .inl ⟨s14 _ _ hk, s14 _ _ hk2⟩, atoms_strs _, by rw [List.length_map]; omega, fun H5 s5 => ⟨true, rfl, iteT ?_⟩⟩⟩
    have s15 := s14.trans s5
    refine ⟨_, rfl, told, _, 0, _, rfl, rfl, sqT (s15 _ _ htold), rfl, _, rfl, _, rfl, due, _, 0, _, rfl, rfl, sqT (s15 _ _ hdue), rfl, _, rfl, nm, _, rfl, .inl (sqL (s15 _ _ hnm)), fun p6 hp6 => fun x dx6 hx hdx hne => ?_⟩
    have s16 := s15.trans (same_new (Same.refl H5) hp6 (o := .lst (t.thrE.map V.str)))
    have e6 : (upd H5 p6 (.lst (t.thrE.map V.str))) p6 = some (.lst (t.thrE.map V.str)) := upd_same
    generalize upd H5 p6 (.lst (t.thrE.map V.str)) = H6 at s16 e6 hx hdx ⊢
    have kx : Same H6 (upd (upd H6 dx6 (.own x)) x (.ins T.Cache.C dx6 [])) := same_put (same_new (Same.refl H6) hdx) hx
    refine ⟨H6, x, dx6, tr, p6, t, t.thrF, t.thrE, rfl, kx, hx, upd_same, hT.mono s16, Tr.thrF_len t, e6, Tr.thrE_len t, Tr.thrE_nodup t h64, Tr.thrE_ent t h64, fun H7 cl s7 hcl hC7 => ⟨rfl, ?_⟩⟩
    have s17 := s16.trans s7
    obtain ⟨⟨dx7, fs7, h07, _⟩, _⟩ := id hC7
    exact ⟨⟨c, x, dx, dx7, fs, fs7, rfl, rfl, s17 _ _ h0, h07, l, cl, tr, tr, t, t.thrF, t.thrE, hC.mono (fun o => s17 _ o) (fun o => s17 _ o), hC7, hT.mono s17, hT.mono s17, Tr.thrE_ent t h64⟩, fun H8 s8 => q H8 (s17.trans s8)⟩
end
end Ls
/-! The things that change while the law asks: the box, the cache and its list, the law's own model, one more. -/
namespace Ls
open PySem PySem.Spec PyProof.Rows L2
theorem wo_keep {H H' : Hp} {a x : Addr} {o : HO} (s : Same (wo H x) H') (ne : a ≠ x) (h : H a = some o) : H' a = some o := s a o ((wo_ne ne).trans h)
theorem wo2_keep {H H' : Hp} {a x y : Addr} {o : HO} (s : Same (wo (wo H x) y) H') (n1 : a ≠ x) (n2 : a ≠ y) (h : H a = some o) : H' a = some o := s a o ((wo_ne n2).trans ((wo_ne n1).trans h))
section
variable {K : PySem.W.Frag} {mg : Str → Option Value}
structure StAt (X : TX K mg) (Hf H : Hp) (b c cl m k tr : Addr) (Fc : List Bool) (Ec : List Str) (Fm : List Bool) (Em : List Str) (ok : HO) : Prop where
  fz : Fzl [b, c, cl, m, k] Hf H
  nd : [b, c, cl, m, k].Nodup
  hB : BoxAt H b
  hC : CacheAt X H c cl tr Fc Ec
  hM : ∃ ml, ModelAt H m ml Fm Em ∧ ¬ ml ∈ [b, c, cl, m, k]
  hk : H k = some ok
theorem nd5 {b c cl m k : Addr} (h : [b, c, cl, m, k].Nodup) : b ≠ c ∧ b ≠ cl ∧ b ≠ m ∧ b ≠ k ∧ c ≠ cl ∧ c ≠ m ∧ c ≠ k ∧ cl ≠ m ∧ cl ≠ k ∧ m ≠ k := by
  simp only [List.nodup_cons, List.mem_cons, List.not_mem_nil, or_false, not_or] at h
  obtain ⟨⟨a1, a2, a3, a4⟩, ⟨a5, a6, a7⟩, ⟨a8, a9⟩, a10, _⟩ := h
  exact ⟨a1, a2, a3, a4, a5, a6, a7, a8, a9, a10⟩
theorem not5 {x b c cl m k : Addr} (h : ¬ x ∈ [b, c, cl, m, k]) : x ≠ b ∧ x ≠ c ∧ x ≠ cl ∧ x ≠ m ∧ x ≠ k := by
  simp only [List.mem_cons, List.not_mem_nil, or_false, not_or] at h
  exact h
theorem ModelAt.mono {H H' : Hp} {m l : Addr} {F : List Bool} {es : List Str} (h : ModelAt H m l F es) (h1 : ∀ o, H m = some o → H' m = some o) (h2 : ∀ o, H l = some o → H' l = some o) : ModelAt H' m l F es := ⟨h1 _ h.1, h2 _ h.2.1, h.2.2⟩
variable {X : TX K mg} {Hf H H' : Hp} {b c cl m k tr : Addr} {Fc Fm F' : List Bool} {Ec Em E' : List Str} {o : HO}
theorem StAt.go (h : StAt X Hf H b c cl m k tr Fc Ec Fm Em o) (s : Same H H') : StAt X Hf H' b c cl m k tr Fc Ec Fm Em o := by
  obtain ⟨ml, hM, hn⟩ := h.hM
  exact ⟨h.fz.go s, h.nd, h.hB.mono s, h.hC.mono (fun o => s _ o) (fun o => s _ o), ⟨ml, hM.mono (fun o => s _ o) (fun o => s _ o), hn⟩, s _ _ h.hk⟩
theorem StAt.box (h : StAt X Hf H b c cl m k tr Fc Ec Fm Em o) (s : Same (wo H b) H') (hB : BoxAt H' b) : StAt X Hf H' b c cl m k tr Fc Ec Fm Em o := by
  obtain ⟨a1, a2, a3, a4, a5, a6, a7, a8, a9, a10⟩ := nd5 h.nd
  obtain ⟨ml, hM, hn⟩ := h.hM
  obtain ⟨n1, n2, n3, n4, n5⟩ := not5 hn
  exact ⟨h.fz.draw (by simp) hB s, h.nd, hB, h.hC.mono (fun o => wo_keep s a1.symm) (fun o => wo_keep s a2.symm), ⟨ml, hM.mono (fun o => wo_keep s a3.symm) (fun o => wo_keep s n1), hn⟩, wo_keep s a4.symm h.hk⟩
theorem StAt.req (h : StAt X Hf H b c cl m k tr Fc Ec Fm Em o) (s : Same (wo (wo H c) cl) H') (hC : CacheAt X H' c cl tr F' E') : StAt X Hf H' b c cl m k tr F' E' Fm Em o := by
  obtain ⟨a1, a2, a3, a4, a5, a6, a7, a8, a9, a10⟩ := nd5 h.nd
  obtain ⟨ml, hM, hn⟩ := h.hM
  obtain ⟨n1, n2, n3, n4, n5⟩ := not5 hn
  obtain ⟨x, y, z, hb⟩ := h.hB
  have hb' := wo2_keep s a1 a2 hb
  have hM' : ModelAt H' m ml Fm Em := hM.mono (fun o => wo2_keep s a6.symm a8.symm) (fun o => wo2_keep s n2 n3)
  have hk' := wo2_keep s a7.symm a9.symm h.hk
  refine ⟨⟨(wo_of (wo_of h.fz.s (h.fz.free c (by simp))) (h.fz.free cl (by simp))).trans s, h.fz.free, fun a ha e => ?_⟩, h.nd, ⟨x, y, z, hb'⟩, hC, ⟨ml, hM', hn⟩, hk'⟩
  simp only [List.mem_cons, List.not_mem_nil, or_false] at ha
  rcases ha with rfl | rfl | rfl | rfl | rfl
  · rw [hb'] at e; cases e
  · obtain ⟨⟨dx, fs, h0, _⟩, _⟩ := hC
    rw [h0] at e; cases e
  · rw [hC.li] at e; cases e
  · rw [hM'.1] at e; cases e
  · rw [hk'] at e; cases e
theorem StAt.srv (h : StAt X Hf H b c cl m k tr Fc Ec Fm Em o) (s : Same (wo H m) H') {ml ml' : Addr} (hm : ModelAt H m ml Fm Em) (hM : ModelAt H' m ml' F' E') (hl : ml' = ml ∨ H ml' = none) : StAt X Hf H' b c cl m k tr Fc Ec F' E' o := by
  obtain ⟨a1, a2, a3, a4, a5, a6, a7, a8, a9, a10⟩ := nd5 h.nd
  obtain ⟨ml0, hM0, hn⟩ := h.hM
  have e0 : ml0 = ml := by
    have := hM0.1.symm.trans hm.1
    cases this
    rfl
  subst e0
  obtain ⟨x, y, z, hb⟩ := h.hB
  have hb' := wo_keep s a3 hb
  have hk' := wo_keep s a10.symm h.hk
  have hC' : CacheAt X H' c cl tr Fc Ec := h.hC.mono (fun o => wo_keep s a6) (fun o => wo_keep s a8)
  have at' : ∀ a ∈ [b, c, cl, m, k], H' a ≠ none := fun a ha e => by
    simp only [List.mem_cons, List.not_mem_nil, or_false] at ha
    rcases ha with rfl | rfl | rfl | rfl | rfl
    · rw [hb'] at e; cases e
    · obtain ⟨⟨dx, fs, h0, _⟩, _⟩ := hC'
      rw [h0] at e; cases e
    · rw [hC'.li] at e; cases e
    · rw [hM.1] at e; cases e
    · rw [hk'] at e; cases e
  refine ⟨⟨(wo_of h.fz.s (h.fz.free m (by simp))).trans s, h.fz.free, at'⟩, h.nd, ⟨x, y, z, hb'⟩, hC', ⟨ml', hM, fun hin => ?_⟩, hk'⟩
  rcases hl with e | e
  · rw [e] at hin; exact hn hin
  · exact h.fz.at_ _ hin e
theorem StAt.putk (h : StAt X Hf H b c cl m k tr Fc Ec Fm Em o) (o' : HO) : StAt X Hf (upd H k o') b c cl m k tr Fc Ec Fm Em o' := by
  obtain ⟨a1, a2, a3, a4, a5, a6, a7, a8, a9, a10⟩ := nd5 h.nd
  obtain ⟨ml, hM, hn⟩ := h.hM
  obtain ⟨n1, n2, n3, n4, n5⟩ := not5 hn
  obtain ⟨x, y, z, hb⟩ := h.hB
  exact ⟨h.fz.put (by simp) _, h.nd, ⟨x, y, z, by rw [upd_ne a4]; exact hb⟩, h.hC.mono (fun o e => by rw [upd_ne a7]; exact e) (fun o e => by rw [upd_ne a9]; exact e), ⟨ml, hM.mono (fun o e => by rw [upd_ne a10]; exact e) (fun o e => by rw [upd_ne n5]; exact e), hn⟩, upd_same⟩
theorem atoms_ans (t : Tr) (F : List Bool) (es : List Str) (e : Str) : ∀ x ∈ ansV t F es e, atomV x := by
  intro x hx
  unfold ansV at hx
  split at hx
  · simp only [List.mem_cons, List.not_mem_nil, or_false] at hx
    rcases hx with rfl | rfl | rfl
    · exact .inr (.inr ⟨_, rfl⟩)
    · exact .inr (.inl ⟨_, rfl⟩)
    · exact .inl rfl
  · simp only [List.mem_cons, List.not_mem_nil, or_false] at hx
    rcases hx with rfl | rfl | rfl
    · exact .inr (.inr ⟨_, rfl⟩)
    · exact .inr (.inl ⟨_, rfl⟩)
    · exact .inr (.inr ⟨_, rfl⟩)
theorem ans_len (t : Tr) (F : List Bool) (es : List Str) (e : Str) : (ansV t F es e).length ≤ 1000 := by
  unfold ansV
  split <;> (show 3 ≤ 1000; decide)
theorem ans_kind (t : Tr) (F : List Bool) (es : List Str) (e : Str) : (ansV t F es e)[0]? = some (.str (if e ∈ es then "hit" else "load")) := by
  unfold ansV
  split <;> rfl
theorem kind_load (p : Prop) [Decidable p] : decide (V.str (if p then ("hit" : Str) else "load") = V.str "load") = !decide p := by
  by_cases h : p
  · rw [if_pos h, decide_eq_true h]
    decide +kernel
  · rw [if_neg h, decide_eq_false h]
    decide +kernel
end
end Ls
/-! The law's own defs: settles. -/
namespace Ls
open PySem PySem.Spec PyProof.Rows L2
theorem Fzl.cons {L : List Addr} {Hf H : Hp} {p : Addr} (f : Fzl L Hf H) (h1 : Hf p = none) (h2 : H p ≠ none) : Fzl (p :: L) Hf H := by
  refine ⟨f.s, fun a ha => ?_, fun a ha => ?_⟩
  · rcases List.mem_cons.mp ha with e | h
    · rw [e]; exact h1
    · exact f.free a h
  · rcases List.mem_cons.mp ha with e | h
    · rw [e]; exact h2
    · exact f.at_ a h
theorem Fzl.of {L L' : List Addr} {Hf H : Hp} (f : Fzl L Hf H) (h : ∀ a ∈ L', a ∈ L) : Fzl L' Hf H := ⟨f.s, fun a ha => f.free a (h a ha), fun a ha => f.at_ a (h a ha)⟩
theorem box_at {H : Hp} {b : Addr} (h : BoxAt H b) : H b ≠ none := by
  obtain ⟨x, y, z, h⟩ := h
  rw [h]
  intro z
  cases z
theorem Fzl.box {H : Hp} {b : Addr} (h : BoxAt H b) : Fzl [b] (wo H b) H := ⟨wo_same, fun a ha => by rw [List.mem_singleton.mp ha]; exact wo_at, fun a ha => by rw [List.mem_singleton.mp ha]; exact box_at h⟩
theorem some_ne {H : Hp} {p : Addr} {o : HO} (h : H p = some o) : H p ≠ none := by rw [h]; intro z; cases z
section
variable {P : Program} {w : World} {K : PySem.W.Frag} {mg : Str → Option Value} {base : Heap}
def spRun (X : TX K mg) : Sp := fun vs H Q _ => ∃ (v : V) (tr b : Addr) (t : Tr), vs = [v, .ref tr, .ref b] ∧ BoxAt H b ∧ Dp K (wo H b) v (worldD t) ∧ TreeAt X (wo H b) tr t ∧ ∀ H', Same (wo H b) H' → BoxAt H' b → Q (.bl true) H'
/-- the loads so far: at most one of each, and of what was asked for -/
def LdOk (as R : List Str) (ls : List Nat) : Prop := ∀ (k x : Nat), ls[k]? = some x → x = 0 ∨ (x = 1 ∧ ∃ a, as[k]? = some a ∧ a ∈ R)
theorem ok_l_settles (T : TX K mg) : FnOk P w K mg base CX0 7 T.l_settles.f T.l_settles.fd ["_law_world_here", "_law_tree", "_law_box_here"] (spRun T) := by
  refine T.l_settles.F.ok sc_l_settles (fun vs H Q E h => ?_) (fun cdv A outer s H vs Q E hr h => ?_)
  · obtain ⟨v, tr, b, t, rfl, _⟩ := h
    rfl
  · obtain ⟨v, tr, b, t, rfl, hB, hw, hT, q⟩ := h
    have h64 := hT.small
    have hlt := Tr.least_lt t
    refine ⟨_, (pss_cons (ps_set (i := 3) sc_l_settles.nd rfl (by first | exact .inl rfl | exact .inr rfl) (pe_call (ok_l_flags T) (hr.mono (by decide)) (by rfl) T.l_flags.g T.l_flags.F.kp T.l_flags.b .nil pass0 (pa_cons (pv 2) (pa_cons (pv 0) pa_nil))))
      (pss_cons (ps_set (i := 4) sc_l_settles.nd rfl (by first | exact .inl rfl | exact .inr rfl) (pe_call (ok_l_names T) (hr.mono (by decide)) (by rfl) T.l_names.g T.l_names.F.kp T.l_names.b .nil pass0 (pa_cons (pv 2) (pa_cons (pe_ix ix_tup (pv 0) pe_int (fun _ _ => rfl)) pa_nil))))
      (pss_cons (ps_set (i := 5) sc_l_settles.nd rfl (by first | exact .inl rfl | exact .inr rfl) (pe_op op_add (pe_call (ok_l_least T) (hr.mono (by decide)) (by rfl) T.l_least.g T.l_least.F.kp T.l_least.b .nil pass0 (pa_cons (pv 0) pa_nil)) pe_int))
      (pss_cons (ps_if (pt_cmpR op_eq (pe_call (ok_l_take T) (hr.mono (by decide)) (by rfl) T.l_take.g T.l_take.F.kp T.l_take.b .nil pass0 (pa_cons (pv 2) (pa_cons pe_int pa_nil))) pe_int (nomark _))
        (pss_one (ps_set (i := 5) sc_l_settles.nd rfl (by first | exact .inl rfl | exact .inr rfl) (pe_op op_add pe_int (pe_call (ok_l_take T) (hr.mono (by decide)) (by rfl) T.l_take.g T.l_take.F.kp T.l_take.b .nil pass0 (pa_cons (pv 2) (pa_cons (pv 5) pa_nil))))))
        pss_nil)
      (pss_cons (ps_set (i := 6) sc_l_settles.nd rfl (by first | exact .inl rfl | exact .inr rfl) (pe_call (ok_l_asked T) (hr.mono (by decide)) (by rfl) T.l_asked.g T.l_asked.F.kp T.l_asked.b .nil pass0 (pa_cons (pv 2) (pa_cons (pv 4) (pa_cons (pv 5) pa_nil)))))
      (pss_cons (ps_set (i := 7) sc_l_settles.nd rfl (by first | exact .inl rfl | exact .inr rfl) (pe_cmpR op_eq (pe_call (ok_l_take T) (hr.mono (by decide)) (by rfl) T.l_take.g T.l_take.F.kp T.l_take.b .nil pass0 (pa_cons (pv 2) (pa_cons pe_int pa_nil))) pe_int (nomark _)))
      (pss_cons (ps_setLc (i := 8) (own := [("_law_k", 9)]) rfl sc_l_settles.nd rfl rfl (sw_true rfl rfl rfl (by decide +kernel)) (pi_range1 rfl T.b_range (pa_cons (pv 5) pa_nil)) (blkOk_by (N := ["_law_world_here", "_law_tree", "_law_box_here", "_law_flags_here", "_law_names_here", "_law_size", "_law_asked_here", "_law_in_rounds", "_law_loads", "_law_k", "_law_model", "_law_shelf", "_law_step", "_law_answer"]) (sc := defScope s_l_settles) (by decide +kernel)) (fun _ _ _ _ _ => (pg_name (i := 9) sc_l_settles.nd rfl (by first | exact .inl rfl | exact .inr rfl))) (fun _ _ _ _ _ => pts_nil) (fun _ _ _ _ _ => pe_int))
      (pss_cons (ps_set (i := 10) sc_l_settles.nd rfl (by first | exact .inl rfl | exact .inr rfl) (pe_lst (pa_cons (pv 3) (pa_cons (pe_callTy call_list_of (by rfl) T.b_list (by decide +kernel) (pa_cons (pv 4) pa_nil)) pa_nil))))
      (pss_cons (ps_set (i := 11) sc_l_settles.nd rfl (by first | exact .inl rfl | exact .inr rfl) (pe_make T.c_init.M (ok_c_init T) (hr.mono (by decide)) (by rfl) T.Cache.g T.c_init.b .nil pass0 (pa_cons (pv 1) (pa_cons (pv 3) (pa_cons (pe_callTy call_list_of (by rfl) T.b_list (by decide +kernel) (pa_cons (pv 4) pa_nil)) pa_nil)))))
      (pss_cons (ps_for PassesOwn.never rfl (pi_range1 rfl T.b_range (pa_cons (pe_op op_add pe_int (pe_call (ok_l_take T) (hr.mono (by decide)) (by rfl) T.l_take.g T.l_take.F.kp T.l_take.b .nil pass0 (pa_cons (pv 2) (pa_cons pe_int pa_nil)))) pa_nil)) (pg_name (i := 12) sc_l_settles.nd rfl (by first | exact .inl rfl | exact .inr rfl))
        (pss_cons (ps_set (i := 9) sc_l_settles.nd rfl (by first | exact .inl rfl | exact .inr rfl) (pe_call (ok_l_take T) (hr.mono (by decide)) (by rfl) T.l_take.g T.l_take.F.kp T.l_take.b .nil pass0 (pa_cons (pv 2) (pa_cons (pv 5) pa_nil))))
      (pss_cons (ps_if (pt_val (pv 7))
        (pss_one (ps_set (i := 9) sc_l_settles.nd rfl (by first | exact .inl rfl | exact .inr rfl) (pe_op op_mod (pe_callTy call_int1 (by rfl) T.b_int (by decide +kernel) (pa_cons (pv 12) pa_nil)) (pv 5))))
        pss_nil)
      (pss_cons (ps_set (i := 13) sc_l_settles.nd rfl (by first | exact .inl rfl | exact .inr rfl) (pe_meth (pv 11) T.Cache.cl T.c_request.m (ok_c_request T) (hr.mono (by decide)) T.c_request.b .nil pass0 (pa_cons (pe_ix ix_list (pv 6) (pv 9) (fun _ _ => rfl)) pa_nil)))
      (pss_cons (ps_if (pt_not (pt_val (pe_call (ok_l_same T) (hr.mono (by decide)) (by rfl) T.l_same.g T.l_same.F.kp T.l_same.b .nil pass0 (pa_cons (pv 13) (pa_cons (pe_call (ok_l_served T) (hr.mono (by decide)) (by rfl) T.l_served.g T.l_served.F.kp T.l_served.b .nil pass0 (pa_cons (pv 0) (pa_cons (pv 10) (pa_cons (pe_ix ix_list (pv 6) (pv 9) (fun _ _ => rfl)) pa_nil)))) pa_nil)))))
        (pss_one (ps_ret pe_bl))
        pss_nil)
      (pss_cons (ps_asg (pe_op op_add (pe_ix ix_list (pv 8) (pv 9) (fun _ _ => rfl)) (pe_callTy call_int1 (by rfl) T.b_int (by decide +kernel) (pa_cons (pe_cmpR op_eq (pe_ix ix_tup (pv 13) pe_int (fun _ _ => rfl)) pe_str (nomark _)) pa_nil))) (pg_sub (pv 8) (pv 9) set_list))
      (pss_one (ps_if (pt_cmpR op_gt (pe_ix ix_list (pv 8) (pv 9) (fun _ _ => rfl)) pe_int (nomark _))
        (pss_one (ps_ret pe_bl))
        pss_nil))))))))
      (pss_one (ps_ret (pe_and (pe_call (ok_l_same T) (hr.mono (by decide)) (by rfl) T.l_same.g T.l_same.F.kp T.l_same.b .nil pass0 (pa_cons (pe_meth0 (pv 11) T.Cache.cl T.c_listed.m (ok_c_listed T) (hr.mono (by decide)) T.c_listed.b .nil pass0) (pa_cons (pe_ix ix_list (pv 10) pe_int (fun _ _ => rfl)) pa_nil))) (pe_one (pe_call (ok_l_same T) (hr.mono (by decide)) (by rfl) T.l_same.g T.l_same.F.kp T.l_same.b .nil pass0 (pa_cons (pe_fld (pv 11) rfl) (pa_cons (pe_ix ix_list (pv 10) pe_int (fun _ _ => rfl)) pa_nil))))))))))))))))), ?_⟩
    refine ⟨_, rfl, _, rfl, b, v, t, rfl, hB, dp_mono wo_same hw, h64, fun H1 F s1 hB1 hF => ?_⟩
    have hw1 := dp_mono s1 hw
    obtain ⟨a, b', c', xs, _, rfl, ha, hb', hxs, hc', _⟩ := world_open hw1
    refine ⟨_, rfl, _, rfl, a, _, 1, _, rfl, rfl, ha, rfl, b, t.slots, rfl, hB1, h64, fun H2 nm es s2 hB2 hnm0 hnm hel hok => ?_⟩
    have k2 := (wo_of s1 wo_at).trans s2
    have hnb : nm ≠ b := fun z => by
      rw [z] at hnm0
      exact box_at hB1 hnm0
    refine ⟨_, rfl, .ref a, t, rfl, dp_mono k2 hw, h64, fun H3 s3 => ⟨_, _, rfl, rfl, ?_⟩⟩
    have hB3 := hB2.mono s3
    refine ⟨_, rfl, b, 2, rfl, hB3, by decide, by decide, fun H4 r4 s4 hB4 hr4 => ⟨rfl, _, rfl, ?_⟩⟩
    have k4 := (wo_of (k2.trans s3) wo_at).trans s4
    have hnm4 := wo_keep s4 hnb (s3 _ _ hnm)
    generalize hN : tSeq _ _ _ = N
    have key : ∀ (size : Nat) (H5 : Hp), 1 ≤ size → size ≤ t.least + 1 → Same (wo H b) H5 → BoxAt H5 b → H5 nm = some (.lst (es.map V.str)) → N [some (.ref a), some (.ref tr), some (.ref b), some (.str (flagS F)), some (.ref nm), some (.int (size : Nat)), none, none, none, none, none, none, none, none] H5 := by
      intro size H5 hz1 hz2 k5 hB5 hnm5
      rw [← hN]
      clear hN
      have hz64 : size ≤ 64 := by omega
      have z200 := small1000 (n := 300) (by decide)
      have p1 := Tr.slots_pos t
      refine ⟨_, rfl, _, rfl, _, rfl, b, nm, size, es, rfl, hB5, hnm5, by omega, by omega, hok, hz64, fun H6 ak as s6 hB6 hak0 hak hal hnd hent => ?_⟩
      have k6 := (wo_of k5 wo_at).trans s6
      have hnm6 := wo_keep s6 hnb hnm5
      have hakb : ak ≠ b := fun z => by
        rw [z] at hak0
        exact box_at hB5 hak0
      have f6 := Fzl.box hB6
      have kf : Same (wo H b) (wo H6 b) := wo_of k6 wo_at
      have nmf : wo H6 b nm = some (.lst (es.map V.str)) := (wo_ne hnb).trans hnm6
      have akf : wo H6 b ak = some (.lst (as.map V.str)) := (wo_ne hakb).trans hak
      refine ⟨_, rfl, b, 3, rfl, hB6, by decide, by decide, fun H7 r7 s7 hB7 hr7 => ⟨rfl, ?_⟩⟩
      have f7 := f6.draw (by simp) hB7 s7
      generalize wo H6 b = Hf at f6 f7 kf nmf akf
      generalize decide (V.int (r7 : Nat) = V.int 0) = inr
      refine ⟨_, rfl, (size : Int), rfl, by omega, by omega, fun ld hld => lc_map (walk_range (lo := 0) (n := size)) _ yRng (fun i => .int ((0 : Nat) : Int)) (fun _ _ => trivial) hld (by omega) (fun _ => rfl) (fun i H' Q' hi s' q' => q' H' (Same.refl _)) ?_⟩
      intro H8 s8 e8
      have hbl := box_ne hB7 hld
      have hB8 := hB7.mono s8
      have f8 := (f7.go s8).cons (p := ld) (f7.s.free hld) (some_ne e8)
      have e8' : H8 ld = some (.lst (intsV (List.replicate size 0))) := by
        rw [e8]
        unfold intsV
        rw [List.map_replicate]
        congr 2
        apply List.ext_getElem?
        intro i
        rw [List.getElem?_map, List.getElem?_replicate]
        by_cases hi : i < size
        · rw [List.getElem?_range hi, if_pos hi]
          rfl
        · rw [List.getElem?_eq_none (by rw [List.length_range]; omega), if_neg hi]
          rfl
      refine ⟨_, rfl, _, rfl, nm, _, rfl, .inl (sqL (f8.s _ _ nmf)), fun l1 hl1 => ⟨(by show 2 ≤ sizeLine; decide), fun m hm => ?_⟩⟩
      have hbl1 := box_ne hB8 hl1
      have hldl1 : ld ≠ l1 := ne_of_none e8' hl1
      have n9 := same_new (Same.refl H8) hl1 (o := .lst (es.map V.str))
      have el1 : (upd H8 l1 (.lst (es.map V.str))) l1 = some (.lst (es.map V.str)) := upd_same
      have f9 := f8.go n9
      have e9 := n9 _ _ e8'
      have hB9 := hB8.mono n9
      generalize upd H8 l1 (.lst (es.map V.str)) = H9 at f9 e9 hB9 el1 hm ⊢
      have hbm := box_ne hB9 hm
      have hldm : ld ≠ m := ne_of_none e9 hm
      have hl1m : l1 ≠ m := ne_of_none el1 hm
      have f10 := f9.add (.lst [.str (flagS F), .ref l1]) hm
      have n10 := same_new (Same.refl H9) hm (o := .lst [.str (flagS F), .ref l1])
      have em : (upd H9 m (.lst [.str (flagS F), .ref l1])) m = some (.lst [.str (flagS F), .ref l1]) := upd_same
      have e10 := n10 _ _ e9
      have hB10 := hB9.mono n10
      have el10 := n10 _ _ el1
      generalize upd H9 m (.lst [.str (flagS F), .ref l1]) = H10 at f10 em e10 hB10 el10 ⊢
      refine ⟨_, rfl, _, rfl, _, rfl, nm, _, rfl, .inl (sqL (f10.s _ _ nmf)), fun l2 hl2 => fun c dx hc hdx hne => ?_⟩
      have n11 := same_new (Same.refl H10) hl2 (o := .lst (es.map V.str))
      have el2 : (upd H10 l2 (.lst (es.map V.str))) l2 = some (.lst (es.map V.str)) := upd_same
      have f11 := f10.go n11
      have em11 := n11 _ _ em
      have e11 := n11 _ _ e10
      have hB11 := hB10.mono n11
      have el11 := n11 _ _ el10
      generalize upd H10 l2 (.lst (es.map V.str)) = H11 at f11 em11 e11 hB11 el11 el2 hc hdx ⊢
      have kx : Same H11 (upd (upd H11 dx (.own c)) c (.ins T.Cache.C dx [])) := same_put (same_new (Same.refl H11) hdx) hc
      have hTf := hT.mono kf
      have hwf := dp_mono kf hw
      refine ⟨H11, c, dx, tr, l2, t, F, es, rfl, kx, hc, upd_same, hTf.mono f11.s, hF, el2, hel, hok.nodup (by omega), hok.ent (by omega), fun H12 cl s12 hcl hC => ⟨rfl, ?_⟩⟩
      have f12 := ((f11.go s12).cons (p := cl) (f11.s.free hcl) (some_ne hC.li)).cons (p := c) (f11.s.free hc) (by obtain ⟨⟨_, _, h0, _⟩, _⟩ := hC; exact some_ne h0)
      have hB12 := hB11.mono s12
      have em12 := s12 _ _ em11
      have e12 := s12 _ _ e11
      have el12 := s12 _ _ el11
      have hbc : b ≠ c := box_ne hB11 hc
      have hbcl : b ≠ cl := box_ne hB11 hcl
      have hmc : m ≠ c := ne_of_none em11 hc
      have hmcl : m ≠ cl := ne_of_none em11 hcl
      have hldc : ld ≠ c := ne_of_none e11 hc
      have hldcl : ld ≠ cl := ne_of_none e11 hcl
      have hl1c : l1 ≠ c := ne_of_none el11 hc
      have hl1cl : l1 ≠ cl := ne_of_none el11 hcl
      have st0 : StAt T Hf H12 b c cl m ld tr F es F es (.lst (intsV (List.replicate size 0))) := by
        refine ⟨f12.of (fun a ha => by simp only [List.mem_cons, List.not_mem_nil, or_false] at ha; rcases ha with rfl | rfl | rfl | rfl | rfl <;> simp), ?_, hB12, hC, ⟨l1, ⟨em12, el12, hl1m⟩, ?_⟩, e12⟩
        · simp only [List.nodup_cons, List.mem_cons, List.not_mem_nil, or_false, not_or]
          exact ⟨⟨hbc, hbcl, hbm, hbl⟩, ⟨hC.ne, hmc.symm, hldc.symm⟩, ⟨hmcl.symm, hldcl.symm⟩, hldm.symm, id, List.nodup_nil⟩
        · simp only [List.mem_cons, List.not_mem_nil, or_false, not_or]
          exact ⟨hbl1.symm, hl1c, hl1cl, hl1m, hldl1.symm⟩
      refine ⟨_, rfl, b, 40, rfl, hB12, by decide, by decide, fun H13 r13 s13 hB13 hr13 => ⟨_, _, rfl, rfl, ((8 + r13 : Nat) : Int), congrArg (fun z => [V.int z]) (by omega), by omega, by omega, ?_⟩⟩
      have st1 := st0.box s13 hB13
      generalize hF1 : F = F1 at st1 ⊢
      refine for_it (walk_range (lo := 0) (n := 8 + r13)) (fun i σ Hc => ∃ (F : List Bool) (es R : List Str) (ls : List Nat) (v9 v12 v13 : Option V), σ = [some (.ref a), some (.ref tr), some (.ref b), some (.str (flagS F1)), some (.ref nm), some (.int (size : Nat)), some (.ref ak), some (.bl inr), some (.ref ld), v9, some (.ref m), some (.ref c), v12, v13] ∧ StAt T Hf Hc b c cl m ld tr F es F es (.lst (intsV ls)) ∧ SInv t as F es R ∧ ls.length = size ∧ LdOk as R ls)
        ⟨F1, es, [], List.replicate size 0, none, none, none, rfl, st1, SInv.start (by rw [← hF1]; exact hF) hel (hok.nodup (by omega)), List.length_replicate, ?_⟩ (fun _ _ _ _ _ => trivial) ?_ ?_
      · intro k x hx
        rw [List.getElem?_replicate] at hx
        split at hx
        · exact .inl (Option.some.inj hx).symm
        · cases hx
      · rintro i x σ Hc Hc' hi ⟨F, es, R, ls, v9, v12, v13, rfl, st, si, hls, hok2⟩ hy
        obtain ⟨rfl, rfl⟩ := yRng i _ _ _ hi hy
        refine ⟨_, rfl, _, rfl, b, size, rfl, st.hB, hz1, by omega, fun H14 r14 s14 hB14 hr14 => ?_⟩
        have st := st.box s14 hB14
        refine ⟨_, rfl, _, rfl, ?_⟩
        generalize hN2 : tSeq _ _ _ = N2
        have key2 : ∀ kk : Nat, kk < size → N2 [some (.ref a), some (.ref tr), some (.ref b), some (.str (flagS F1)), some (.ref nm), some (.int (size : Nat)), some (.ref ak), some (.bl inr), some (.ref ld), some (.int (kk : Nat)), some (.ref m), some (.ref c), some (.int (i : Nat)), v13] H14 := by
          intro kk hkk
          rw [← hN2]
          clear hN2
          have eak : as[kk]? = some as[kk] := List.getElem?_eq_getElem (by omega)
          have hent' := hent _ (List.mem_of_getElem? eak)
          have hmem := List.mem_of_getElem? eak
          generalize as[kk] = e at eak hent' hmem
          obtain ⟨⟨dx', fs, h0, h1, h2, h3, h4, h5, h6, h7⟩, hl⟩ := id st.hC
          have eakV : (as.map V.str)[kk]? = some (.str e) := by rw [List.getElem?_map, eak]; rfl
          refine ⟨_, rfl, c, dx', fs, rfl, h0, h6, _, rfl, _, rfl, ak, _, _, _, rfl, rfl, sqL (st.fz.s _ _ akf), at_of rfl eakV, ?_⟩
          have ncl := st.hC.ne
          have kH : Same (wo (wo H14 c) cl) H14 := wo_same.trans wo_same
          have kf2 : Same Hf (wo (wo H14 c) cl) := wo_of (wo_of st.fz.s (st.fz.free c (by simp))) (st.fz.free cl (by simp))
          refine ⟨wo (wo H14 c) cl, c, cl, tr, t, F, es, e, rfl, kH, wo_none wo_at, wo_at, hTf.mono kf2, st.hC, si.hF, si.hE, hent', fun H15 p s15 hp hC15 ep => ?_⟩
          have st2 := st.req s15 hC15
          obtain ⟨ml, hM, hnml⟩ := st2.hM
          have hpm : p ≠ m := fun z => by
            rw [z, hM.1] at ep
            cases ep
          have kf3 : Same Hf (wo H15 m) := wo_of st2.fz.s (st2.fz.free m (by simp))
          refine ⟨_, rfl, _, rfl, _, rfl, _, rfl, _, rfl, ak, _, _, _, rfl, rfl, sqL (st2.fz.s _ _ akf), at_of rfl eakV, ?_⟩
          refine ⟨wo H15 m, .ref a, m, ml, t, F, es, e, rfl, wo_same, wo_at, dp_mono kf3 hwf, h64, hM, (wo_ne hM.2.2).trans hM.2.1, si.hF, si.hE, fun H16 p2 ml2 s16 hp2 hM16 ep2 hml2 => ?_⟩
          have st3 := st2.srv s16 hM hM16 hml2
          have ep16 := wo_keep s16 hpm ep
          refine .inr ⟨p, p2, _, rfl, .inr ⟨ep16, ep2⟩, atoms_ans _ _ _ _, ans_len _ _ _ _, fun H17 s17 => ⟨true, rfl, ?_⟩⟩
          refine iteF ?_
          have st4 := st3.go s17
          have elk : ls[kk]? = some ls[kk] := List.getElem?_eq_getElem (by omega)
          have elkV : (intsV ls)[kk]? = some (.int (ls[kk] : Nat)) := by unfold intsV; rw [List.getElem?_map, elk]; rfl
          have hlk := hok2 kk _ elk
          generalize ls[kk] = lk at elk elkV hlk
          have e4 := st4.hk
          refine ⟨_, rfl, _, rfl, ld, _, _, _, rfl, rfl, sqL e4, at_of rfl elkV, _, rfl, p, _, 0, _, rfl, rfl, sqT (s17 _ _ ep16), at_of (j := 0) rfl (ans_kind t F es e), rfl, .inr ⟨_, rfl, _, _, rfl, rfl, ?_⟩⟩
          rw [kind_load]
          have si' := si.step (e := e) hmem (by omega)
          have hd : ∃ d : Nat, (if (!decide (e ∈ es)) = true then (1 : Int) else 0) = (d : Int) ∧ lk + d ≤ 1 ∧ LdOk as (e :: R) (ls.set kk (lk + d)) := by
            have oth : ∀ y, y = 0 ∨ (y = 1) → LdOk as (e :: R) (ls.set kk y) := fun y hy j x hx => by
              by_cases cj : kk = j
              · subst cj
                rw [List.getElem?_set_self (by omega)] at hx
                cases hx
                rcases hy with h | h
                · exact .inl h
                · exact .inr ⟨h, e, eak, List.mem_cons_self ..⟩
              · rw [List.getElem?_set_ne cj] at hx
                rcases hok2 j x hx with h | ⟨h, a', h1', h2'⟩
                · exact .inl h
                · exact .inr ⟨h, a', h1', List.mem_cons_of_mem _ h2'⟩
            by_cases hin : e ∈ es
            · refine ⟨0, by rw [decide_eq_true hin]; rfl, ?_, oth _ ?_⟩
              · rcases hlk with h | h <;> omega
              · rcases hlk with h | h <;> omega
            · refine ⟨1, by rw [decide_eq_false hin]; rfl, ?_, oth _ ?_⟩
              · rcases hlk with h | ⟨h, a', h1', h2'⟩
                · omega
                · rw [eak] at h1'
                  cases h1'
                  exact absurd (si.kept _ h2') hin
              · rcases hlk with h | ⟨h, a', h1', h2'⟩
                · exact .inr (by omega)
                · rw [eak] at h1'
                  cases h1'
                  exact absurd (si.kept _ h2') hin
          obtain ⟨d, ed, hd1, hd2⟩ := hd
          rw [ed]
          refine ⟨_, rfl, _, rfl, ld, _, _, kk, rfl, rfl, e4, ?_, ?_⟩
          · unfold ixN
            unfold intsV
            rw [if_pos (by omega), if_pos (by rw [List.length_map]; omega), Int.toNat_natCast]
          have eset : (intsV ls).set kk (.int ((lk : Int) + (d : Int))) = intsV (ls.set kk (lk + d)) := by
            unfold intsV
            rw [List.map_set]
            rfl
          have hset : ((intsV ls).set kk (.int ((lk : Int) + (d : Int))))[kk]? = some (.int ((lk : Int) + (d : Int))) := List.getElem?_set_self (by unfold intsV; rw [List.length_map]; omega)
          have st5 := st4.putk (.lst ((intsV ls).set kk (.int ((lk : Int) + (d : Int)))))
          refine ⟨_, rfl, _, rfl, ld, _, _, _, rfl, rfl, sqL upd_same, at_of rfl hset, _, _, rfl, rfl, _, rfl, ?_⟩
          have e6 : decide ((1 : Int) < (lk : Int) + (d : Int)) = false := decide_eq_false (by omega)
          rw [e6]
          exact ⟨_, _, _, _, _, _, _, rfl, ⟨st5.fz, st5.nd, st5.hB, st5.hC, st5.hM, by rw [upd_same, eset]⟩, si', by rw [List.length_set]; exact hls, hd2⟩
        cases inr with
        | true => exact ⟨_, rfl, .inl ⟨_, rfl, _, rfl, _, _, rfl, rfl, (show (0 : Int) < (size : Int) by omega), key2 (i % size) (Nat.mod_lt _ (by omega))⟩⟩
        | false => exact key2 r14 hr14
      · rintro σ Hc ⟨F, es, R, ls, v9, v12, v13, rfl, st, si, hls, hok2⟩
        obtain ⟨⟨dx', fs, h0, h1, h2, h3, h4, h5, h6, h7⟩, hl⟩ := id st.hC
        obtain ⟨ml, hM, hnml⟩ := st.hM
        refine ⟨_, rfl, c, dx', fs, rfl, h0, h4, c, cl, tr, F, es, rfl, st.hC, fun H14 p s14 hp ep => ?_⟩
        refine ⟨_, rfl, m, _, 1, _, rfl, rfl, sqL (s14 _ _ hM.1), rfl, .inr ⟨p, ml, _, rfl, .inl ⟨ep, s14 _ _ hM.2.1⟩, atoms_strs _, by rw [List.length_map]; have := si.hE; omega, fun H15 s15 => ⟨true, rfl, iteT ?_⟩⟩⟩
        have s145 := s14.trans s15
        exact ⟨_, rfl, c, _, dx', fs, _, rfl, s145 _ _ h0, T.Cache.cl, T.nC_flags, h2, _, rfl, m, _, 0, _, rfl, rfl, sqL (s145 _ _ hM.1), rfl, .inl ⟨_, rfl, .inr (.inr ⟨_, rfl⟩), fun H16 s16 => q H16 (kf.trans (st.fz.s.trans (s145.trans s16))) (st.hB.mono (s145.trans s16))⟩⟩
    show (if decide (V.int (r4 : Nat) = V.int (1 : Nat)) = true then _ else _)
    rw [lean_dec]
    rcases bool_cases (r4 = 1) with ⟨e0, _⟩ | ⟨e0, _⟩
    · rw [e0]
      refine ⟨_, rfl, _, rfl, b, t.least + 1, rfl, hB4, by omega, by omega, fun H5 r5 s5 hB5 hr5 => ⟨_, _, rfl, rfl, ?_⟩⟩
      have h := key (1 + r5) H5 (by omega) (by omega) ((wo_of k4 wo_at).trans s5) hB5 (wo_keep s5 hnb hnm4)
      exact h
    · rw [e0]
      exact key (t.least + 1) H4 (by omega) (by omega) k4 hB4 hnm4
end
end Ls
/-! The law's own defs: thrashes. -/
namespace Ls
open PySem PySem.Spec PyProof.Rows L2
theorem yn_str (n : Nat) : ("y" : Str) ++ toString (n : Int) = S (121 :: dg n) := by
  rw [dg_str, show ("y" : Str) = S [121] by decide +kernel, S_app]
  rfl
theorem yn_ent {n : Nat} (h : n < 1000) : Ent (S (121 :: dg n)) := ent_of [121] n h (by decide) (by decide +kernel)
section
variable {P : Program} {w : World} {K : PySem.W.Frag} {mg : Str → Option Value} {base : Heap}
theorem ok_l_thrashes (T : TX K mg) : FnOk P w K mg base CX0 8 T.l_thrashes.f T.l_thrashes.fd ["_law_world_here", "_law_tree", "_law_box_here"] (spRun T) := by
  refine T.l_thrashes.F.ok sc_l_thrashes (fun vs H Q E h => ?_) (fun cdv A outer s H vs Q E hr h => ?_)
  · obtain ⟨v, tr, b, t, rfl, _⟩ := h
    rfl
  · obtain ⟨v, tr, b, t, rfl, hB, hw, hT, q⟩ := h
    have h64 := hT.small
    have z300 := small1000 (n := 300) (by decide)
    have al := thrA_len h64
    refine ⟨_, (pss_cons (ps_set (i := 3) sc_l_thrashes.nd rfl (by first | exact .inl rfl | exact .inr rfl) (pe_call (ok_l_example T) (hr.mono (by decide)) (by rfl) T.l_example.g T.l_example.F.kp T.l_example.b .nil pass0 (pa_cons (pv 0) pa_nil)))
      (pss_cons (ps_setLc (i := 4) (own := [("_law_slot", 5)]) rfl sc_l_thrashes.nd rfl rfl (sw_true rfl rfl rfl (by decide +kernel)) (pi_range1 rfl T.b_range (pa_cons (pe_ix ix_tup (pv 0) pe_int (fun _ _ => rfl)) pa_nil)) (blkOk_by (N := ["_law_world_here", "_law_tree", "_law_box_here", "_law_due", "_law_names_here", "_law_slot", "_law_told", "_law_shelf", "_law_model", "_law_turn", "_law_loads", "_law_name", "_law_answer"]) (sc := defScope s_l_thrashes) (by decide +kernel)) (fun _ _ _ _ _ => (pg_name (i := 5) sc_l_thrashes.nd rfl (by first | exact .inl rfl | exact .inr rfl))) (fun _ _ _ _ _ => pts_nil) (fun _ _ _ _ _ => (pe_op op_add_str pe_str (pe_callTy call_str_int (by rfl) T.b_str (by decide +kernel) (pa_cons (pv 5) pa_nil)))))
      (pss_cons (ps_set (i := 6) sc_l_thrashes.nd rfl (by first | exact .inl rfl | exact .inr rfl) (pe_call (ok_p_thrashing T) (hr.mono (by decide)) (by rfl) T.p_thrashing.g T.p_thrashing.F.kp T.p_thrashing.b .nil pass0 (pa_cons (pv 1) pa_nil)))
      (pss_cons (ps_if (pt_not (pt_val (pe_call (ok_l_example_right T) (hr.mono (by decide)) (by rfl) T.l_example_right.g T.l_example_right.F.kp T.l_example_right.b .nil pass0 (pa_cons (pv 0) (pa_cons (pv 1) (pa_cons (pv 6) (pa_cons (pv 3) (pa_cons (pv 4) pa_nil))))))))
        (pss_one (ps_ret pe_bl))
        pss_nil)
      (pss_cons (ps_if (pt_cmpR op_ne (pe_lenSetS rfl T.b_len rfl T.b_set (pe_ix ix_tup (pv 3) pe_int (fun _ _ => rfl))) (pe_op op_add (pe_call (ok_p_settling_size T) (hr.mono (by decide)) (by rfl) T.p_settling_size.g T.p_settling_size.F.kp T.p_settling_size.b .nil pass0 (pa_cons (pv 1) pa_nil)) pe_int) (nomark _))
        (pss_one (ps_ret pe_bl))
        pss_nil)
      (pss_cons (ps_set (i := 7) sc_l_thrashes.nd rfl (by first | exact .inl rfl | exact .inr rfl) (pe_ix ix_tup (pv 6) pe_int (fun _ _ => rfl)))
      (pss_cons (ps_set (i := 8) sc_l_thrashes.nd rfl (by first | exact .inl rfl | exact .inr rfl) (pe_lst (pa_cons (pe_ix ix_tup (pv 3) pe_int (fun _ _ => rfl)) (pa_cons (pe_callTy call_list_of (by rfl) T.b_list (by decide +kernel) (pa_cons (pv 4) pa_nil)) pa_nil))))
      (pss_cons (ps_for PassesOwn.never rfl (pi_range1 rfl T.b_range (pa_cons (pe_op op_add pe_int (pe_call (ok_l_take T) (hr.mono (by decide)) (by rfl) T.l_take.g T.l_take.F.kp T.l_take.b .nil pass0 (pa_cons (pv 2) (pa_cons pe_int pa_nil)))) pa_nil)) (pg_name (i := 9) sc_l_thrashes.nd rfl (by first | exact .inl rfl | exact .inr rfl))
        (pss_cons (ps_set (i := 10) sc_l_thrashes.nd rfl (by first | exact .inl rfl | exact .inr rfl) pe_int)
      (pss_cons (ps_for PassesOwn.never rfl (pi_list (pe_ix ix_tup (pv 3) pe_int (fun _ _ => rfl))) (pg_name (i := 11) sc_l_thrashes.nd rfl (by first | exact .inl rfl | exact .inr rfl))
        (pss_cons (ps_set (i := 12) sc_l_thrashes.nd rfl (by first | exact .inl rfl | exact .inr rfl) (pe_meth (pv 7) T.Cache.cl T.c_request.m (ok_c_request T) (hr.mono (by decide)) T.c_request.b .nil pass0 (pa_cons (pv 11) pa_nil)))
      (pss_cons (ps_if (pt_not (pt_val (pe_call (ok_l_same T) (hr.mono (by decide)) (by rfl) T.l_same.g T.l_same.F.kp T.l_same.b .nil pass0 (pa_cons (pv 12) (pa_cons (pe_call (ok_l_served T) (hr.mono (by decide)) (by rfl) T.l_served.g T.l_served.F.kp T.l_served.b .nil pass0 (pa_cons (pv 0) (pa_cons (pv 8) (pa_cons (pv 11) pa_nil)))) pa_nil)))))
        (pss_one (ps_ret pe_bl))
        pss_nil)
      (pss_one (ps_set (i := 10) sc_l_thrashes.nd rfl (by first | exact .inl rfl | exact .inr rfl) (pe_op op_add (pv 10) (pe_callTy call_int1 (by rfl) T.b_int (by decide +kernel) (pa_cons (pe_cmpR op_eq (pe_ix ix_tup (pv 12) pe_int (fun _ _ => rfl)) pe_str (nomark _)) pa_nil))))))))
      (pss_cons (ps_if (PW.pt (pw_or (pt_cmpR op_ne (pv 10) pe_int (nomark _)) (pw_or1 (pt_not (pt_cmpR (op_ownCache T (hr.mono (by decide))) (pv 7) (pe_make T.c_init.M (ok_c_init T) (hr.mono (by decide)) (by rfl) T.Cache.g T.c_init.b .nil pass0 (pa_cons (pv 1) (pa_cons (pe_ix ix_tup (pv 3) pe_int (fun _ _ => rfl)) (pa_cons (pe_callTy call_list_of (by rfl) T.b_list (by decide +kernel) (pa_cons (pv 4) pa_nil)) pa_nil)))) (nomark _))))))
        (pss_one (ps_ret pe_bl))
        pss_nil)
      (pss_one (ps_if (PW.pt (pw_or (pt_not (pt_val (pe_call (ok_l_same T) (hr.mono (by decide)) (by rfl) T.l_same.g T.l_same.F.kp T.l_same.b .nil pass0 (pa_cons (pe_meth0 (pv 7) T.Cache.cl T.c_listed.m (ok_c_listed T) (hr.mono (by decide)) T.c_listed.b .nil pass0) (pa_cons (pv 4) pa_nil))))) (pw_or1 (pt_not (pt_val (pe_call (ok_l_same T) (hr.mono (by decide)) (by rfl) T.l_same.g T.l_same.F.kp T.l_same.b .nil pass0 (pa_cons (pe_fld (pv 7) rfl) (pa_cons (pe_ix ix_tup (pv 3) pe_int (fun _ _ => rfl)) pa_nil))))))))
        (pss_one (ps_ret pe_bl))
        pss_nil))))))
      (pss_cons (ps_expr (pe_meth (pv 7) T.Cache.cl T.c_request.m (ok_c_request T) (hr.mono (by decide)) T.c_request.b .nil pass0 (pa_cons (pe_op op_add_str pe_str (pe_callTy call_str_int (by rfl) T.b_str (by decide +kernel) (pa_cons (pe_call (ok_l_take T) (hr.mono (by decide)) (by rfl) T.l_take.g T.l_take.F.kp T.l_take.b .nil pass0 (pa_cons (pv 2) (pa_cons pe_int pa_nil))) pa_nil))) pa_nil)))
      (pss_cons (ps_expr (pe_bm PySem.F.plainAttrs_list PySem.F.slot_list_append PySem.F.type_list_append mt_append (pe_ix ix_tup (pv 6) pe_int (fun _ _ => rfl)) (pa_cons pe_str pa_nil)))
      (pss_one (ps_ret (pe_call (ok_l_example_right T) (hr.mono (by decide)) (by rfl) T.l_example_right.g T.l_example_right.F.kp T.l_example_right.b .nil pass0 (pa_cons (pv 0) (pa_cons (pv 1) (pa_cons (pe_call (ok_p_thrashing T) (hr.mono (by decide)) (by rfl) T.p_thrashing.g T.p_thrashing.F.kp T.p_thrashing.b .nil pass0 (pa_cons (pv 1) pa_nil)) (pa_cons (pv 3) (pa_cons (pv 4) pa_nil)))))))))))))))))), ?_⟩
    refine ⟨_, rfl, v, t, rfl, dp_mono wo_same hw, h64, fun H1 du k2 s1 hdu0 hk20 edu ek2 => ?_⟩
    have hw1 := dp_mono (wo_same.trans s1) hw
    have hB1 := hB.mono s1
    obtain ⟨a, b', c', xs, _, rfl, ha, hb', hxs, hc', _⟩ := world_open hw1
    refine ⟨_, rfl, a, _, 1, _, rfl, rfl, ha, rfl, (t.slots : Int), rfl, by omega, by omega, fun nm hnm => lc_map (walk_range (lo := 0) (n := t.slots)) _ yRng (fun i => .str (enm i)) (fun _ _ => trivial) hnm (by omega) (fun _ => rfl) ?_ ?_⟩
    · intro i H' Q' hi s' q'
      refine ⟨_, rfl, (i : Int), rfl, log2_small (by omega), _, _, rfl, rfl, ?_, ?_⟩
      · rw [dg_str, S_len]
        have := (dg_ok i (by omega)).1
        have e0 : ("e" : Str).length = 1 := by decide +kernel
        omega
      · rw [e_str]
        exact q' H' (Same.refl _)
    intro H2 s2 enmV
    have enm2 : H2 nm = some (.lst (t.thrE.map V.str)) := by
      rw [enmV]
      unfold Tr.thrE
      rw [List.map_map]
      rfl
    have hB2 := hB1.mono s2
    have edu2 := s2 _ _ edu
    have ek22 := s2 _ _ ek2
    have s12 := s1.trans s2
    have sS : Same (wo H b) (wo H2 b) := wo_of (wo_same.trans s12) wo_at
    have hbk2 : b ≠ k2 := box_ne hB hk20
    have hbnm : b ≠ nm := box_ne hB1 hnm
    have hdub : du ≠ b := fun z => by rw [z] at hdu0; exact box_at hB hdu0
    have T2 := hT.mono (wo_same.trans s12)
    have W2 := dp_mono (wo_same.trans s12) hw
    refine ⟨_, rfl, tr, t, rfl, T2, fun H3 td c cl k s3 hc0 hcl0 hk0 htd0 hkl etd hC ek => ?_⟩
    have hB3 := hB2.mono s3
    refine ⟨_, rfl, _, rfl, _, rfl, _, rfl, _, rfl, .ref a, tr, td, du, nm, c, cl, k, k2, t, rfl, dp_mono s3 W2, T2.mono s3, etd, hC, ek, s3 _ _ edu2, s3 _ _ ek22, s3 _ _ enm2, fun H4 s4 => ⟨true, rfl, ?_⟩⟩
    refine iteF ?_
    have s34 := s3.trans s4
    refine ⟨_, rfl, du, _, 1, _, rfl, rfl, sqT (s34 _ _ edu2), rfl, k2, t.thrA, rfl, sqL (s34 _ _ ek22), by omega, _, rfl, tr, t, rfl, T2.mono s34, fun H5 s5 => ⟨_, _, rfl, rfl, rfl, _, rfl, ?_⟩⟩
    rw [thrA_dist h64, show decide (V.int ((t.least + 2 : Nat) : Int) = V.int (((t.least + 1 : Nat) : Int) + 1)) = true from decide_eq_true rfl]
    refine iteF ?_
    have s35 := s34.trans s5
    have s45 := s4.trans s5
    -- what stands still
    have hctd : td ≠ c := ne_of etd (hC.ob.choose_spec.choose_spec.1) (by intro z; cases z)
    have hcltd : td ≠ cl := ne_of etd hC.li (by intro z; cases z)
    have hktd : td ≠ k := ne_of etd ek (by intro z; cases z)
    have hbtd : b ≠ td := box_ne hB2 htd0
    have hbc : b ≠ c := box_ne hB2 hc0
    have hbcl : b ≠ cl := box_ne hB2 hcl0
    have hbk : b ≠ k := box_ne hB2 hk0
    have hck : c ≠ k := ne_of (hC.ob.choose_spec.choose_spec.1) ek (by intro z; cases z)
    have tdf : wo H2 b td = none := wo_none htd0
    have fS : Same (wo H2 b) (upd (wo H2 b) td (.tup [.ref c, .ref k])) := same_new (Same.refl _) tdf
    have f3 : Same (upd (wo H2 b) td (.tup [.ref c, .ref k])) H5 := (same_upd (wo_same.trans s3) etd).trans s45
    have duf := fS du _ ((wo_ne hdub).trans edu2)
    have k2f := fS k2 _ ((wo_ne hbk2.symm).trans ek22)
    have nmf := fS nm _ ((wo_ne hbnm.symm).trans enm2)
    have tdf2 : (upd (wo H2 b) td (.tup [.ref c, .ref k])) td = some (.tup [.ref c, .ref k]) := upd_same
    have cf : (upd (wo H2 b) td (.tup [.ref c, .ref k])) c = none := by rw [upd_ne hctd.symm]; exact wo_none hc0
    have clf : (upd (wo H2 b) td (.tup [.ref c, .ref k])) cl = none := by rw [upd_ne hcltd.symm]; exact wo_none hcl0
    have kff : (upd (wo H2 b) td (.tup [.ref c, .ref k])) k = none := by rw [upd_ne hktd.symm]; exact wo_none hk0
    have bf : (upd (wo H2 b) td (.tup [.ref c, .ref k])) b = none := by rw [upd_ne hbtd]; exact wo_at
    have kf : Same (wo H b) (upd (wo H2 b) td (.tup [.ref c, .ref k])) := sS.trans fS
    generalize upd (wo H2 b) td (.tup [.ref c, .ref k]) = Hf at f3 duf k2f nmf tdf2 cf clf kff bf kf
    clear fS
    have hB5 := hB3.mono s45
    have ek5 := s45 _ _ ek
    have hC5 := hC.mono (fun o => s45 _ o) (fun o => s45 _ o)
    have f5 : Fzl [k, cl, c, b] Hf H5 := ⟨f3, fun x hx => by
      simp only [List.mem_cons, List.not_mem_nil, or_false] at hx
      rcases hx with rfl | rfl | rfl | rfl
      · exact kff
      · exact clf
      · exact cf
      · exact bf, fun x hx => by
      simp only [List.mem_cons, List.not_mem_nil, or_false] at hx
      rcases hx with rfl | rfl | rfl | rfl
      · exact some_ne ek5
      · exact some_ne hC5.li
      · obtain ⟨⟨_, _, h0, _⟩, _⟩ := hC5
        exact some_ne h0
      · exact box_at hB5⟩
    have hwf := dp_mono kf hw
    have hTf := hT.mono kf
    refine ⟨_, rfl, td, _, 0, _, rfl, rfl, sqT (f5.s _ _ tdf2), rfl, ?_⟩
    refine ⟨_, rfl, du, _, 0, _, rfl, rfl, sqT (f5.s _ _ duf), rfl, _, rfl, nm, _, rfl, .inl (sqL (f5.s _ _ nmf)), fun l1 hl1 => ⟨(by show 2 ≤ sizeLine; decide), fun m hm => ?_⟩⟩
    have n6 := same_new (Same.refl H5) hl1 (o := .lst (t.thrE.map V.str))
    have el1 : (upd H5 l1 (.lst (t.thrE.map V.str))) l1 = some (.lst (t.thrE.map V.str)) := upd_same
    have f6 := f5.go n6
    have hB6 := hB5.mono n6
    have ek6 := n6 _ _ ek5
    have hC6 := hC5.mono (fun o => n6 _ o) (fun o => n6 _ o)
    have hl1b : l1 ≠ b := (f5.ne (by simp) hl1).symm
    have hl1c : l1 ≠ c := (f5.ne (by simp) hl1).symm
    have hl1cl : l1 ≠ cl := (f5.ne (by simp) hl1).symm
    have hl1k : l1 ≠ k := (f5.ne (by simp) hl1).symm
    generalize upd H5 l1 (.lst (t.thrE.map V.str)) = H6 at f6 hB6 ek6 hC6 el1 hm ⊢
    have hmb : m ≠ b := (f6.ne (by simp) hm).symm
    have hmc : m ≠ c := (f6.ne (by simp) hm).symm
    have hmcl : m ≠ cl := (f6.ne (by simp) hm).symm
    have hmk : m ≠ k := (f6.ne (by simp) hm).symm
    have hl1m : l1 ≠ m := ne_of_none el1 hm
    have f7 := f6.add (.lst [.str (flagS t.thrF), .ref l1]) hm
    have n7 := same_new (Same.refl H6) hm (o := .lst [.str (flagS t.thrF), .ref l1])
    have em : (upd H6 m (.lst [.str (flagS t.thrF), .ref l1])) m = some (.lst [.str (flagS t.thrF), .ref l1]) := upd_same
    have st0 : StAt T Hf (upd H6 m (.lst [.str (flagS t.thrF), .ref l1])) b c cl m k tr t.thrF t.thrE t.thrF t.thrE (.lst (t.thrA.map V.str)) := by
      refine ⟨f7.of (fun a ha => by simp only [List.mem_cons, List.not_mem_nil, or_false] at ha; rcases ha with rfl | rfl | rfl | rfl | rfl <;> simp), ?_, hB6.mono n7, hC6.mono (fun o => n7 _ o) (fun o => n7 _ o), ⟨l1, ⟨em, n7 _ _ el1, hl1m⟩, ?_⟩, n7 _ _ ek6⟩
      · simp only [List.nodup_cons, List.mem_cons, List.not_mem_nil, or_false, not_or]
        exact ⟨⟨hbc, hbcl, hmb.symm, hbk⟩, ⟨hC.ne, hmc.symm, hck⟩, ⟨hmcl.symm, hkl.symm⟩, hmk, id, List.nodup_nil⟩
      · simp only [List.mem_cons, List.not_mem_nil, or_false, not_or]
        exact ⟨hl1b, hl1c, hl1cl, hl1m, hl1k⟩
    generalize upd H6 m (.lst [.str (flagS t.thrF), .ref l1]) = H7 at st0 ⊢
    clear f7 n7 em f6 hC6 ek6 hB6 hC5 ek5 hB5 f5
    refine ⟨_, rfl, b, 3, rfl, st0.hB, by decide, by decide, fun H8 r8 s8 hB8 hr8 => ⟨_, _, rfl, rfl, ((1 + r8 : Nat) : Int), congrArg (fun z => [V.int z]) (by omega), by omega, by omega, ?_⟩⟩
    have st1 := st0.box s8 hB8
    refine for_it (walk_range (lo := 0) (n := 1 + r8)) (fun i σ Hc => ∃ v9 v10 v11 v12 : Option V, σ = [some (.ref a), some (.ref tr), some (.ref b), some (.ref du), some (.ref nm), none, some (.ref td), some (.ref c), some (.ref m), v9, v10, v11, v12] ∧ StAt T Hf Hc b c cl m k tr t.thrF t.thrE t.thrF t.thrE (.lst (t.thrA.map V.str)))
      ⟨none, none, none, none, rfl, st1⟩ (fun _ _ _ _ _ => trivial) ?_ ?_
    · rintro i x σ Hc Hc' hi ⟨v9, v10, v11, v12, rfl, st⟩ hy
      obtain ⟨rfl, rfl⟩ := yRng i _ _ _ hi hy
      refine ⟨_, rfl, du, _, 1, _, rfl, rfl, sqT (st.fz.s _ _ duf), rfl, k2, rfl, ⟨_, sqL (st.fz.s _ _ k2f)⟩, for_list (K := K) (a := k2) (xs := t.thrA.map V.str) (fun j σ Hd => ∃ (F : List Bool) (es : List Str) (v11 v12 : Option V), (F, es) = rqs t (t.thrF, t.thrE) (t.thrA.take j) ∧ σ = [some (.ref a), some (.ref tr), some (.ref b), some (.ref du), some (.ref nm), none, some (.ref td), some (.ref c), some (.ref m), some (.int (i : Nat)), some (.int (lds t (t.thrF, t.thrE) (t.thrA.take j) : Nat)), v11, v12] ∧ StAt T Hf Hd b c cl m k tr F es F es (.lst (t.thrA.map V.str)))
        ⟨t.thrF, t.thrE, v11, v12, rfl, rfl, st⟩ (fun j σ Hd _ ⟨_, _, _, _, _, _, st⟩ => sqL (st.fz.s _ _ k2f)) ?_ ?_⟩
      · rintro j x σ Hd hx ⟨F, es, v11, v12, hfe, rfl, st⟩
        rw [List.getElem?_map] at hx
        cases ej : t.thrA[j]? with
        | none => rw [ej] at hx; cases hx
        | some e =>
          rw [ej] at hx
          cases hx
          have hent := thrA_ent h64 e (List.mem_of_getElem? ej)
          have hln := rqs_len t (t.thrA.take j) (t.thrF, t.thrE)
          rw [← hfe] at hln
          have hF : F.length = t.slots - 1 := hln.1.trans (Tr.thrF_len t)
          have hE : es.length = t.slots := hln.2.trans (Tr.thrE_len t)
          have estep : rqs t (t.thrF, t.thrE) (t.thrA.take (j + 1)) = (reqF t F es e, reqE t F es e) := by
            rw [List.take_add_one, ej]
            show rqs t (t.thrF, t.thrE) (t.thrA.take j ++ [e]) = _
            rw [rqs_app, ← hfe]
            rfl
          have lstep : lds t (t.thrF, t.thrE) (t.thrA.take (j + 1)) = lds t (t.thrF, t.thrE) (t.thrA.take j) + (if e ∈ es then 0 else 1) := by
            rw [List.take_add_one, ej]
            show lds t (t.thrF, t.thrE) (t.thrA.take j ++ [e]) = _
            rw [lds_app, ← hfe]
            rfl
          obtain ⟨⟨dx', fs, h0, h1, h2, h3, h4, h5, h6, h7⟩, hl⟩ := id st.hC
          have ncl := st.hC.ne
          have kH : Same (wo (wo Hd c) cl) Hd := wo_same.trans wo_same
          have kf2 : Same Hf (wo (wo Hd c) cl) := wo_of (wo_of st.fz.s (st.fz.free c (by simp))) (st.fz.free cl (by simp))
          refine ⟨_, rfl, c, dx', fs, rfl, h0, h6, _, rfl, wo (wo Hd c) cl, c, cl, tr, t, F, es, e, rfl, kH, wo_none wo_at, wo_at, hTf.mono kf2, st.hC, hF, hE, hent, fun H15 p s15 hp hC15 ep => ?_⟩
          have st2 := st.req s15 hC15
          obtain ⟨ml, hM, hnml⟩ := st2.hM
          have hpm : p ≠ m := fun z => by
            rw [z, hM.1] at ep
            cases ep
          have kf3 : Same Hf (wo H15 m) := wo_of st2.fz.s (st2.fz.free m (by simp))
          refine ⟨_, rfl, _, rfl, _, rfl, _, rfl, wo H15 m, .ref a, m, ml, t, F, es, e, rfl, wo_same, wo_at, dp_mono kf3 hwf, h64, hM, (wo_ne hM.2.2).trans hM.2.1, hF, hE, fun H16 p2 ml2 s16 hp2 hM16 ep2 hml2 => ?_⟩
          have st3 := st2.srv s16 hM hM16 hml2
          have ep16 := wo_keep s16 hpm ep
          refine .inr ⟨p, p2, _, rfl, .inr ⟨ep16, ep2⟩, atoms_ans _ _ _ _, ans_len _ _ _ _, fun H17 s17 => ⟨true, rfl, ?_⟩⟩
          refine iteF ?_
          have st4 := st3.go s17
          refine ⟨_, rfl, _, rfl, p, _, 0, _, rfl, rfl, sqT (s17 _ _ ep16), at_of (j := 0) rfl (ans_kind t F es e), rfl, .inr ⟨_, rfl, _, _, rfl, rfl, ?_⟩⟩
          rw [kind_load]
          refine ⟨_, _, some (.str e), some (.ref p), estep.symm, ?_, st4⟩
          rw [lstep]
          by_cases hin : e ∈ es
          · rw [decide_eq_true hin, if_pos hin]
            rfl
          · rw [decide_eq_false hin, if_neg hin]
            rfl
      · rintro σ Hd ⟨F, es, v11, v12, hfe, rfl, st⟩
        rw [List.length_map, List.take_length] at hfe
        have hrd := round h64
        rw [hrd.1] at hfe
        cases hfe
        rw [List.length_map, List.take_length, hrd.2]
        obtain ⟨⟨dx', fs, h0, h1, h2, h3, h4, h5, h6, h7⟩, hl⟩ := id st.hC
        refine ⟨_, rfl, rfl, _, rfl, ?_⟩
        refine iteF ?_
        refine ⟨_, rfl, _, rfl, _, rfl, du, _, 0, _, rfl, rfl, sqT (st.fz.s _ _ duf), rfl, _, rfl, nm, _, rfl, .inl (sqL (st.fz.s _ _ nmf)), fun p6 hp6 => fun x dx6 hx hdx hne => ?_⟩
        have n6 := same_new (Same.refl Hd) hp6 (o := .lst (t.thrE.map V.str))
        have e6 : (upd Hd p6 (.lst (t.thrE.map V.str))) p6 = some (.lst (t.thrE.map V.str)) := upd_same
        generalize upd Hd p6 (.lst (t.thrE.map V.str)) = He at n6 e6 hx hdx ⊢
        have kx : Same He (upd (upd He dx6 (.own x)) x (.ins T.Cache.C dx6 [])) := same_put (same_new (Same.refl He) hdx) hx
        have st6 := st.go n6
        refine ⟨He, x, dx6, tr, p6, t, t.thrF, t.thrE, rfl, kx, hx, upd_same, hTf.mono st6.fz.s, Tr.thrF_len t, e6, Tr.thrE_len t, Tr.thrE_nodup t h64, Tr.thrE_ent t h64, fun Hg cl7 s7 hcl7 hC7 => ⟨rfl, ?_⟩⟩
        have st7 := st6.go s7
        obtain ⟨⟨dx7, fs7, h07, _⟩, _⟩ := id hC7
        refine ⟨⟨c, x, dx', dx7, fs, fs7, rfl, rfl, s7 _ _ (n6 _ _ h0), h07, cl, cl7, tr, tr, t, t.thrF, t.thrE, st7.hC, hC7, hTf.mono st7.fz.s, hTf.mono st7.fz.s, Tr.thrE_ent t h64⟩, fun Hh s8 => ⟨_, rfl, ?_⟩⟩
        refine iteF ?_
        have st8 := st7.go s8
        have s08 := n6.trans (s7.trans s8)
        refine ⟨_, rfl, c, dx', fs, rfl, s08 _ _ h0, h4, c, cl, tr, t.thrF, t.thrE, rfl, st8.hC, fun Hi p9 s9 hp9 ep9 => ?_⟩
        have st9 := st8.go s9
        refine ⟨_, rfl, .inr ⟨p9, nm, _, rfl, .inl ⟨ep9, st9.fz.s _ _ nmf⟩, atoms_strs _, by rw [List.length_map, Tr.thrE_len]; omega, fun Hj s10 => ⟨true, rfl, ?_⟩⟩⟩
        refine iteF ?_
        have st10 := st9.go s10
        have s010 := s08.trans (s9.trans s10)
        refine ⟨_, rfl, c, _, dx', fs, _, rfl, s010 _ _ h0, T.Cache.cl, T.nC_flags, h2, _, rfl, du, _, 0, _, rfl, rfl, sqT (st10.fz.s _ _ duf), rfl, .inl ⟨_, rfl, .inr (.inr ⟨_, rfl⟩), fun Hk s11 => ⟨true, rfl, ?_⟩⟩⟩
        refine iteF ?_
        exact ⟨_, _, _, _, rfl, st10.go s11⟩
    · rintro σ Hc ⟨v9, v10, v11, v12, rfl, st⟩
      obtain ⟨⟨dx', fs, h0, h1, h2, h3, h4, h5, h6, h7⟩, hl⟩ := id st.hC
      refine ⟨_, rfl, c, dx', fs, rfl, h0, h6, _, rfl, b, 1000, rfl, st.hB, by decide, by decide, fun Hd r9 s9 hB9 hr9 => ?_⟩
      have st2 := st.box s9 hB9
      refine ⟨(r9 : Int), rfl, log2_small (by omega), _, _, rfl, rfl, ?_, ?_⟩
      · rw [dg_str, S_len]
        have := (dg_ok r9 (by omega)).1
        have e0 : ("y" : Str).length = 1 := by decide +kernel
        omega
      rw [yn_str]
      have kH : Same (wo (wo Hd c) cl) Hd := wo_same.trans wo_same
      have kf2 : Same Hf (wo (wo Hd c) cl) := wo_of (wo_of st2.fz.s (st2.fz.free c (by simp))) (st2.fz.free cl (by simp))
      refine ⟨wo (wo Hd c) cl, c, cl, tr, t, t.thrF, t.thrE, _, rfl, kH, wo_none wo_at, wo_at, hTf.mono kf2, st2.hC, Tr.thrF_len t, Tr.thrE_len t, yn_ent (by omega), fun He p s15 hp hC15 ep => ?_⟩
      have st3 := st2.req s15 hC15
      refine ⟨_, rfl, td, _, 1, _, rfl, rfl, sqT (st3.fz.s _ _ tdf2), rfl, .inl ⟨rfl, _, sqL st3.hk⟩, k, _, _, rfl, rfl, st3.hk, by rw [List.length_map]; omega, ?_⟩
      have st4 := st3.putk (.lst (t.thrA.map V.str ++ [.str "x"]))
      generalize upd He k (.lst (t.thrA.map V.str ++ [.str "x"])) = Hg at st4 ⊢
      refine ⟨_, rfl, _, rfl, _, rfl, tr, t, rfl, hTf.mono st4.fz.s, fun Hh td2 c2 cl2 k3 s16 hc20 hcl20 hk30 htd20 hkl2 etd2 hC2 ek3 => ?_⟩
      have st5 := st4.go s16
      refine ⟨_, rfl, _, rfl, .ref a, tr, td2, du, nm, c2, cl2, k3, k2, t, rfl, dp_mono st5.fz.s hwf, hTf.mono st5.fz.s, etd2, hC2, ek3, st5.fz.s _ _ duf, st5.fz.s _ _ k2f, st5.fz.s _ _ nmf, fun Hi s17 => q Hi (kf.trans (st5.fz.s.trans s17)) (st5.hB.mono s17)⟩
end
end Ls
/-! The law. -/
namespace Ls
open PySem PySem.Spec PyProof.Rows L2
theorem most_at : ∀ r, r < 3 → ∃ most : Nat, [V.int 8, V.int 8, V.int 64][r]? = some (.int (most : Nat)) ∧ 1 ≤ most ∧ most ≤ 64
  | 0, _ => ⟨8, rfl, by decide, by decide⟩
  | 1, _ => ⟨8, rfl, by decide, by decide⟩
  | 2, _ => ⟨64, rfl, by decide, by decide⟩
section
variable {P : Program} {w : World} {K : PySem.W.Frag} {mg : Str → Option Value} {base : Heap}
def spLaw (K : PySem.W.Frag) : Sp := fun vs H Q _ => ∃ (a : Addr) (ns : List Int), vs = [.ref a] ∧ SqL K H a (ns.map V.int) ∧ ns.length ≤ 63 ∧ ∀ H', Q (.bl true) H'
theorem ok_law (T : TX K mg) : FnOk P w K mg base CX0 9 T.law.f T.law.fd ["_law_script"] (spLaw K) := by
  refine T.law.F.ok sc_law (fun vs H Q E h => ?_) (fun cdv A outer s H vs Q E hr h => ?_)
  · obtain ⟨a, ns, rfl, _⟩ := h
    rfl
  · obtain ⟨sc, ns, rfl, hs, hns, q⟩ := h
    refine ⟨_, (pss_cons (ps_set (i := 1) sc_law.nd rfl (by first | exact .inl rfl | exact .inr rfl) (pe_call (ok_l_box T) (hr.mono (by decide)) (by rfl) T.l_box.g T.l_box.F.kp T.l_box.b .nil pass0 (pa_cons (pv 0) (pa_cons pe_int pa_nil))))
      (pss_cons (ps_set (i := 2) sc_law.nd rfl (by first | exact .inl rfl | exact .inr rfl) (pe_call (ok_l_world T) (hr.mono (by decide)) (by rfl) T.l_world.g T.l_world.F.kp T.l_world.b .nil pass0 (pa_cons (pv 1) (pa_cons (pe_ix ix_list (pe_lst (pa_cons pe_int (pa_cons pe_int (pa_cons pe_int pa_nil)))) (pe_call (ok_l_take T) (hr.mono (by decide)) (by rfl) T.l_take.g T.l_take.F.kp T.l_take.b .nil pass0 (pa_cons (pv 1) (pa_cons pe_int pa_nil))) (fun _ _ => rfl)) pa_nil))))
      (pss_cons (ps_set (i := 3) sc_law.nd rfl (by first | exact .inl rfl | exact .inr rfl) (pe_make T.t_init.M (ok_t_init T) (hr.mono (by decide)) (by rfl) T.Tree.g T.t_init.b .nil pass0 (pa_cons (pe_ix ix_tup (pv 2) pe_int (fun _ _ => rfl)) pa_nil)))
      (pss_cons (ps_if (pt_not (pt_val (pe_call (ok_l_same T) (hr.mono (by decide)) (by rfl) T.l_same.g T.l_same.F.kp T.l_same.b .nil pass0 (pa_cons (pe_call (ok_p_settling_size T) (hr.mono (by decide)) (by rfl) T.p_settling_size.g T.p_settling_size.F.kp T.p_settling_size.b .nil pass0 (pa_cons (pv 3) pa_nil)) (pa_cons (pe_op op_add (pe_call (ok_l_least T) (hr.mono (by decide)) (by rfl) T.l_least.g T.l_least.F.kp T.l_least.b .nil pass0 (pa_cons (pv 2) pa_nil)) pe_int) pa_nil)))))
        (pss_one (ps_ret pe_bl))
        pss_nil)
      (pss_cons (ps_if (pt_not (pt_val (pe_call (ok_l_settles T) (hr.mono (by decide)) (by rfl) T.l_settles.g T.l_settles.F.kp T.l_settles.b .nil pass0 (pa_cons (pv 2) (pa_cons (pv 3) (pa_cons (pe_call (ok_l_box T) (hr.mono (by decide)) (by rfl) T.l_box.g T.l_box.F.kp T.l_box.b .nil pass0 (pa_cons (pv 0) (pa_cons pe_int pa_nil))) pa_nil))))))
        (pss_one (ps_ret pe_bl))
        pss_nil)
      (pss_cons (ps_if (pt_not (pt_val (pe_call (ok_l_settles T) (hr.mono (by decide)) (by rfl) T.l_settles.g T.l_settles.F.kp T.l_settles.b .nil pass0 (pa_cons (pv 2) (pa_cons (pv 3) (pa_cons (pe_call (ok_l_box T) (hr.mono (by decide)) (by rfl) T.l_box.g T.l_box.F.kp T.l_box.b .nil pass0 (pa_cons (pv 0) (pa_cons pe_int pa_nil))) pa_nil))))))
        (pss_one (ps_ret pe_bl))
        pss_nil)
      (pss_cons (ps_if (pt_not (pt_val (pe_call (ok_l_thrashes T) (hr.mono (by decide)) (by rfl) T.l_thrashes.g T.l_thrashes.F.kp T.l_thrashes.b .nil pass0 (pa_cons (pv 2) (pa_cons (pv 3) (pa_cons (pe_call (ok_l_box T) (hr.mono (by decide)) (by rfl) T.l_box.g T.l_box.F.kp T.l_box.b .nil pass0 (pa_cons (pv 0) (pa_cons pe_int pa_nil))) pa_nil))))))
        (pss_one (ps_ret pe_bl))
        pss_nil)
      (pss_one (ps_ret (pe_call (ok_l_same T) (hr.mono (by decide)) (by rfl) T.l_same.g T.l_same.F.kp T.l_same.b .nil pass0 (pa_cons (pe_call (ok_p_settling_size T) (hr.mono (by decide)) (by rfl) T.p_settling_size.g T.p_settling_size.F.kp T.p_settling_size.b .nil pass0 (pa_cons (pv 3) pa_nil)) (pa_cons (pe_op op_add (pe_call (ok_l_least T) (hr.mono (by decide)) (by rfl) T.l_least.g T.l_least.F.kp T.l_least.b .nil pass0 (pa_cons (pv 2) pa_nil)) pe_int) pa_nil)))))))))))), ?_⟩
    refine ⟨_, rfl, sc, ns, 0, rfl, hs, by decide, fun H1 b s1 hb0 hB1 => ?_⟩
    refine ⟨_, rfl, (by show 3 ≤ sizeLine; decide), fun l hl => ?_⟩
    have n2 := same_new (Same.refl H1) hl (o := .lst [.int 8, .int 8, .int 64])
    have el : (upd H1 l (.lst [.int 8, .int 8, .int 64])) l = some (.lst [.int 8, .int 8, .int 64]) := upd_same
    have hbl := box_ne hB1 hl
    have hB2 := hB1.mono n2
    have k2 : Same H (wo (upd H1 l (.lst [.int 8, .int 8, .int 64])) b) := wo_of (s1.trans n2) hb0
    generalize upd H1 l (.lst [.int 8, .int 8, .int 64]) = H2 at n2 el hB2 k2 ⊢
    refine ⟨_, rfl, b, 3, rfl, hB2, by decide, by decide, fun H3 r s3 hB3 hr3 => ?_⟩
    obtain ⟨most, em, hm1, hm2⟩ := most_at r hr3
    refine ⟨l, _, _, _, rfl, rfl, sqL (wo_keep s3 hbl.symm el), at_of rfl em, ?_⟩
    refine ⟨b, most, rfl, hB3, hm1, hm2, fun H4 wv t s4 hB4 dw h64 => ?_⟩
    have k4 : Same H H4 := (wo_of (k2.trans s3) hb0).trans s4
    have dw4 := dp_mono wo_same dw
    obtain ⟨a, b', c', xs, _, rfl, ha, hb', hxs, hc', _⟩ := world_open dw4
    refine ⟨_, rfl, a, _, 0, _, rfl, rfl, ha, rfl, fun tr dx hx hdx hne => ?_⟩
    have kx : Same H4 (upd (upd H4 dx (.own tr)) tr (.ins T.Tree.C dx [])) := same_put (same_new (Same.refl H4) hdx) hx
    refine ⟨H4, tr, dx, t, rfl, kx, hx, upd_same, h64, fun H5 s5 hT => ⟨rfl, ?_⟩⟩
    have dw5 := dp_mono s5 dw4
    have hs5 := (k4.trans s5).seq hs
    refine ⟨_, rfl, tr, t, rfl, hT, fun H6 s6 => ⟨_, rfl, .ref a, t, rfl, dp_mono s6 dw5, h64, fun H7 s7 => ⟨_, _, rfl, rfl, .inl ⟨.int ((t.least + 1 : Nat) : Int), rfl, .inr (.inl ⟨_, rfl⟩), fun H8 s8 => ⟨true, rfl, ?_⟩⟩⟩⟩⟩
    refine iteF ?_
    have s58 := s6.trans (s7.trans s8)
    refine ⟨_, rfl, _, rfl, _, rfl, sc, ns, 1, rfl, s58.seq hs5, by decide, fun H9 b1 s9 hb1 hB9 => ⟨.ref a, tr, b1, t, rfl, hB9, dp_mono (wo_of s9 hb1) (dp_mono s58 dw5), (hT.mono s58).mono (wo_of s9 hb1), fun H10 s10 hB10 => ⟨true, rfl, ?_⟩⟩⟩
    refine iteF ?_
    have s510 := s58.trans ((wo_of s9 hb1).trans s10)
    refine ⟨_, rfl, _, rfl, _, rfl, sc, ns, 2, rfl, s510.seq hs5, by decide, fun H11 b2 s11 hb2 hB11 => ⟨.ref a, tr, b2, t, rfl, hB11, dp_mono (wo_of s11 hb2) (dp_mono s510 dw5), (hT.mono s510).mono (wo_of s11 hb2), fun H12 s12 hB12 => ⟨true, rfl, ?_⟩⟩⟩
    refine iteF ?_
    have s512 := s510.trans ((wo_of s11 hb2).trans s12)
    refine ⟨_, rfl, _, rfl, _, rfl, sc, ns, 3, rfl, s512.seq hs5, by decide, fun H13 b3 s13 hb3 hB13 => ⟨.ref a, tr, b3, t, rfl, hB13, dp_mono (wo_of s13 hb3) (dp_mono s512 dw5), (hT.mono s512).mono (wo_of s13 hb3), fun H14 s14 hB14 => ⟨true, rfl, ?_⟩⟩⟩
    refine iteF ?_
    have s514 := s512.trans ((wo_of s13 hb3).trans s14)
    exact ⟨_, rfl, tr, t, rfl, hT.mono s514, fun H15 s15 => ⟨_, rfl, .ref a, t, rfl, dp_mono (s514.trans s15) dw5, h64, fun H16 s16 => ⟨_, _, rfl, rfl, .inl ⟨.int ((t.least + 1 : Nat) : Int), rfl, .inr (.inl ⟨_, rfl⟩), fun H17 s17 => q H17⟩⟩⟩⟩
end
end Ls
namespace Ls
open PySem PySem.Spec PyProof.Rows L2
theorem kit_self {K : PySem.W.Frag} {a : Addr} : PySem.W.kitOne K (.ref a) (.ref a) = some true := by
  unfold PySem.W.kitOne
  rw [if_pos (by first | exact beq_self_eq_true _ | simp)]
theorem mk_TX {K : PySem.W.Frag} {h : Heap} {mg : Str → Option Value} (X : K.In h) (G : h.Ns mainGlobals mg) {CCache CTree f1 f2 f3 f4 f5 f6 f7 f8 f9 f10 p10 f11 f12 f13 f14 f15 f16 f17 f18 f19 f20 f21 f22 f23 f24 f25 p25 f26 p26 f27 f28 f29 f30 f31 f32 f33 f34 f35 f36 f37 f38 f39 f40 f41 f42 f43 f44 : Addr}
    {tENTRY_SIGNS : Tok}
    {tLONGEST_ENTRY : Tok}
    {tM : Tok}
    {oc1 kV1 dc1 pm1 cd1 ct1 : Value} {od1 an1 : Option Addr} {sl1 : Array (Option Value)}
    {oc2 kV2 dc2 pm2 cd2 ct2 : Value} {od2 an2 : Option Addr} {sl2 : Array (Option Value)}
    {oc3 kV3 dc3 pm3 cd3 ct3 : Value} {od3 an3 : Option Addr} {sl3 : Array (Option Value)}
    {oc4 kV4 dc4 pm4 cd4 ct4 : Value} {od4 an4 : Option Addr} {sl4 : Array (Option Value)}
    {oc5 kV5 dc5 pm5 cd5 ct5 : Value} {od5 an5 : Option Addr} {sl5 : Array (Option Value)}
    {oc6 kV6 dc6 pm6 cd6 ct6 : Value} {od6 an6 : Option Addr} {sl6 : Array (Option Value)}
    {oc7 kV7 dc7 pm7 cd7 ct7 : Value} {od7 an7 : Option Addr} {sl7 : Array (Option Value)}
    {oc8 kV8 dc8 pm8 cd8 ct8 : Value} {od8 an8 : Option Addr} {sl8 : Array (Option Value)}
    {oc9 kV9 dc9 pm9 cd9 ct9 : Value} {od9 an9 : Option Addr} {sl9 : Array (Option Value)}
    {rest10 : List Value}
    {oc10 kV10 dc10 pm10 cd10 ct10 : Value} {od10 an10 : Option Addr} {sl10 : Array (Option Value)}
    {oc11 kV11 dc11 pm11 cd11 ct11 : Value} {od11 an11 : Option Addr} {sl11 : Array (Option Value)}
    {oc12 kV12 dc12 pm12 cd12 ct12 : Value} {od12 an12 : Option Addr} {sl12 : Array (Option Value)}
    {oc13 kV13 dc13 pm13 cd13 ct13 : Value} {od13 an13 : Option Addr} {sl13 : Array (Option Value)}
    {oc14 kV14 dc14 pm14 cd14 ct14 : Value} {od14 an14 : Option Addr} {sl14 : Array (Option Value)}
    {oc15 kV15 dc15 pm15 cd15 ct15 : Value} {od15 an15 : Option Addr} {sl15 : Array (Option Value)}
    {oc16 kV16 dc16 pm16 cd16 ct16 : Value} {od16 an16 : Option Addr} {sl16 : Array (Option Value)}
    {oc17 kV17 dc17 pm17 cd17 ct17 : Value} {od17 an17 : Option Addr} {sl17 : Array (Option Value)}
    {oc18 kV18 dc18 pm18 cd18 ct18 : Value} {od18 an18 : Option Addr} {sl18 : Array (Option Value)}
    {oc19 kV19 dc19 pm19 cd19 ct19 : Value} {od19 an19 : Option Addr} {sl19 : Array (Option Value)}
    {oc20 kV20 dc20 pm20 cd20 ct20 : Value} {od20 an20 : Option Addr} {sl20 : Array (Option Value)}
    {oc21 kV21 dc21 pm21 cd21 ct21 : Value} {od21 an21 : Option Addr} {sl21 : Array (Option Value)}
    {oc22 kV22 dc22 pm22 cd22 ct22 : Value} {od22 an22 : Option Addr} {sl22 : Array (Option Value)}
    {oc23 kV23 dc23 pm23 cd23 ct23 : Value} {od23 an23 : Option Addr} {sl23 : Array (Option Value)}
    {oc24 kV24 dc24 pm24 cd24 ct24 : Value} {od24 an24 : Option Addr} {sl24 : Array (Option Value)}
    {rest25 : List Value}
    {oc25 kV25 dc25 pm25 cd25 ct25 : Value} {od25 an25 : Option Addr} {sl25 : Array (Option Value)}
    {rest26 : List Value}
    {oc26 kV26 dc26 pm26 cd26 ct26 : Value} {od26 an26 : Option Addr} {sl26 : Array (Option Value)}
    {oc27 kV27 dc27 pm27 cd27 ct27 : Value} {od27 an27 : Option Addr} {sl27 : Array (Option Value)}
    {oc28 kV28 dc28 pm28 cd28 ct28 : Value} {od28 an28 : Option Addr} {sl28 : Array (Option Value)}
    {oc29 kV29 dc29 pm29 cd29 ct29 : Value} {od29 an29 : Option Addr} {sl29 : Array (Option Value)}
    {oc30 kV30 dc30 pm30 cd30 ct30 : Value} {od30 an30 : Option Addr} {sl30 : Array (Option Value)}
    {oc31 kV31 dc31 pm31 cd31 ct31 : Value} {od31 an31 : Option Addr} {sl31 : Array (Option Value)}
    {oc32 kV32 dc32 pm32 cd32 ct32 : Value} {od32 an32 : Option Addr} {sl32 : Array (Option Value)}
    {oc33 kV33 dc33 pm33 cd33 ct33 : Value} {od33 an33 : Option Addr} {sl33 : Array (Option Value)}
    {oc34 kV34 dc34 pm34 cd34 ct34 : Value} {od34 an34 : Option Addr} {sl34 : Array (Option Value)}
    {oc35 kV35 dc35 pm35 cd35 ct35 : Value} {od35 an35 : Option Addr} {sl35 : Array (Option Value)}
    {oc36 kV36 dc36 pm36 cd36 ct36 : Value} {od36 an36 : Option Addr} {sl36 : Array (Option Value)}
    {oc37 kV37 dc37 pm37 cd37 ct37 : Value} {od37 an37 : Option Addr} {sl37 : Array (Option Value)}
    {oc38 kV38 dc38 pm38 cd38 ct38 : Value} {od38 an38 : Option Addr} {sl38 : Array (Option Value)}
    {oc39 kV39 dc39 pm39 cd39 ct39 : Value} {od39 an39 : Option Addr} {sl39 : Array (Option Value)}
    {oc40 kV40 dc40 pm40 cd40 ct40 : Value} {od40 an40 : Option Addr} {sl40 : Array (Option Value)}
    {oc41 kV41 dc41 pm41 cd41 ct41 : Value} {od41 an41 : Option Addr} {sl41 : Array (Option Value)}
    {oc42 kV42 dc42 pm42 cd42 ct42 : Value} {od42 an42 : Option Addr} {sl42 : Array (Option Value)}
    {oc43 kV43 dc43 pm43 cd43 ct43 : Value} {od43 an43 : Option Addr} {sl43 : Array (Option Value)}
    {oc44 kV44 dc44 pm44 cd44 ct44 : Value} {od44 an44 : Option Addr} {sl44 : Array (Option Value)}
    (gCCache : PySem.W.nsIn K mainGlobals "Cache" = some (some (.ref CCache)))
    (pgCCache : PySem.W.plainGet K CCache Str.empty = true)
    (hdCCache : PySem.W.hasDictIn K CCache = true)
    (poCCache : PySem.W.plainOver K CCache = true)
    (saCCache : PySem.W.findIn K (.ref CCache) "__setattr__" = some (some (.builtin "object.__setattr__")))
    (caCCache : PySem.W.findIn K (.ref CCache) "__class__" = some (some (.builtin "object.__class__")))
    (cmCCache : PySem.W.mroIn K CCache (.type "object") = some true)
    (mkCCache : PySem.W.makesIn K CCache = true)
    (kcCCache : PySem.W.keepIn K (.ref CCache) = true)
    (gCTree : PySem.W.nsIn K mainGlobals "Tree" = some (some (.ref CTree)))
    (pgCTree : PySem.W.plainGet K CTree Str.empty = true)
    (hdCTree : PySem.W.hasDictIn K CTree = true)
    (poCTree : PySem.W.plainOver K CTree = true)
    (saCTree : PySem.W.findIn K (.ref CTree) "__setattr__" = some (some (.builtin "object.__setattr__")))
    (caCTree : PySem.W.findIn K (.ref CTree) "__class__" = some (some (.builtin "object.__class__")))
    (cmCTree : PySem.W.mroIn K CTree (.type "object") = some true)
    (mkCTree : PySem.W.makesIn K CTree = true)
    (kcCTree : PySem.W.keepIn K (.ref CTree) = true)
    (zb_len : PySem.W.nsIn K mainGlobals "len" = some none)
    (zb_sum : PySem.W.nsIn K mainGlobals "sum" = some none)
    (zb_min : PySem.W.nsIn K mainGlobals "min" = some none)
    (zb_max : PySem.W.nsIn K mainGlobals "max" = some none)
    (zb_all : PySem.W.nsIn K mainGlobals "all" = some none)
    (zb_sorted : PySem.W.nsIn K mainGlobals "sorted" = some none)
    (zb_isinstance : PySem.W.nsIn K mainGlobals "isinstance" = some none)
    (zb_int : PySem.W.nsIn K mainGlobals "int" = some none)
    (zb_str : PySem.W.nsIn K mainGlobals "str" = some none)
    (zb_list : PySem.W.nsIn K mainGlobals "list" = some none)
    (zb_tuple : PySem.W.nsIn K mainGlobals "tuple" = some none)
    (zb_bool : PySem.W.nsIn K mainGlobals "bool" = some none)
    (zb_range : PySem.W.nsIn K mainGlobals "range" = some none)
    (zb_enumerate : PySem.W.nsIn K mainGlobals "enumerate" = some none)
    (zb_set : PySem.W.nsIn K mainGlobals "set" = some none)
    (vENTRY_SIGNS : PySem.W.nsIn K mainGlobals "ENTRY_SIGNS" = some (some (.str "abcdefghijklmnopqrstuvwxyz0123456789" tENTRY_SIGNS)))
    (vLONGEST_ENTRY : PySem.W.nsIn K mainGlobals "LONGEST_ENTRY" = some (some (.int 12 tLONGEST_ENTRY)))
    (hcn : PySem.W.specialIn K (.builtin "object.__class__") "__get__" = some (some (.builtin "getset_descriptor.__get__")))
    (hct : PySem.W.takesIn K (.builtin "object.__class__") = some true)
    (hnT_text : PySem.W.findIn K (.ref CTree) "text" = some none)
    (hnT_lefts : PySem.W.findIn K (.ref CTree) "lefts" = some none)
    (hnT_rights : PySem.W.findIn K (.ref CTree) "rights" = some none)
    (hnT_spans : PySem.W.findIn K (.ref CTree) "spans" = some none)
    (hnT_bounds : PySem.W.findIn K (.ref CTree) "bounds" = some none)
    (hnT_postorder : PySem.W.findIn K (.ref CTree) "postorder" = some none)
    (hnT_root : PySem.W.findIn K (.ref CTree) "root" = some none)
    (hnT_preorder : PySem.W.findIn K (.ref CTree) "preorder" = some none)
    (hnT_ways : PySem.W.findIn K (.ref CTree) "ways" = some none)
    (hnC_tree : PySem.W.findIn K (.ref CCache) "tree" = some none)
    (hnC_flags : PySem.W.findIn K (.ref CCache) "flags" = some none)
    (hnC_contents : PySem.W.findIn K (.ref CCache) "contents" = some none)
    (hmost : PySem.W.findIn K (.ref CTree) "MOST" = some (some (.int 64 tM)))
    (hmostg : PySem.W.specialIn K (.int 64 tM) "__get__" = some none)
    (a1 : PySem.W.nsIn K mainGlobals "is_made_of" = some (some (.ref f1)))
    (l1 : K.lookup f1 = some ⟨oc1, od1, .func (PySem.W.fnOf "is_made_of" "is_made_of" (defArgs s_p_is_made_of) (defBody s_p_is_made_of) (defScope s_p_is_made_of) .none kV1 dc1 pm1 an1 cd1 ct1), sl1⟩)
    (c1 : PySem.W.codeIn K cd1 "is_made_of" = true)
    (k1 : PySem.W.keepIn K (.ref f1) = true)
    (a2 : PySem.W.nsIn K mainGlobals "is_entry" = some (some (.ref f2)))
    (l2 : K.lookup f2 = some ⟨oc2, od2, .func (PySem.W.fnOf "is_entry" "is_entry" (defArgs s_p_is_entry) (defBody s_p_is_entry) (defScope s_p_is_entry) .none kV2 dc2 pm2 an2 cd2 ct2), sl2⟩)
    (c2 : PySem.W.codeIn K cd2 "is_entry" = true)
    (k2 : PySem.W.keepIn K (.ref f2) = true)
    (a3 : PySem.W.nsIn K mainGlobals "checked_flags" = some (some (.ref f3)))
    (l3 : K.lookup f3 = some ⟨oc3, od3, .func (PySem.W.fnOf "checked_flags" "checked_flags" (defArgs s_p_checked_flags) (defBody s_p_checked_flags) (defScope s_p_checked_flags) .none kV3 dc3 pm3 an3 cd3 ct3), sl3⟩)
    (c3 : PySem.W.codeIn K cd3 "checked_flags" = true)
    (k3 : PySem.W.keepIn K (.ref f3) = true)
    (a4 : PySem.W.nsIn K mainGlobals "checked_entry" = some (some (.ref f4)))
    (l4 : K.lookup f4 = some ⟨oc4, od4, .func (PySem.W.fnOf "checked_entry" "checked_entry" (defArgs s_p_checked_entry) (defBody s_p_checked_entry) (defScope s_p_checked_entry) .none kV4 dc4 pm4 an4 cd4 ct4), sl4⟩)
    (c4 : PySem.W.codeIn K cd4 "checked_entry" = true)
    (k4 : PySem.W.keepIn K (.ref f4) = true)
    (a5 : PySem.W.nsIn K mainGlobals "checked_entries" = some (some (.ref f5)))
    (l5 : K.lookup f5 = some ⟨oc5, od5, .func (PySem.W.fnOf "checked_entries" "checked_entries" (defArgs s_p_checked_entries) (defBody s_p_checked_entries) (defScope s_p_checked_entries) .none kV5 dc5 pm5 an5 cd5 ct5), sl5⟩)
    (c5 : PySem.W.codeIn K cd5 "checked_entries" = true)
    (k5 : PySem.W.keepIn K (.ref f5) = true)
    (a6 : PySem.W.nsIn K mainGlobals "turned" = some (some (.ref f6)))
    (l6 : K.lookup f6 = some ⟨oc6, od6, .func (PySem.W.fnOf "turned" "turned" (defArgs s_p_turned) (defBody s_p_turned) (defScope s_p_turned) .none kV6 dc6 pm6 an6 cd6 ct6), sl6⟩)
    (c6 : PySem.W.codeIn K cd6 "turned" = true)
    (k6 : PySem.W.keepIn K (.ref f6) = true)
    (a7 : PySem.W.nsIn K mainGlobals "found_victim" = some (some (.ref f7)))
    (l7 : K.lookup f7 = some ⟨oc7, od7, .func (PySem.W.fnOf "found_victim" "found_victim" (defArgs s_p_found_victim) (defBody s_p_found_victim) (defScope s_p_found_victim) .none kV7 dc7 pm7 an7 cd7 ct7), sl7⟩)
    (c7 : PySem.W.codeIn K cd7 "found_victim" = true)
    (k7 : PySem.W.keepIn K (.ref f7) = true)
    (a8 : PySem.W.findIn K (.ref CCache) "__init__" = some (some (.ref f8)))
    (i8 : PySem.W.isFn K (.ref f8) = true)
    (l8 : K.lookup f8 = some ⟨oc8, od8, .func (PySem.W.fnOf "__init__" "Cache.__init__" (defArgs s_c_init) (defBody s_c_init) (defScope s_c_init) .none kV8 dc8 pm8 an8 cd8 ct8), sl8⟩)
    (c8 : PySem.W.codeIn K cd8 "Cache.__init__" = true)
    (k8 : PySem.W.keepIn K (.ref f8) = true)
    (a9 : PySem.W.findIn K (.ref CCache) "__eq__" = some (some (.ref f9)))
    (i9 : PySem.W.isFn K (.ref f9) = true)
    (l9 : K.lookup f9 = some ⟨oc9, od9, .func (PySem.W.fnOf "__eq__" "Cache.__eq__" (defArgs s_c_eq) (defBody s_c_eq) (defScope s_c_eq) .none kV9 dc9 pm9 an9 cd9 ct9), sl9⟩)
    (c9 : PySem.W.codeIn K cd9 "Cache.__eq__" = true)
    (k9 : PySem.W.keepIn K (.ref f9) = true)
    (a10 : PySem.W.findIn K (.ref CCache) "victim" = some (some (.ref p10)))
    (pg10 : PySem.W.specialIn K (.ref p10) "__get__" = some (some (.builtin "property.__get__")))
    (pt10 : PySem.W.takesIn K (.ref p10) = some true)
    (pr10 : PySem.W.recIn K p10 "property" = some (.ref f10 :: rest10))
    (l10 : K.lookup f10 = some ⟨oc10, od10, .func (PySem.W.fnOf "victim" "Cache.victim" (defArgs s_c_victim) (defBody s_c_victim) (defScope s_c_victim) .none kV10 dc10 pm10 an10 cd10 ct10), sl10⟩)
    (c10 : PySem.W.codeIn K cd10 "Cache.victim" = true)
    (k10 : PySem.W.keepIn K (.ref f10) = true)
    (a11 : PySem.W.findIn K (.ref CCache) "listed" = some (some (.ref f11)))
    (i11 : PySem.W.isFn K (.ref f11) = true)
    (l11 : K.lookup f11 = some ⟨oc11, od11, .func (PySem.W.fnOf "listed" "Cache.listed" (defArgs s_c_listed) (defBody s_c_listed) (defScope s_c_listed) .none kV11 dc11 pm11 an11 cd11 ct11), sl11⟩)
    (c11 : PySem.W.codeIn K cd11 "Cache.listed" = true)
    (k11 : PySem.W.keepIn K (.ref f11) = true)
    (a12 : PySem.W.findIn K (.ref CCache) "slot_of" = some (some (.ref f12)))
    (i12 : PySem.W.isFn K (.ref f12) = true)
    (l12 : K.lookup f12 = some ⟨oc12, od12, .func (PySem.W.fnOf "slot_of" "Cache.slot_of" (defArgs s_c_slot_of) (defBody s_c_slot_of) (defScope s_c_slot_of) .none kV12 dc12 pm12 an12 cd12 ct12), sl12⟩)
    (c12 : PySem.W.codeIn K cd12 "Cache.slot_of" = true)
    (k12 : PySem.W.keepIn K (.ref f12) = true)
    (a13 : PySem.W.findIn K (.ref CCache) "request" = some (some (.ref f13)))
    (i13 : PySem.W.isFn K (.ref f13) = true)
    (l13 : K.lookup f13 = some ⟨oc13, od13, .func (PySem.W.fnOf "request" "Cache.request" (defArgs s_c_request) (defBody s_c_request) (defScope s_c_request) .none kV13 dc13 pm13 an13 cd13 ct13), sl13⟩)
    (c13 : PySem.W.codeIn K cd13 "Cache.request" = true)
    (k13 : PySem.W.keepIn K (.ref f13) = true)
    (a14 : PySem.W.nsIn K mainGlobals "settling_size" = some (some (.ref f14)))
    (l14 : K.lookup f14 = some ⟨oc14, od14, .func (PySem.W.fnOf "settling_size" "settling_size" (defArgs s_p_settling_size) (defBody s_p_settling_size) (defScope s_p_settling_size) .none kV14 dc14 pm14 an14 cd14 ct14), sl14⟩)
    (c14 : PySem.W.codeIn K cd14 "settling_size" = true)
    (k14 : PySem.W.keepIn K (.ref f14) = true)
    (a15 : PySem.W.nsIn K mainGlobals "thrashing" = some (some (.ref f15)))
    (l15 : K.lookup f15 = some ⟨oc15, od15, .func (PySem.W.fnOf "thrashing" "thrashing" (defArgs s_p_thrashing) (defBody s_p_thrashing) (defScope s_p_thrashing) .none kV15 dc15 pm15 an15 cd15 ct15), sl15⟩)
    (c15 : PySem.W.codeIn K cd15 "thrashing" = true)
    (k15 : PySem.W.keepIn K (.ref f15) = true)
    (a16 : PySem.W.nsIn K mainGlobals "_helpers" = some (some (.ref f16)))
    (l16 : K.lookup f16 = some ⟨oc16, od16, .func (PySem.W.fnOf "_helpers" "_helpers" (defArgs s_p_helpers) (defBody s_p_helpers) (defScope s_p_helpers) .none kV16 dc16 pm16 an16 cd16 ct16), sl16⟩)
    (c16 : PySem.W.codeIn K cd16 "_helpers" = true)
    (k16 : PySem.W.keepIn K (.ref f16) = true)
    (a17 : PySem.W.nsIn K mainGlobals "_lowest_across" = some (some (.ref f17)))
    (l17 : K.lookup f17 = some ⟨oc17, od17, .func (PySem.W.fnOf "_lowest_across" "_lowest_across" (defArgs s_p_lowest_across) (defBody s_p_lowest_across) (defScope s_p_lowest_across) .none kV17 dc17 pm17 an17 cd17 ct17), sl17⟩)
    (c17 : PySem.W.codeIn K cd17 "_lowest_across" = true)
    (k17 : PySem.W.keepIn K (.ref f17) = true)
    (a18 : PySem.W.nsIn K mainGlobals "_shallowest_slot" = some (some (.ref f18)))
    (l18 : K.lookup f18 = some ⟨oc18, od18, .func (PySem.W.fnOf "_shallowest_slot" "_shallowest_slot" (defArgs s_p_shallowest_slot) (defBody s_p_shallowest_slot) (defScope s_p_shallowest_slot) .none kV18 dc18 pm18 an18 cd18 ct18), sl18⟩)
    (c18 : PySem.W.codeIn K cd18 "_shallowest_slot" = true)
    (k18 : PySem.W.keepIn K (.ref f18) = true)
    (a19 : PySem.W.nsIn K mainGlobals "ends_fork" = some (some (.ref f19)))
    (l19 : K.lookup f19 = some ⟨oc19, od19, .func (PySem.W.fnOf "ends_fork" "ends_fork" (defArgs s_p_ends_fork) (defBody s_p_ends_fork) (defScope s_p_ends_fork) .none kV19 dc19 pm19 an19 cd19 ct19), sl19⟩)
    (c19 : PySem.W.codeIn K cd19 "ends_fork" = true)
    (k19 : PySem.W.keepIn K (.ref f19) = true)
    (a20 : PySem.W.nsIn K mainGlobals "read_forks" = some (some (.ref f20)))
    (l20 : K.lookup f20 = some ⟨oc20, od20, .func (PySem.W.fnOf "read_forks" "read_forks" (defArgs s_p_read_forks) (defBody s_p_read_forks) (defScope s_p_read_forks) .none kV20 dc20 pm20 an20 cd20 ct20), sl20⟩)
    (c20 : PySem.W.codeIn K cd20 "read_forks" = true)
    (k20 : PySem.W.keepIn K (.ref f20) = true)
    (a21 : PySem.W.nsIn K mainGlobals "lay_ways" = some (some (.ref f21)))
    (l21 : K.lookup f21 = some ⟨oc21, od21, .func (PySem.W.fnOf "lay_ways" "lay_ways" (defArgs s_p_lay_ways) (defBody s_p_lay_ways) (defScope s_p_lay_ways) .none kV21 dc21 pm21 an21 cd21 ct21), sl21⟩)
    (c21 : PySem.W.codeIn K cd21 "lay_ways" = true)
    (k21 : PySem.W.keepIn K (.ref f21) = true)
    (a22 : PySem.W.findIn K (.ref CTree) "__init__" = some (some (.ref f22)))
    (i22 : PySem.W.isFn K (.ref f22) = true)
    (l22 : K.lookup f22 = some ⟨oc22, od22, .func (PySem.W.fnOf "__init__" "Tree.__init__" (defArgs s_t_init) (defBody s_t_init) (defScope s_t_init) .none kV22 dc22 pm22 an22 cd22 ct22), sl22⟩)
    (c22 : PySem.W.codeIn K cd22 "Tree.__init__" = true)
    (k22 : PySem.W.keepIn K (.ref f22) = true)
    (a23 : PySem.W.findIn K (.ref CTree) "__len__" = some (some (.ref f23)))
    (i23 : PySem.W.isFn K (.ref f23) = true)
    (l23 : K.lookup f23 = some ⟨oc23, od23, .func (PySem.W.fnOf "__len__" "Tree.__len__" (defArgs s_t_len) (defBody s_t_len) (defScope s_t_len) .none kV23 dc23 pm23 an23 cd23 ct23), sl23⟩)
    (c23 : PySem.W.codeIn K cd23 "Tree.__len__" = true)
    (k23 : PySem.W.keepIn K (.ref f23) = true)
    (a24 : PySem.W.findIn K (.ref CTree) "__eq__" = some (some (.ref f24)))
    (i24 : PySem.W.isFn K (.ref f24) = true)
    (l24 : K.lookup f24 = some ⟨oc24, od24, .func (PySem.W.fnOf "__eq__" "Tree.__eq__" (defArgs s_t_eq) (defBody s_t_eq) (defScope s_t_eq) .none kV24 dc24 pm24 an24 cd24 ct24), sl24⟩)
    (c24 : PySem.W.codeIn K cd24 "Tree.__eq__" = true)
    (k24 : PySem.W.keepIn K (.ref f24) = true)
    (a25 : PySem.W.findIn K (.ref CTree) "forks" = some (some (.ref p25)))
    (pg25 : PySem.W.specialIn K (.ref p25) "__get__" = some (some (.builtin "property.__get__")))
    (pt25 : PySem.W.takesIn K (.ref p25) = some true)
    (pr25 : PySem.W.recIn K p25 "property" = some (.ref f25 :: rest25))
    (l25 : K.lookup f25 = some ⟨oc25, od25, .func (PySem.W.fnOf "forks" "Tree.forks" (defArgs s_t_forks) (defBody s_t_forks) (defScope s_t_forks) .none kV25 dc25 pm25 an25 cd25 ct25), sl25⟩)
    (c25 : PySem.W.codeIn K cd25 "Tree.forks" = true)
    (k25 : PySem.W.keepIn K (.ref f25) = true)
    (a26 : PySem.W.findIn K (.ref CTree) "least_depth" = some (some (.ref p26)))
    (pg26 : PySem.W.specialIn K (.ref p26) "__get__" = some (some (.builtin "property.__get__")))
    (pt26 : PySem.W.takesIn K (.ref p26) = some true)
    (pr26 : PySem.W.recIn K p26 "property" = some (.ref f26 :: rest26))
    (l26 : K.lookup f26 = some ⟨oc26, od26, .func (PySem.W.fnOf "least_depth" "Tree.least_depth" (defArgs s_t_least_depth) (defBody s_t_least_depth) (defScope s_t_least_depth) .none kV26 dc26 pm26 an26 cd26 ct26), sl26⟩)
    (c26 : PySem.W.codeIn K cd26 "Tree.least_depth" = true)
    (k26 : PySem.W.keepIn K (.ref f26) = true)
    (a27 : PySem.W.nsIn K mainGlobals "_law_box" = some (some (.ref f27)))
    (l27 : K.lookup f27 = some ⟨oc27, od27, .func (PySem.W.fnOf "_law_box" "_law_box" (defArgs s_l_box) (defBody s_l_box) (defScope s_l_box) .none kV27 dc27 pm27 an27 cd27 ct27), sl27⟩)
    (c27 : PySem.W.codeIn K cd27 "_law_box" = true)
    (k27 : PySem.W.keepIn K (.ref f27) = true)
    (a28 : PySem.W.nsIn K mainGlobals "_law_take" = some (some (.ref f28)))
    (l28 : K.lookup f28 = some ⟨oc28, od28, .func (PySem.W.fnOf "_law_take" "_law_take" (defArgs s_l_take) (defBody s_l_take) (defScope s_l_take) .none kV28 dc28 pm28 an28 cd28 ct28), sl28⟩)
    (c28 : PySem.W.codeIn K cd28 "_law_take" = true)
    (k28 : PySem.W.keepIn K (.ref f28) = true)
    (a29 : PySem.W.nsIn K mainGlobals "_law_world" = some (some (.ref f29)))
    (l29 : K.lookup f29 = some ⟨oc29, od29, .func (PySem.W.fnOf "_law_world" "_law_world" (defArgs s_l_world) (defBody s_l_world) (defScope s_l_world) .none kV29 dc29 pm29 an29 cd29 ct29), sl29⟩)
    (c29 : PySem.W.codeIn K cd29 "_law_world" = true)
    (k29 : PySem.W.keepIn K (.ref f29) = true)
    (a30 : PySem.W.nsIn K mainGlobals "_law_way" = some (some (.ref f30)))
    (l30 : K.lookup f30 = some ⟨oc30, od30, .func (PySem.W.fnOf "_law_way" "_law_way" (defArgs s_l_way) (defBody s_l_way) (defScope s_l_way) .none kV30 dc30 pm30 an30 cd30 ct30), sl30⟩)
    (c30 : PySem.W.codeIn K cd30 "_law_way" = true)
    (k30 : PySem.W.keepIn K (.ref f30) = true)
    (a31 : PySem.W.nsIn K mainGlobals "_law_side" = some (some (.ref f31)))
    (l31 : K.lookup f31 = some ⟨oc31, od31, .func (PySem.W.fnOf "_law_side" "_law_side" (defArgs s_l_side) (defBody s_l_side) (defScope s_l_side) .none kV31 dc31 pm31 an31 cd31 ct31), sl31⟩)
    (c31 : PySem.W.codeIn K cd31 "_law_side" = true)
    (k31 : PySem.W.keepIn K (.ref f31) = true)
    (a32 : PySem.W.nsIn K mainGlobals "_law_turned" = some (some (.ref f32)))
    (l32 : K.lookup f32 = some ⟨oc32, od32, .func (PySem.W.fnOf "_law_turned" "_law_turned" (defArgs s_l_turned) (defBody s_l_turned) (defScope s_l_turned) .none kV32 dc32 pm32 an32 cd32 ct32), sl32⟩)
    (c32 : PySem.W.codeIn K cd32 "_law_turned" = true)
    (k32 : PySem.W.keepIn K (.ref f32) = true)
    (a33 : PySem.W.nsIn K mainGlobals "_law_free_way" = some (some (.ref f33)))
    (l33 : K.lookup f33 = some ⟨oc33, od33, .func (PySem.W.fnOf "_law_free_way" "_law_free_way" (defArgs s_l_free_way) (defBody s_l_free_way) (defScope s_l_free_way) .none kV33 dc33 pm33 an33 cd33 ct33), sl33⟩)
    (c33 : PySem.W.codeIn K cd33 "_law_free_way" = true)
    (k33 : PySem.W.keepIn K (.ref f33) = true)
    (a34 : PySem.W.nsIn K mainGlobals "_law_flags" = some (some (.ref f34)))
    (l34 : K.lookup f34 = some ⟨oc34, od34, .func (PySem.W.fnOf "_law_flags" "_law_flags" (defArgs s_l_flags) (defBody s_l_flags) (defScope s_l_flags) .none kV34 dc34 pm34 an34 cd34 ct34), sl34⟩)
    (c34 : PySem.W.codeIn K cd34 "_law_flags" = true)
    (k34 : PySem.W.keepIn K (.ref f34) = true)
    (a35 : PySem.W.nsIn K mainGlobals "_law_same" = some (some (.ref f35)))
    (l35 : K.lookup f35 = some ⟨oc35, od35, .func (PySem.W.fnOf "_law_same" "_law_same" (defArgs s_l_same) (defBody s_l_same) (defScope s_l_same) .none kV35 dc35 pm35 an35 cd35 ct35), sl35⟩)
    (c35 : PySem.W.codeIn K cd35 "_law_same" = true)
    (k35 : PySem.W.keepIn K (.ref f35) = true)
    (a36 : PySem.W.nsIn K mainGlobals "_law_names" = some (some (.ref f36)))
    (l36 : K.lookup f36 = some ⟨oc36, od36, .func (PySem.W.fnOf "_law_names" "_law_names" (defArgs s_l_names) (defBody s_l_names) (defScope s_l_names) .none kV36 dc36 pm36 an36 cd36 ct36), sl36⟩)
    (c36 : PySem.W.codeIn K cd36 "_law_names" = true)
    (k36 : PySem.W.keepIn K (.ref f36) = true)
    (a37 : PySem.W.nsIn K mainGlobals "_law_served" = some (some (.ref f37)))
    (l37 : K.lookup f37 = some ⟨oc37, od37, .func (PySem.W.fnOf "_law_served" "_law_served" (defArgs s_l_served) (defBody s_l_served) (defScope s_l_served) .none kV37 dc37 pm37 an37 cd37 ct37), sl37⟩)
    (c37 : PySem.W.codeIn K cd37 "_law_served" = true)
    (k37 : PySem.W.keepIn K (.ref f37) = true)
    (a38 : PySem.W.nsIn K mainGlobals "_law_least" = some (some (.ref f38)))
    (l38 : K.lookup f38 = some ⟨oc38, od38, .func (PySem.W.fnOf "_law_least" "_law_least" (defArgs s_l_least) (defBody s_l_least) (defScope s_l_least) .none kV38 dc38 pm38 an38 cd38 ct38), sl38⟩)
    (c38 : PySem.W.codeIn K cd38 "_law_least" = true)
    (k38 : PySem.W.keepIn K (.ref f38) = true)
    (a39 : PySem.W.nsIn K mainGlobals "_law_asked" = some (some (.ref f39)))
    (l39 : K.lookup f39 = some ⟨oc39, od39, .func (PySem.W.fnOf "_law_asked" "_law_asked" (defArgs s_l_asked) (defBody s_l_asked) (defScope s_l_asked) .none kV39 dc39 pm39 an39 cd39 ct39), sl39⟩)
    (c39 : PySem.W.codeIn K cd39 "_law_asked" = true)
    (k39 : PySem.W.keepIn K (.ref f39) = true)
    (a40 : PySem.W.nsIn K mainGlobals "_law_settles" = some (some (.ref f40)))
    (l40 : K.lookup f40 = some ⟨oc40, od40, .func (PySem.W.fnOf "_law_settles" "_law_settles" (defArgs s_l_settles) (defBody s_l_settles) (defScope s_l_settles) .none kV40 dc40 pm40 an40 cd40 ct40), sl40⟩)
    (c40 : PySem.W.codeIn K cd40 "_law_settles" = true)
    (k40 : PySem.W.keepIn K (.ref f40) = true)
    (a41 : PySem.W.nsIn K mainGlobals "_law_example" = some (some (.ref f41)))
    (l41 : K.lookup f41 = some ⟨oc41, od41, .func (PySem.W.fnOf "_law_example" "_law_example" (defArgs s_l_example) (defBody s_l_example) (defScope s_l_example) .none kV41 dc41 pm41 an41 cd41 ct41), sl41⟩)
    (c41 : PySem.W.codeIn K cd41 "_law_example" = true)
    (k41 : PySem.W.keepIn K (.ref f41) = true)
    (a42 : PySem.W.nsIn K mainGlobals "_law_example_right" = some (some (.ref f42)))
    (l42 : K.lookup f42 = some ⟨oc42, od42, .func (PySem.W.fnOf "_law_example_right" "_law_example_right" (defArgs s_l_example_right) (defBody s_l_example_right) (defScope s_l_example_right) .none kV42 dc42 pm42 an42 cd42 ct42), sl42⟩)
    (c42 : PySem.W.codeIn K cd42 "_law_example_right" = true)
    (k42 : PySem.W.keepIn K (.ref f42) = true)
    (a43 : PySem.W.nsIn K mainGlobals "_law_thrashes" = some (some (.ref f43)))
    (l43 : K.lookup f43 = some ⟨oc43, od43, .func (PySem.W.fnOf "_law_thrashes" "_law_thrashes" (defArgs s_l_thrashes) (defBody s_l_thrashes) (defScope s_l_thrashes) .none kV43 dc43 pm43 an43 cd43 ct43), sl43⟩)
    (c43 : PySem.W.codeIn K cd43 "_law_thrashes" = true)
    (k43 : PySem.W.keepIn K (.ref f43) = true)
    (a44 : PySem.W.nsIn K mainGlobals "law" = some (some (.ref f44)))
    (l44 : K.lookup f44 = some ⟨oc44, od44, .func (PySem.W.fnOf "law" "law" (defArgs s_law) (defBody s_law) (defScope s_law) .none kV44 dc44 pm44 an44 cd44 ct44), sl44⟩)
    (c44 : PySem.W.codeIn K cd44 "law" = true)
    (k44 : PySem.W.keepIn K (.ref f44) = true)
    : ∃ T : TX K mg, ∀ (s : Shared) (v : Value), BindsTo s T.law.fd ⟨[v], []⟩ [("_law_script", v)] :=
  ⟨{ Cache := ⟨CCache, PySem.W.mg_of X G gCCache, ⟨pgCCache, hdCCache, poCCache, saCCache⟩, caCCache, cmCCache, kit_self⟩,
     Tree := ⟨CTree, PySem.W.mg_of X G gCTree, ⟨pgCTree, hdCTree, poCTree, saCTree⟩, caCTree, cmCTree, kit_self⟩,
     b_len := PySem.W.mg_none_of X G zb_len,
     b_sum := PySem.W.mg_none_of X G zb_sum,
     b_min := PySem.W.mg_none_of X G zb_min,
     b_max := PySem.W.mg_none_of X G zb_max,
     b_all := PySem.W.mg_none_of X G zb_all,
     b_sorted := PySem.W.mg_none_of X G zb_sorted,
     b_isinstance := PySem.W.mg_none_of X G zb_isinstance,
     b_int := PySem.W.mg_none_of X G zb_int,
     b_str := PySem.W.mg_none_of X G zb_str,
     b_list := PySem.W.mg_none_of X G zb_list,
     b_tuple := PySem.W.mg_none_of X G zb_tuple,
     b_bool := PySem.W.mg_none_of X G zb_bool,
     b_range := PySem.W.mg_none_of X G zb_range,
     b_enumerate := PySem.W.mg_none_of X G zb_enumerate,
     b_set := PySem.W.mg_none_of X G zb_set,
     ENTRY_SIGNS := ⟨_, PySem.W.mg_of X G vENTRY_SIGNS, ⟨_, rfl⟩⟩,
     LONGEST_ENTRY := ⟨_, PySem.W.mg_of X G vLONGEST_ENTRY, ⟨_, rfl⟩⟩,
     cn := hcn,
     ct := hct,
     nT_text := hnT_text,
     nT_lefts := hnT_lefts,
     nT_rights := hnT_rights,
     nT_spans := hnT_spans,
     nT_bounds := hnT_bounds,
     nT_postorder := hnT_postorder,
     nT_root := hnT_root,
     nT_preorder := hnT_preorder,
     nT_ways := hnT_ways,
     nC_tree := hnC_tree,
     nC_flags := hnC_flags,
     nC_contents := hnC_contents,
     most := ⟨.int 64 tM, ⟨hmost, ⟨_, rfl⟩, hmostg, by decide +kernel⟩⟩,
     p_is_made_of := ⟨f1, _, fun_mk (st := s_p_is_made_of) l1 c1 k1, PySem.W.mg_of X G a1, (fun_mk (st := s_p_is_made_of) l1 c1 k1).binds (ps := ["value", "signs"]) (fun _ _ _ _ _ _ us hl => match us, hl with | [_, _], _ => rfl)⟩,
     p_is_entry := ⟨f2, _, fun_mk (st := s_p_is_entry) l2 c2 k2, PySem.W.mg_of X G a2, (fun_mk (st := s_p_is_entry) l2 c2 k2).binds (ps := ["value"]) (fun _ _ _ _ _ _ us hl => match us, hl with | [_], _ => rfl)⟩,
     p_checked_flags := ⟨f3, _, fun_mk (st := s_p_checked_flags) l3 c3 k3, PySem.W.mg_of X G a3, (fun_mk (st := s_p_checked_flags) l3 c3 k3).binds (ps := ["tree", "flags"]) (fun _ _ _ _ _ _ us hl => match us, hl with | [_, _], _ => rfl)⟩,
     p_checked_entry := ⟨f4, _, fun_mk (st := s_p_checked_entry) l4 c4 k4, PySem.W.mg_of X G a4, (fun_mk (st := s_p_checked_entry) l4 c4 k4).binds (ps := ["entry"]) (fun _ _ _ _ _ _ us hl => match us, hl with | [_], _ => rfl)⟩,
     p_checked_entries := ⟨f5, _, fun_mk (st := s_p_checked_entries) l5 c5 k5, PySem.W.mg_of X G a5, (fun_mk (st := s_p_checked_entries) l5 c5 k5).binds (ps := ["many", "entries"]) (fun _ _ _ _ _ _ us hl => match us, hl with | [_, _], _ => rfl)⟩,
     p_turned := ⟨f6, _, fun_mk (st := s_p_turned) l6 c6 k6, PySem.W.mg_of X G a6, (fun_mk (st := s_p_turned) l6 c6 k6).binds (ps := ["tree", "flags", "slot"]) (fun _ _ _ _ _ _ us hl => match us, hl with | [_, _, _], _ => rfl)⟩,
     p_found_victim := ⟨f7, _, fun_mk (st := s_p_found_victim) l7 c7 k7, PySem.W.mg_of X G a7, (fun_mk (st := s_p_found_victim) l7 c7 k7).binds (ps := ["tree", "flags"]) (fun _ _ _ _ _ _ us hl => match us, hl with | [_, _], _ => rfl)⟩,
     c_init := ⟨f8, _, fun_mk (st := s_c_init) l8 c8 k8, ⟨mkCCache, a8, i8, kcCCache⟩, (fun_mk (st := s_c_init) l8 c8 k8).binds (ps := ["self", "tree", "flags", "entries"]) (fun _ _ _ _ _ _ us hl => match us, hl with | [_, _, _, _], _ => rfl)⟩,
     c_eq := ⟨f9, _, fun_mk (st := s_c_eq) l9 c9 k9, ⟨a9, i9, k9⟩, (fun_mk (st := s_c_eq) l9 c9 k9).binds (ps := ["self", "other"]) (fun _ _ _ _ _ _ us hl => match us, hl with | [_, _], _ => rfl)⟩,
     c_victim := ⟨p10, f10, _, fun_mk (st := s_c_victim) l10 c10 k10, ⟨a10, pg10, pt10, _, pr10⟩, (fun_mk (st := s_c_victim) l10 c10 k10).binds (ps := ["self"]) (fun _ _ _ _ _ _ us hl => match us, hl with | [_], _ => rfl)⟩,
     c_listed := ⟨f11, _, fun_mk (st := s_c_listed) l11 c11 k11, ⟨a11, i11, k11⟩, (fun_mk (st := s_c_listed) l11 c11 k11).binds (ps := ["self"]) (fun _ _ _ _ _ _ us hl => match us, hl with | [_], _ => rfl)⟩,
     c_slot_of := ⟨f12, _, fun_mk (st := s_c_slot_of) l12 c12 k12, ⟨a12, i12, k12⟩, (fun_mk (st := s_c_slot_of) l12 c12 k12).binds (ps := ["self", "entry"]) (fun _ _ _ _ _ _ us hl => match us, hl with | [_, _], _ => rfl)⟩,
     c_request := ⟨f13, _, fun_mk (st := s_c_request) l13 c13 k13, ⟨a13, i13, k13⟩, (fun_mk (st := s_c_request) l13 c13 k13).binds (ps := ["self", "entry"]) (fun _ _ _ _ _ _ us hl => match us, hl with | [_, _], _ => rfl)⟩,
     p_settling_size := ⟨f14, _, fun_mk (st := s_p_settling_size) l14 c14 k14, PySem.W.mg_of X G a14, (fun_mk (st := s_p_settling_size) l14 c14 k14).binds (ps := ["tree"]) (fun _ _ _ _ _ _ us hl => match us, hl with | [_], _ => rfl)⟩,
     p_thrashing := ⟨f15, _, fun_mk (st := s_p_thrashing) l15 c15 k15, PySem.W.mg_of X G a15, (fun_mk (st := s_p_thrashing) l15 c15 k15).binds (ps := ["tree"]) (fun _ _ _ _ _ _ us hl => match us, hl with | [_], _ => rfl)⟩,
     p_helpers := ⟨f16, _, fun_mk (st := s_p_helpers) l16 c16 k16, PySem.W.mg_of X G a16, (fun_mk (st := s_p_helpers) l16 c16 k16).binds (ps := ["tree", "slot", "depth"]) (fun _ _ _ _ _ _ us hl => match us, hl with | [_, _, _], _ => rfl)⟩,
     p_lowest_across := ⟨f17, _, fun_mk (st := s_p_lowest_across) l17 c17 k17, PySem.W.mg_of X G a17, (fun_mk (st := s_p_lowest_across) l17 c17 k17).binds (ps := ["tree", "fork", "side"]) (fun _ _ _ _ _ _ us hl => match us, hl with | [_, _, _], _ => rfl)⟩,
     p_shallowest_slot := ⟨f18, _, fun_mk (st := s_p_shallowest_slot) l18 c18 k18, PySem.W.mg_of X G a18, (fun_mk (st := s_p_shallowest_slot) l18 c18 k18).binds (ps := ["tree"]) (fun _ _ _ _ _ _ us hl => match us, hl with | [_], _ => rfl)⟩,
     p_ends_fork := ⟨f19, _, fun_mk (st := s_p_ends_fork) l19 c19 k19, PySem.W.mg_of X G a19, (fun_mk (st := s_p_ends_fork) l19 c19 k19).binds (ps := ["stack"]) (fun _ _ _ _ _ _ us hl => match us, hl with | [_], _ => rfl)⟩,
     p_read_forks := ⟨f20, _, fun_mk (st := s_p_read_forks) l20 c20 k20, PySem.W.mg_of X G a20, (fun_mk (st := s_p_read_forks) l20 c20 k20).binds (ps := ["text"]) (fun _ _ _ _ _ _ us hl => match us, hl with | [_], _ => rfl)⟩,
     p_lay_ways := ⟨f21, _, fun_mk (st := s_p_lay_ways) l21 c21 k21, PySem.W.mg_of X G a21, (fun_mk (st := s_p_lay_ways) l21 c21 k21).binds (ps := ["root", "lefts", "rights"]) (fun _ _ _ _ _ _ us hl => match us, hl with | [_, _, _], _ => rfl)⟩,
     t_init := ⟨f22, _, fun_mk (st := s_t_init) l22 c22 k22, ⟨mkCTree, a22, i22, kcCTree⟩, (fun_mk (st := s_t_init) l22 c22 k22).binds (ps := ["self", "text"]) (fun _ _ _ _ _ _ us hl => match us, hl with | [_, _], _ => rfl)⟩,
     t_len := ⟨f23, _, fun_mk (st := s_t_len) l23 c23 k23, ⟨a23, i23, k23⟩, (fun_mk (st := s_t_len) l23 c23 k23).binds (ps := ["self"]) (fun _ _ _ _ _ _ us hl => match us, hl with | [_], _ => rfl)⟩,
     t_eq := ⟨f24, _, fun_mk (st := s_t_eq) l24 c24 k24, ⟨a24, i24, k24⟩, (fun_mk (st := s_t_eq) l24 c24 k24).binds (ps := ["self", "other"]) (fun _ _ _ _ _ _ us hl => match us, hl with | [_, _], _ => rfl)⟩,
     t_forks := ⟨p25, f25, _, fun_mk (st := s_t_forks) l25 c25 k25, ⟨a25, pg25, pt25, _, pr25⟩, (fun_mk (st := s_t_forks) l25 c25 k25).binds (ps := ["self"]) (fun _ _ _ _ _ _ us hl => match us, hl with | [_], _ => rfl)⟩,
     t_least_depth := ⟨p26, f26, _, fun_mk (st := s_t_least_depth) l26 c26 k26, ⟨a26, pg26, pt26, _, pr26⟩, (fun_mk (st := s_t_least_depth) l26 c26 k26).binds (ps := ["self"]) (fun _ _ _ _ _ _ us hl => match us, hl with | [_], _ => rfl)⟩,
     l_box := ⟨f27, _, fun_mk (st := s_l_box) l27 c27 k27, PySem.W.mg_of X G a27, (fun_mk (st := s_l_box) l27 c27 k27).binds (ps := ["_law_script", "_law_k"]) (fun _ _ _ _ _ _ us hl => match us, hl with | [_, _], _ => rfl)⟩,
     l_take := ⟨f28, _, fun_mk (st := s_l_take) l28 c28 k28, PySem.W.mg_of X G a28, (fun_mk (st := s_l_take) l28 c28 k28).binds (ps := ["_law_box_here", "_law_size"]) (fun _ _ _ _ _ _ us hl => match us, hl with | [_, _], _ => rfl)⟩,
     l_world := ⟨f29, _, fun_mk (st := s_l_world) l29 c29 k29, PySem.W.mg_of X G a29, (fun_mk (st := s_l_world) l29 c29 k29).binds (ps := ["_law_box_here", "_law_most"]) (fun _ _ _ _ _ _ us hl => match us, hl with | [_, _], _ => rfl)⟩,
     l_way := ⟨f30, _, fun_mk (st := s_l_way) l30 c30 k30, PySem.W.mg_of X G a30, (fun_mk (st := s_l_way) l30 c30 k30).binds (ps := ["_law_world_here", "_law_slot"]) (fun _ _ _ _ _ _ us hl => match us, hl with | [_, _], _ => rfl)⟩,
     l_side := ⟨f31, _, fun_mk (st := s_l_side) l31 c31 k31, PySem.W.mg_of X G a31, (fun_mk (st := s_l_side) l31 c31 k31).binds (ps := ["_law_fork", "_law_slot"]) (fun _ _ _ _ _ _ us hl => match us, hl with | [_, _], _ => rfl)⟩,
     l_turned := ⟨f32, _, fun_mk (st := s_l_turned) l32 c32 k32, PySem.W.mg_of X G a32, (fun_mk (st := s_l_turned) l32 c32 k32).binds (ps := ["_law_world_here", "_law_flags_here", "_law_slot"]) (fun _ _ _ _ _ _ us hl => match us, hl with | [_, _, _], _ => rfl)⟩,
     l_free_way := ⟨f33, _, fun_mk (st := s_l_free_way) l33 c33 k33, PySem.W.mg_of X G a33, (fun_mk (st := s_l_free_way) l33 c33 k33).binds (ps := ["_law_world_here", "_law_flags_here"]) (fun _ _ _ _ _ _ us hl => match us, hl with | [_, _], _ => rfl)⟩,
     l_flags := ⟨f34, _, fun_mk (st := s_l_flags) l34 c34 k34, PySem.W.mg_of X G a34, (fun_mk (st := s_l_flags) l34 c34 k34).binds (ps := ["_law_box_here", "_law_world_here"]) (fun _ _ _ _ _ _ us hl => match us, hl with | [_, _], _ => rfl)⟩,
     l_same := ⟨f35, _, fun_mk (st := s_l_same) l35 c35 k35, PySem.W.mg_of X G a35, (fun_mk (st := s_l_same) l35 c35 k35).binds (ps := ["_law_told", "_law_due"]) (fun _ _ _ _ _ _ us hl => match us, hl with | [_, _], _ => rfl)⟩,
     l_names := ⟨f36, _, fun_mk (st := s_l_names) l36 c36 k36, PySem.W.mg_of X G a36, (fun_mk (st := s_l_names) l36 c36 k36).binds (ps := ["_law_box_here", "_law_many"]) (fun _ _ _ _ _ _ us hl => match us, hl with | [_, _], _ => rfl)⟩,
     l_served := ⟨f37, _, fun_mk (st := s_l_served) l37 c37 k37, PySem.W.mg_of X G a37, (fun_mk (st := s_l_served) l37 c37 k37).binds (ps := ["_law_world_here", "_law_model", "_law_name"]) (fun _ _ _ _ _ _ us hl => match us, hl with | [_, _, _], _ => rfl)⟩,
     l_least := ⟨f38, _, fun_mk (st := s_l_least) l38 c38 k38, PySem.W.mg_of X G a38, (fun_mk (st := s_l_least) l38 c38 k38).binds (ps := ["_law_world_here"]) (fun _ _ _ _ _ _ us hl => match us, hl with | [_], _ => rfl)⟩,
     l_asked := ⟨f39, _, fun_mk (st := s_l_asked) l39 c39 k39, PySem.W.mg_of X G a39, (fun_mk (st := s_l_asked) l39 c39 k39).binds (ps := ["_law_box_here", "_law_names_here", "_law_size"]) (fun _ _ _ _ _ _ us hl => match us, hl with | [_, _, _], _ => rfl)⟩,
     l_settles := ⟨f40, _, fun_mk (st := s_l_settles) l40 c40 k40, PySem.W.mg_of X G a40, (fun_mk (st := s_l_settles) l40 c40 k40).binds (ps := ["_law_world_here", "_law_tree", "_law_box_here"]) (fun _ _ _ _ _ _ us hl => match us, hl with | [_, _, _], _ => rfl)⟩,
     l_example := ⟨f41, _, fun_mk (st := s_l_example) l41 c41 k41, PySem.W.mg_of X G a41, (fun_mk (st := s_l_example) l41 c41 k41).binds (ps := ["_law_world_here"]) (fun _ _ _ _ _ _ us hl => match us, hl with | [_], _ => rfl)⟩,
     l_example_right := ⟨f42, _, fun_mk (st := s_l_example_right) l42 c42 k42, PySem.W.mg_of X G a42, (fun_mk (st := s_l_example_right) l42 c42 k42).binds (ps := ["_law_world_here", "_law_tree", "_law_told", "_law_due", "_law_names_here"]) (fun _ _ _ _ _ _ us hl => match us, hl with | [_, _, _, _, _], _ => rfl)⟩,
     l_thrashes := ⟨f43, _, fun_mk (st := s_l_thrashes) l43 c43 k43, PySem.W.mg_of X G a43, (fun_mk (st := s_l_thrashes) l43 c43 k43).binds (ps := ["_law_world_here", "_law_tree", "_law_box_here"]) (fun _ _ _ _ _ _ us hl => match us, hl with | [_, _, _], _ => rfl)⟩,
     law := ⟨f44, _, fun_mk (st := s_law) l44 c44 k44, PySem.W.mg_of X G a44, (fun_mk (st := s_law) l44 c44 k44).binds (ps := ["_law_script"]) (fun _ _ _ _ _ _ us hl => match us, hl with | [_], _ => rfl)⟩ }, fun s v => .of_eq rfl⟩
end Ls
namespace Ls
open PySem PySem.Spec PyProof.Rows L2
theorem fin {l : PySem.W.OpenLaw} {w : World} {K : PySem.W.Frag} {mg : Str → Option Value} {fa : Addr} (hmg : mg "law" = some (.ref fa)) (h : ∃ T : TX K mg, ∀ (s : Shared) (v : Value), BindsTo s T.law.fd ⟨[v], []⟩ [("_law_script", v)]) :
    ∃ fd : FuncData, (∀ (s : Shared) (v : Value), BindsTo s fd ⟨[v], []⟩ [("_law_script", v)]) ∧ ∀ base : Heap, K.In base → base.Ns mainGlobals mg → FnOk l.prog w K mg base CX0 9 fa fd ["_law_script"] (spLaw K) := by
  obtain ⟨T, hb⟩ := h
  have e := hmg.symm.trans T.law.g
  have e2 : fa = T.law.f := by injection e with e; injection e
  subst e2
  exact ⟨T.law.fd, hb, fun base _ _ => ok_law T⟩
theorem walk {l : PySem.W.OpenLaw} {q : Program} {loose : List Str} {XP : (Str → Option Value) → Heap → Prop} {YP : World → Heap → Prop} {d : DefRec} {K : Params → PySem.W.Frag} (hn : l.most = some 63) (hdf : d.params.defaults = [])
    (hY : ∀ (w : World) (h : Heap), YP w h → (K w.params).In h)
    (F : ∀ (w : World) (mg : Str → Option Value) (fa : Addr) (h : Heap), (K w.params).In h → h.Ns mainGlobals mg → mg d.name = some (.ref fa) →
      ∃ fd : FuncData, (∀ (s : Shared) (u : Value), BindsTo s fd ⟨[u], []⟩ [("_law_script", u)]) ∧ ∀ base : Heap, (K w.params).In base → base.Ns mainGlobals mg → FnOk l.prog w (K w.params) mg base CX0 9 fa fd ["_law_script"] (spLaw (K w.params))) :
    PySem.W.WalkO q loose XP YP l.row.toRowW d [] (fun f vs => PySem.call f vs) :=
  L2.walk_of (n := 63) (k := 9) (x := "_law_script") (CX := fun _ => CX0) (sp := fun w => spLaw (K w.params)) hn (by decide) hdf ⟨rfl, by decide, by decide⟩ hY F (fun _ _ a ns hl _ hS => ⟨a, ns, rfl, hS, hl, fun _ => rfl⟩) fun _ _ _ _ _ z => z
end Ls
open PySem PySem.W PyProof.Rows
set_option maxRecDepth 100000 in
set_option maxHeartbeats 0 in
theorem PySem.Challenge.cw_lastside_k28_whole_settling_holds : PySem.Challenge.rw_lastside_k28_whole_settling.Holds := by
  w_on; o_law; k_head; (case hw => w_witness2)
  k_fill
  refine Ls.walk (l := PySem.Challenge.rw_lastside_k28_whole_settling) rfl rfl (fun w h Y => PySem.W.kIn_of Y) ?F
  case F =>
    intro w mg fa h KX G hmg
    refine Ls.fin hmg ?_
    refine' Ls.mk_TX KX G ?gCCache ?pgCCache ?hdCCache ?poCCache ?saCCache ?caCCache ?cmCCache ?mkCCache ?kcCCache ?gCTree ?pgCTree ?hdCTree ?poCTree ?saCTree ?caCTree ?cmCTree ?mkCTree ?kcCTree ?zb_len ?zb_sum ?zb_min ?zb_max ?zb_all ?zb_sorted ?zb_isinstance ?zb_int ?zb_str ?zb_list ?zb_tuple ?zb_bool ?zb_range ?zb_enumerate ?zb_set ?vENTRY_SIGNS ?vLONGEST_ENTRY ?hcn ?hct ?hnT_text ?hnT_lefts ?hnT_rights ?hnT_spans ?hnT_bounds ?hnT_postorder ?hnT_root ?hnT_preorder ?hnT_ways ?hnC_tree ?hnC_flags ?hnC_contents ?hmost ?hmostg ?a1 ?l1 ?c1 ?k1 ?a2 ?l2 ?c2 ?k2 ?a3 ?l3 ?c3 ?k3 ?a4 ?l4 ?c4 ?k4 ?a5 ?l5 ?c5 ?k5 ?a6 ?l6 ?c6 ?k6 ?a7 ?l7 ?c7 ?k7 ?a8 ?i8 ?l8 ?c8 ?k8 ?a9 ?i9 ?l9 ?c9 ?k9 ?a10 ?pg10 ?pt10 ?pr10 ?l10 ?c10 ?k10 ?a11 ?i11 ?l11 ?c11 ?k11 ?a12 ?i12 ?l12 ?c12 ?k12 ?a13 ?i13 ?l13 ?c13 ?k13 ?a14 ?l14 ?c14 ?k14 ?a15 ?l15 ?c15 ?k15 ?a16 ?l16 ?c16 ?k16 ?a17 ?l17 ?c17 ?k17 ?a18 ?l18 ?c18 ?k18 ?a19 ?l19 ?c19 ?k19 ?a20 ?l20 ?c20 ?k20 ?a21 ?l21 ?c21 ?k21 ?a22 ?i22 ?l22 ?c22 ?k22 ?a23 ?i23 ?l23 ?c23 ?k23 ?a24 ?i24 ?l24 ?c24 ?k24 ?a25 ?pg25 ?pt25 ?pr25 ?l25 ?c25 ?k25 ?a26 ?pg26 ?pt26 ?pr26 ?l26 ?c26 ?k26 ?a27 ?l27 ?c27 ?k27 ?a28 ?l28 ?c28 ?k28 ?a29 ?l29 ?c29 ?k29 ?a30 ?l30 ?c30 ?k30 ?a31 ?l31 ?c31 ?k31 ?a32 ?l32 ?c32 ?k32 ?a33 ?l33 ?c33 ?k33 ?a34 ?l34 ?c34 ?k34 ?a35 ?l35 ?c35 ?k35 ?a36 ?l36 ?c36 ?k36 ?a37 ?l37 ?c37 ?k37 ?a38 ?l38 ?c38 ?k38 ?a39 ?l39 ?c39 ?k39 ?a40 ?l40 ?c40 ?k40 ?a41 ?l41 ?c41 ?k41 ?a42 ?l42 ?c42 ?k42 ?a43 ?l43 ?c43 ?k43 ?a44 ?l44 ?c44 ?k44
    (case gCCache => k_is)
    (case pgCCache => k_is)
    (case hdCCache => k_is)
    (case poCCache => k_is)
    (case saCCache => k_is)
    (case caCCache => k_is)
    (case cmCCache => k_is)
    (case mkCCache => k_is)
    (case kcCCache => k_is)
    (case gCTree => k_is)
    (case pgCTree => k_is)
    (case hdCTree => k_is)
    (case poCTree => k_is)
    (case saCTree => k_is)
    (case caCTree => k_is)
    (case cmCTree => k_is)
    (case mkCTree => k_is)
    (case kcCTree => k_is)
    (case zb_len => k_is)
    (case zb_sum => k_is)
    (case zb_min => k_is)
    (case zb_max => k_is)
    (case zb_all => k_is)
    (case zb_sorted => k_is)
    (case zb_isinstance => k_is)
    (case zb_int => k_is)
    (case zb_str => k_is)
    (case zb_list => k_is)
    (case zb_tuple => k_is)
    (case zb_bool => k_is)
    (case zb_range => k_is)
    (case zb_enumerate => k_is)
    (case zb_set => k_is)
    (case vENTRY_SIGNS => k_is)
    (case vLONGEST_ENTRY => k_is)
    (case hcn => k_is)
    (case hct => k_is)
    (case hnT_text => k_is)
    (case hnT_lefts => k_is)
    (case hnT_rights => k_is)
    (case hnT_spans => k_is)
    (case hnT_bounds => k_is)
    (case hnT_postorder => k_is)
    (case hnT_root => k_is)
    (case hnT_preorder => k_is)
    (case hnT_ways => k_is)
    (case hnC_tree => k_is)
    (case hnC_flags => k_is)
    (case hnC_contents => k_is)
    (case hmost => k_is)
    (case hmostg => k_is)
    (case a1 => k_is)
    (case l1 => k_is)
    (case c1 => k_is)
    (case k1 => k_is)
    (case a2 => k_is)
    (case l2 => k_is)
    (case c2 => k_is)
    (case k2 => k_is)
    (case a3 => k_is)
    (case l3 => k_is)
    (case c3 => k_is)
    (case k3 => k_is)
    (case a4 => k_is)
    (case l4 => k_is)
    (case c4 => k_is)
    (case k4 => k_is)
    (case a5 => k_is)
    (case l5 => k_is)
    (case c5 => k_is)
    (case k5 => k_is)
    (case a6 => k_is)
    (case l6 => k_is)
    (case c6 => k_is)
    (case k6 => k_is)
    (case a7 => k_is)
    (case l7 => k_is)
    (case c7 => k_is)
    (case k7 => k_is)
    (case a8 => k_is)
    (case i8 => k_is)
    (case l8 => k_is)
    (case c8 => k_is)
    (case k8 => k_is)
    (case a9 => k_is)
    (case i9 => k_is)
    (case l9 => k_is)
    (case c9 => k_is)
    (case k9 => k_is)
    (case a10 => k_is)
    (case pg10 => k_is)
    (case pt10 => k_is)
    (case pr10 => k_is)
    (case l10 => k_is)
    (case c10 => k_is)
    (case k10 => k_is)
    (case a11 => k_is)
    (case i11 => k_is)
    (case l11 => k_is)
    (case c11 => k_is)
    (case k11 => k_is)
    (case a12 => k_is)
    (case i12 => k_is)
    (case l12 => k_is)
    (case c12 => k_is)
    (case k12 => k_is)
    (case a13 => k_is)
    (case i13 => k_is)
    (case l13 => k_is)
    (case c13 => k_is)
    (case k13 => k_is)
    (case a14 => k_is)
    (case l14 => k_is)
    (case c14 => k_is)
    (case k14 => k_is)
    (case a15 => k_is)
    (case l15 => k_is)
    (case c15 => k_is)
    (case k15 => k_is)
    (case a16 => k_is)
    (case l16 => k_is)
    (case c16 => k_is)
    (case k16 => k_is)
    (case a17 => k_is)
    (case l17 => k_is)
    (case c17 => k_is)
    (case k17 => k_is)
    (case a18 => k_is)
    (case l18 => k_is)
    (case c18 => k_is)
    (case k18 => k_is)
    (case a19 => k_is)
    (case l19 => k_is)
    (case c19 => k_is)
    (case k19 => k_is)
    (case a20 => k_is)
    (case l20 => k_is)
    (case c20 => k_is)
    (case k20 => k_is)
    (case a21 => k_is)
    (case l21 => k_is)
    (case c21 => k_is)
    (case k21 => k_is)
    (case a22 => k_is)
    (case i22 => k_is)
    (case l22 => k_is)
    (case c22 => k_is)
    (case k22 => k_is)
    (case a23 => k_is)
    (case i23 => k_is)
    (case l23 => k_is)
    (case c23 => k_is)
    (case k23 => k_is)
    (case a24 => k_is)
    (case i24 => k_is)
    (case l24 => k_is)
    (case c24 => k_is)
    (case k24 => k_is)
    (case a25 => k_is)
    (case pg25 => k_is)
    (case pt25 => k_is)
    (case pr25 => k_is)
    (case l25 => k_is)
    (case c25 => k_is)
    (case k25 => k_is)
    (case a26 => k_is)
    (case pg26 => k_is)
    (case pt26 => k_is)
    (case pr26 => k_is)
    (case l26 => k_is)
    (case c26 => k_is)
    (case k26 => k_is)
    (case a27 => k_is)
    (case l27 => k_is)
    (case c27 => k_is)
    (case k27 => k_is)
    (case a28 => k_is)
    (case l28 => k_is)
    (case c28 => k_is)
    (case k28 => k_is)
    (case a29 => k_is)
    (case l29 => k_is)
    (case c29 => k_is)
    (case k29 => k_is)
    (case a30 => k_is)
    (case l30 => k_is)
    (case c30 => k_is)
    (case k30 => k_is)
    (case a31 => k_is)
    (case l31 => k_is)
    (case c31 => k_is)
    (case k31 => k_is)
    (case a32 => k_is)
    (case l32 => k_is)
    (case c32 => k_is)
    (case k32 => k_is)
    (case a33 => k_is)
    (case l33 => k_is)
    (case c33 => k_is)
    (case k33 => k_is)
    (case a34 => k_is)
    (case l34 => k_is)
    (case c34 => k_is)
    (case k34 => k_is)
    (case a35 => k_is)
    (case l35 => k_is)
    (case c35 => k_is)
    (case k35 => k_is)
    (case a36 => k_is)
    (case l36 => k_is)
    (case c36 => k_is)
    (case k36 => k_is)
    (case a37 => k_is)
    (case l37 => k_is)
    (case c37 => k_is)
    (case k37 => k_is)
    (case a38 => k_is)
    (case l38 => k_is)
    (case c38 => k_is)
    (case k38 => k_is)
    (case a39 => k_is)
    (case l39 => k_is)
    (case c39 => k_is)
    (case k39 => k_is)
    (case a40 => k_is)
    (case l40 => k_is)
    (case c40 => k_is)
    (case k40 => k_is)
    (case a41 => k_is)
    (case l41 => k_is)
    (case c41 => k_is)
    (case k41 => k_is)
    (case a42 => k_is)
    (case l42 => k_is)
    (case c42 => k_is)
    (case k42 => k_is)
    (case a43 => k_is)
    (case l43 => k_is)
    (case c43 => k_is)
    (case k43 => k_is)
    (case a44 => k_is)
    (case l44 => k_is)
    (case c44 => k_is)
    (case k44 => k_is)
