import PyProof.Rows.All
import Wide.All
import OpenK.AllK
import Wide.FinOn
import HandS.ForMost
import HandS.ForExc
import HandS.Defaults
import HandS.ExcInit
import HandS.ExcField
import HandS.IsInst
import HandS.Gcd
import HandS.SortKw
import HandS.SortInts
import HandS.Conv
import HandS.Zip
import HandS.Style
import HandS.Flow
import HandS.TupAny
import HandS.TupMul
import HandS.Wide
import HandS.Walk
import HandS.Evl
import HandS.EndBits
import HandS.HeadHook1
import HandS.HeadHook2
import KE.KMathGC
import KE.GoesEnum
import KE.KMinKey
import HandS.ExcCtx
import HandS.HotCalls
import HandS.Codes
import PySem.Challenge.RW_sincemarks_k67_whole_capacity_and_lines
set_option Elab.async false
set_option linter.all false
set_option maxRecDepth 100000
set_option maxHeartbeats 4000000
namespace K67
/-! ### binomials -/
def Cb : Nat → Nat → Nat
  | _, 0 => 1
  | 0, _ + 1 => 0
  | n + 1, k + 1 => Cb n k + Cb n (k + 1)
theorem Cb_zero (n : Nat) : Cb n 0 = 1 := by cases n <;> rfl
theorem Cb_succ (n k : Nat) : Cb (n + 1) (k + 1) = Cb n k + Cb n (k + 1) := rfl
theorem Cb_gt : ∀ (n k : Nat), n < k → Cb n k = 0
  | _, 0, h => absurd h (Nat.not_lt_zero _)
  | 0, k + 1, _ => rfl
  | n + 1, k + 1, h => by
    rw [Cb_succ, Cb_gt n k (by omega), Cb_gt n (k + 1) (by omega)]
theorem Cb_self : ∀ n, Cb n n = 1
  | 0 => rfl
  | n + 1 => by rw [Cb_succ, Cb_self n, Cb_gt n (n + 1) (by omega)]
theorem Cb_one : ∀ n, Cb n 1 = n
  | 0 => rfl
  | n + 1 => by rw [Cb_succ, Cb_one n, Cb_zero]; omega
theorem Cb_pos : ∀ (n k : Nat), k ≤ n → 1 ≤ Cb n k
  | n, 0, _ => by rw [Cb_zero]; omega
  | 0, k + 1, h => by omega
  | n + 1, k + 1, h => by
    have := Cb_pos n k (by omega)
    rw [Cb_succ]; omega
theorem Cb_mono (n k : Nat) : Cb n k ≤ Cb (n + 1) k := by
  cases k with
  | zero => rw [Cb_zero, Cb_zero]; omega
  | succ k => rw [Cb_succ]; omega
theorem Cb_mono_le {m n : Nat} (h : m ≤ n) (k : Nat) : Cb m k ≤ Cb n k := by
  induction h with
  | refl => exact Nat.le_refl _
  | step _ ih => exact Nat.le_trans ih (Cb_mono _ _)
theorem Cb_lt (n k : Nat) (h : k ≤ n) : Cb n (k + 1) < Cb (n + 1) (k + 1) := by
  have := Cb_pos n k h
  rw [Cb_succ]; omega
theorem Cb_symm : ∀ (a b : Nat), Cb (a + b) a = Cb (a + b) b
  | 0, b => by rw [Nat.zero_add, Cb_zero, Cb_self]
  | a + 1, 0 => by rw [Nat.add_zero, Cb_zero, Cb_self]
  | a + 1, b + 1 => by
    have e : a + 1 + (b + 1) = (a + 1 + b) + 1 := by omega
    rw [e, Cb_succ, Cb_succ]
    have h1 := Cb_symm (a + 1) b
    have h2 := Cb_symm a (b + 1)
    have e2 : a + (b + 1) = a + 1 + b := by omega
    rw [e2] at h2
    rw [h2, h1]; omega
/-- C(n, k + 1) (k + 1) = C(n, k) (n - k) -/
theorem Cb_step : ∀ (n k : Nat), Cb n (k + 1) * (k + 1) = Cb n k * (n - k)
  | 0, k => by
    cases k with
    | zero => rfl
    | succ k => rw [Cb_gt 0 (k + 1 + 1) (by omega), Cb_gt 0 (k + 1) (by omega), Nat.zero_mul, Nat.zero_mul]
  | n + 1, 0 => by
    rw [Cb_one, Cb_zero]; omega
  | n + 1, k + 1 => by
    have h1 := Cb_step n k
    have h2 := Cb_step n (k + 1)
    rw [Cb_succ, Cb_succ n k]
    by_cases hk : k + 1 ≤ n
    · have e1 : n - k = (n - (k + 1)) + 1 := by omega
      have e2 : n + 1 - (k + 1) = (n - (k + 1)) + 1 := by omega
      rw [e1] at h1
      rw [e2]
      generalize n - (k + 1) = d at *
      generalize Cb n k = x at *
      generalize Cb n (k + 1) = y at *
      generalize Cb n (k + 1 + 1) = z at *
      have a1 : (y + z) * (k + 1 + 1) = y * (k + 1) + y + z * (k + 1 + 1) := by
        rw [Nat.add_mul, Nat.mul_add y (k + 1) 1, Nat.mul_one]
      have a2 : (x + y) * (d + 1) = x * (d + 1) + (y * d + y) := by
        rw [Nat.add_mul, Nat.mul_add y d 1, Nat.mul_one]
      rw [a1, a2, h1, h2]; omega
    · rw [Cb_gt n (k + 1) (by omega), Cb_gt n (k + 1 + 1) (by omega)]
      have : n + 1 - (k + 1) = 0 := by omega
      rw [this, Nat.mul_zero, Nat.zero_add, Nat.zero_mul]
/-! ### numbers of rows -/
def Nn : Nat → List Nat → Nat
  | 0, _ => 0
  | _ + 1, [] => 0
  | w + 1, a :: l => Cb (a + w) (w + 1) + Nn w l
theorem Nn_nil (w : Nat) : Nn w [] = 0 := by cases w <;> rfl
theorem Nn_cons (w a : Nat) (l : List Nat) : Nn (w + 1) (a :: l) = Cb (a + w) (w + 1) + Nn w l := rfl
/-- descending -/
def Dn : List Nat → Prop
  | [] => True
  | a :: l => (∀ x ∈ l, x ≤ a) ∧ Dn l
/-- all from 1 on -/
def Pz (l : List Nat) : Prop := ∀ x ∈ l, 1 ≤ x
theorem Pz.tail {a : Nat} {l : List Nat} (h : Pz (a :: l)) : Pz l := fun x hx => h x (List.mem_cons_of_mem _ hx)
theorem Nn_le_succ : ∀ (w : Nat) (l : List Nat), Nn w l ≤ Nn (w + 1) l
  | 0, _ => Nat.zero_le _
  | _ + 1, [] => by rw [Nn_nil, Nn_nil]; omega
  | w + 1, a :: l => by
    have h := Nn_le_succ w l
    have e : Cb (a + (w + 1)) (w + 1 + 1) = Cb (a + w) (w + 1) + Cb (a + w) (w + 1 + 1) := rfl
    rw [Nn_cons, Nn_cons, e]; omega
/-- a row with members up to a is below C(a + w, w) -/
theorem Nn_lt : ∀ (w a : Nat) (l : List Nat), Dn l → (∀ x ∈ l, x ≤ a) → Nn w l < Cb (a + w) w
  | 0, a, l, _, _ => by rw [Nat.add_zero, Cb_zero]; exact Nat.one_pos
  | w + 1, a, [], _, _ => by rw [Nn_nil]; exact Cb_pos _ _ (by omega)
  | w + 1, a, b :: l, hd, ha => by
    have hb : b ≤ a := ha b List.mem_cons_self
    have h1 := Nn_lt w b l hd.2 hd.1
    have h2 : Cb (b + w) (w + 1) + Cb (b + w) w = Cb (b + (w + 1)) (w + 1) := by
      rw [show b + (w + 1) = (b + w) + 1 from rfl, Cb_succ]; omega
    have h3 := Cb_mono_le (show b + (w + 1) ≤ a + (w + 1) by omega) (w + 1)
    rw [Nn_cons]; omega
theorem Nn_ge (w a : Nat) (l : List Nat) : Cb (a + w) (w + 1) ≤ Nn (w + 1) (a :: l) := by
  rw [Nn_cons]; omega
theorem Nn_take : ∀ (w : Nat) (l : List Nat), Nn w (l.take w) = Nn w l
  | 0, _ => rfl
  | _ + 1, [] => rfl
  | w + 1, a :: l => by
    show Cb (a + w) (w + 1) + Nn w (l.take w) = _
    rw [Nn_take w l]; rfl
/-! ### sorting -/
def ins (b : Nat) : List Nat → List Nat
  | [] => [b]
  | a :: l => if a ≤ b then b :: a :: l else a :: ins b l
def srt : List Nat → List Nat
  | [] => []
  | a :: l => ins a (srt l)
theorem ins_mem {b x : Nat} : ∀ {l : List Nat}, x ∈ ins b l → x = b ∨ x ∈ l
  | [], h => by
    rcases List.mem_cons.mp h with h | h
    · exact .inl h
    · cases h
  | a :: l, h => by
    unfold ins at h
    split at h
    · rcases List.mem_cons.mp h with h | h
      · exact .inl h
      · exact .inr h
    · rcases List.mem_cons.mp h with h | h
      · exact .inr (h ▸ List.mem_cons_self)
      · rcases ins_mem h with h | h
        · exact .inl h
        · exact .inr (List.mem_cons_of_mem _ h)
theorem ins_dn {b : Nat} : ∀ {l : List Nat}, Dn l → Dn (ins b l)
  | [], _ => ⟨fun _ h => (nomatch h), trivial⟩
  | a :: l, h => by
    unfold ins
    split
    · rename_i c
      refine ⟨fun x hx => ?_, h⟩
      rcases List.mem_cons.mp hx with hx | hx
      · omega
      · have := h.1 x hx; omega
    · refine ⟨fun x hx => ?_, ins_dn h.2⟩
      rcases ins_mem hx with hx | hx
      · omega
      · exact h.1 x hx
theorem srt_dn : ∀ l : List Nat, Dn (srt l)
  | [] => trivial
  | _ :: l => ins_dn (srt_dn l)
theorem ins_perm (b : Nat) : ∀ l : List Nat, (ins b l).Perm (b :: l)
  | [] => List.Perm.refl _
  | a :: l => by
    unfold ins
    split
    · exact List.Perm.refl _
    · exact ((ins_perm b l).cons a).trans (List.Perm.swap b a l)
theorem srt_perm : ∀ l : List Nat, (srt l).Perm l
  | [] => List.Perm.refl _
  | a :: l => (ins_perm a (srt l)).trans ((srt_perm l).cons a)
/-- descending lists with the same members are one -/
theorem dn_unique : ∀ {l m : List Nat}, Dn l → Dn m → l.Perm m → l = m
  | [], m, _, _, p => (List.Perm.nil_eq p)
  | a :: l, [], _, _, p => by
    have := p.length_eq
    simp at this
  | a :: l, b :: m, hl, hm, p => by
    have h1 : b ≤ a := by
      have : b ∈ a :: l := p.symm.subset List.mem_cons_self
      rcases List.mem_cons.mp this with h | h
      · omega
      · exact hl.1 b h
    have h2 : a ≤ b := by
      have : a ∈ b :: m := p.subset List.mem_cons_self
      rcases List.mem_cons.mp this with h | h
      · omega
      · exact hm.1 a h
    have e : a = b := by omega
    subst e
    rw [dn_unique hl.2 hm.2 (List.Perm.cons_inv p)]
theorem srt_of_perm {l m : List Nat} (p : l.Perm m) : srt l = srt m := dn_unique (srt_dn l) (srt_dn m) ((srt_perm l).trans (p.trans (srt_perm m).symm))
theorem srt_of_dn {l : List Nat} (h : Dn l) : srt l = l := dn_unique (srt_dn l) h (srt_perm l)
theorem ins_top {a : Nat} {l : List Nat} (h : ∀ x ∈ l, x ≤ a) : ins a l = a :: l := by
  cases l with
  | nil => rfl
  | cons b l =>
    unfold ins
    rw [if_pos (h b List.mem_cons_self)]
theorem srt_mem {l : List Nat} {x : Nat} : x ∈ srt l ↔ x ∈ l := ⟨fun h => (srt_perm l).subset h, fun h => (srt_perm l).symm.subset h⟩
theorem srt_top {a : Nat} {l : List Nat} (h : ∀ x ∈ l, x ≤ a) : srt (a :: l) = a :: srt l := ins_top fun x hx => h x (srt_mem.mp hx)
theorem Pz_srt {l : List Nat} (h : Pz l) : Pz (srt l) := fun x hx => h x (srt_mem.mp hx)
/-! ### joining adds at most -/
theorem Nn_join : ∀ (w : Nat) (A B : List Nat), Dn A → Dn B → Nn w (srt (A ++ B)) ≤ Nn w A + Nn w B
  | 0, _, _, _, _ => Nat.zero_le _
  | w + 1, [], B, _, hB => by rw [List.nil_append, srt_of_dn hB]; omega
  | w + 1, A, [], hA, _ => by rw [List.append_nil, srt_of_dn hA]; omega
  | w + 1, a :: A, b :: B, hA, hB => by
    by_cases c : b ≤ a
    · have t : srt ((a :: A) ++ (b :: B)) = a :: srt (A ++ (b :: B)) := srt_top fun x hx => by
        rcases List.mem_append.mp hx with h | h
        · exact hA.1 x h
        · rcases List.mem_cons.mp h with h | h
          · omega
          · have := hB.1 x h; omega
      rw [t, Nn_cons, Nn_cons]
      have h1 := Nn_join w A (b :: B) hA.2 hB
      have h2 := Nn_le_succ w (b :: B)
      omega
    · have t : srt ((a :: A) ++ (b :: B)) = b :: srt ((a :: A) ++ B) := by
        have p : ((a :: A) ++ (b :: B)).Perm (b :: ((a :: A) ++ B)) := List.perm_middle
        rw [srt_of_perm p]
        refine srt_top fun x hx => ?_
        rcases List.mem_append.mp hx with h | h
        · rcases List.mem_cons.mp h with h | h
          · omega
          · have := hA.1 x h; omega
        · exact hB.1 x h
      rw [t, Nn_cons, Nn_cons w b B]
      have h1 := Nn_join w (a :: A) B hA hB.2
      have h2 := Nn_le_succ w (a :: A)
      omega
/-! ### the step adds one -/
def stH (w : Nat) (l : List Nat) : Nat := match l[w - 1]? with
  | some x => x + 1
  | none => 1
def stp (w : Nat) (l : List Nat) : List Nat := l.filter (fun x => decide (stH w l ≤ x)) ++ [stH w l]
theorem filter_none {t : Nat} : ∀ {l : List Nat}, (∀ x ∈ l, x < t) → l.filter (fun x => decide (t ≤ x)) = []
  | [], _ => rfl
  | a :: l, h => by
    have h1 := h a List.mem_cons_self
    rw [List.filter_cons, if_neg (by simp only [decide_eq_true_eq]; omega)]
    exact filter_none fun x hx => h x (List.mem_cons_of_mem _ hx)
theorem Nn_flat : ∀ (w a : Nat) (l : List Nat), (∀ i < w, l[i]? = some a) → Nn w l + 1 = Cb (a + w) w
  | 0, a, l, _ => by rw [Cb_zero]; rfl
  | w + 1, a, [], h => by
    have := h 0 (by omega)
    cases this
  | w + 1, a, b :: l, h => by
    have e : b = a := Option.some.inj (h 0 (by omega))
    subst e
    have h1 := Nn_flat w b l fun i hi => h (i + 1) (by omega)
    have h2 : Cb (b + (w + 1)) (w + 1) = Cb (b + w) w + Cb (b + w) (w + 1) := rfl
    rw [Nn_cons, h2]; omega
theorem dn_get : ∀ {l : List Nat} {i j : Nat} {x y : Nat}, Dn l → i ≤ j → l[i]? = some x → l[j]? = some y → y ≤ x
  | [], _, _, _, _, _, _, h, _ => by cases h
  | a :: l, 0, 0, x, y, _, _, h, h' => by
    have e1 : a = x := Option.some.inj h
    have e2 : a = y := Option.some.inj h'
    omega
  | a :: l, 0, j + 1, x, y, hd, _, h, h' => by
    have e1 : a = x := Option.some.inj h
    have h2 : l[j]? = some y := h'
    have := hd.1 y (List.mem_of_getElem? h2)
    omega
  | a :: l, i + 1, 0, _, _, _, hij, _, _ => by omega
  | a :: l, i + 1, j + 1, x, y, hd, hij, h, h' => dn_get (l := l) (i := i) (j := j) hd.2 (by omega) h h'
theorem Nn_stp : ∀ (w : Nat) (l : List Nat), Dn l → Pz l → Nn (w + 1) (stp (w + 1) l) = Nn (w + 1) l + 1
  | w, [], _, _ => by
    have e : stp (w + 1) [] = [1] := by
      unfold stp stH
      rfl
    rw [e, Nn_cons, Nn_nil, Nn_nil]
    show Cb (1 + w) (w + 1) + 0 = 1
    rw [Nat.add_comm 1 w, Cb_self]
  | 0, a :: l, hd, _ => by
    have e : stH 1 (a :: l) = a + 1 := rfl
    have e2 : stp 1 (a :: l) = [a + 1] := by
      unfold stp
      rw [e, filter_none]
      · rfl
      · intro x hx
        rcases List.mem_cons.mp hx with h | h
        · omega
        · have := hd.1 x h; omega
    rw [e2]
    show Cb (a + 1 + 0) 1 + 0 = Cb (a + 0) 1 + Nn 0 l + 1
    rw [Cb_one, Cb_one]
    show a + 1 + 0 + 0 = a + 0 + 0 + 1
    omega
  | w + 1, a :: l, hd, hp => by
    have et : stH (w + 1 + 1) (a :: l) = stH (w + 1) l := rfl
    have ih := Nn_stp w l hd.2 hp.tail
    by_cases c : stH (w + 1) l ≤ a
    · have e : stp (w + 1 + 1) (a :: l) = a :: stp (w + 1) l := by
        unfold stp
        rw [et, List.filter_cons, if_pos (by simpa using c)]
        rfl
      rw [e, Nn_cons, ih, Nn_cons]; omega
    · have hx : ∃ x, l[w]? = some x ∧ stH (w + 1) l = x + 1 := by
        cases q : l[w]? with
        | some x =>
          refine ⟨x, rfl, ?_⟩
          show (match l[w]? with | some x => x + 1 | none => 1) = x + 1
          rw [q]
        | none =>
          exfalso
          apply c
          have : stH (w + 1) l = 1 := by
            show (match l[w]? with | some x => x + 1 | none => 1) = 1
            rw [q]
          rw [this]
          exact hp a List.mem_cons_self
      obtain ⟨x, hx, ht⟩ := hx
      have hxa : x ≤ a := hd.1 x (List.mem_of_getElem? hx)
      have exa : x = a := by omega
      subst exa
      have e : stp (w + 1 + 1) (x :: l) = [x + 1] := by
        unfold stp
        rw [et, ht, filter_none]
        · rfl
        · intro y hy
          rcases List.mem_cons.mp hy with h | h
          · omega
          · have := hd.1 y h; omega
      have hf : ∀ i < w + 1 + 1, (x :: l)[i]? = some x := by
        intro i hi
        have hlen : w < l.length := (List.getElem?_eq_some_iff.mp hx).1
        have hi' : i < (x :: l).length := by rw [List.length_cons]; omega
        have g := List.getElem?_eq_getElem hi'
        have u1 := dn_get (i := 0) (j := i) hd (by omega) rfl g
        have u2 := dn_get (i := i) (j := w + 1) hd (by omega) g (show (x :: l)[w + 1]? = some x from hx)
        rw [g]
        exact congrArg some (by omega)
      have h2 := Nn_flat (w + 1 + 1) x (x :: l) hf
      rw [h2, e, Nn_cons, Nn_nil]
      show Cb (x + 1 + (w + 1)) (w + 1 + 1) + 0 = Cb (x + (w + 1 + 1)) (w + 1 + 1)
      rw [Nat.add_zero]
      exact congrArg (fun z => Cb z (w + 1 + 1)) (by omega)
theorem filter_dn {p : Nat → Bool} : ∀ {l : List Nat}, Dn l → Dn (l.filter p)
  | [], _ => trivial
  | a :: l, h => by
    rw [List.filter_cons]
    split
    · exact ⟨fun x hx => h.1 x (List.mem_filter.mp hx).1, filter_dn h.2⟩
    · exact filter_dn h.2
theorem dn_snoc {t : Nat} : ∀ {l : List Nat}, Dn l → (∀ x ∈ l, t ≤ x) → Dn (l ++ [t])
  | [], _, _ => ⟨fun _ h => (nomatch h), trivial⟩
  | a :: l, h, ht => by
    refine ⟨fun x hx => ?_, dn_snoc h.2 fun x hx => ht x (List.mem_cons_of_mem _ hx)⟩
    rcases List.mem_append.mp hx with hx | hx
    · exact h.1 x hx
    · rcases List.mem_cons.mp hx with hx | hx
      · rw [hx]; exact ht a List.mem_cons_self
      · cases hx
theorem stp_dn {w : Nat} {l : List Nat} (h : Dn l) : Dn (stp w l) := dn_snoc (filter_dn h) fun x hx => of_decide_eq_true (List.mem_filter.mp hx).2
theorem stH_pos (w : Nat) (l : List Nat) : 1 ≤ stH w l := by
  unfold stH
  split <;> omega
theorem stp_pz {w : Nat} {l : List Nat} (h : Pz l) : Pz (stp w l) := fun x hx => by
  rcases List.mem_append.mp hx with hx | hx
  · exact h x (List.mem_filter.mp hx).1
  · rcases List.mem_cons.mp hx with hx | hx
    · rw [hx]; exact stH_pos w l
    · cases hx
end K67
set_option maxHeartbeats 4000000
namespace K67
/-! ### the order of rows -/
def Le : Nat → List Nat → List Nat → Prop
  | 0, _, _ => True
  | _ + 1, [], _ => True
  | _ + 1, _ :: _, [] => False
  | w + 1, a :: l, b :: m => a < b ∨ (a = b ∧ Le w l m)
theorem Le.nn : ∀ {w : Nat} {A B : List Nat}, Dn A → Dn B → Le w A B → Nn w A ≤ Nn w B
  | 0, _, _, _, _, _ => Nat.le_refl _
  | w + 1, [], _, _, _, _ => by rw [Nn_nil]; omega
  | w + 1, a :: l, [], _, _, h => h.elim
  | w + 1, a :: l, b :: m, hA, hB, h => by
    rcases h with h | ⟨e, h⟩
    · have h1 := Nn_lt (w + 1) a (a :: l) hA fun x hx => by
        rcases List.mem_cons.mp hx with q | q
        · omega
        · exact hA.1 x q
      have h2 := Cb_mono_le (show a + (w + 1) ≤ b + w by omega) (w + 1)
      have h3 := Nn_ge w b m
      omega
    · subst e
      have := Le.nn hA.2 hB.2 h
      rw [Nn_cons, Nn_cons]; omega
theorem Le.of : ∀ {w : Nat} {A B : List Nat}, Dn A → Dn B → Pz A → Nn w A ≤ Nn w B → Le w A B
  | 0, _, _, _, _, _, _ => trivial
  | w + 1, [], _, _, _, _, _ => trivial
  | w + 1, a :: l, [], _, _, hp, h => by
    have h1 := Nn_ge w a l
    have h2 := Cb_pos (a + w) (w + 1) (by have := hp a List.mem_cons_self; omega)
    rw [Nn_nil] at h
    omega
  | w + 1, a :: l, b :: m, hA, hB, hp, h => by
    by_cases c : a < b
    · exact .inl c
    · by_cases e : a = b
      · subst e
        rw [Nn_cons, Nn_cons] at h
        exact .inr ⟨rfl, Le.of hA.2 hB.2 hp.tail (by omega)⟩
      · exfalso
        have h1 := Nn_lt (w + 1) b (b :: m) hB fun x hx => by
          rcases List.mem_cons.mp hx with q | q
          · omega
          · exact hB.1 x q
        have h2 := Cb_mono_le (show b + (w + 1) ≤ a + w by omega) (w + 1)
        have h3 := Nn_ge w a l
        omega
theorem Le.down : ∀ {w : Nat} {A B : List Nat}, Le (w + 1) A B → Le w A B
  | 0, _, _, _ => trivial
  | w + 1, [], _, _ => trivial
  | w + 1, a :: l, [], h => h.elim
  | w + 1, a :: l, b :: m, h => by
    rcases h with h | ⟨e, h⟩
    · exact .inl h
    · exact .inr ⟨e, Le.down h⟩
theorem Le.refl : ∀ (w : Nat) (A : List Nat), Le w A A
  | 0, _ => trivial
  | _ + 1, [] => trivial
  | w + 1, _ :: l => .inr ⟨rfl, Le.refl w l⟩
theorem ins_le (x : Nat) : ∀ {w : Nat} {A B : List Nat}, Le w A B → Le w (ins x A) (ins x B)
  | 0, _, _, _ => trivial
  | w + 1, [], [], _ => .inr ⟨rfl, Le.refl _ _⟩
  | w + 1, [], b :: m, _ => by
    unfold ins
    by_cases c : b ≤ x
    · rw [if_pos c]
      refine .inr ⟨rfl, ?_⟩
      cases w <;> trivial
    · rw [if_neg c]
      exact .inl (by omega)
  | w + 1, a :: l, [], h => h.elim
  | w + 1, a :: l, b :: m, h => by
    have hd := Le.down h
    rcases h with h | ⟨e, h⟩
    · unfold ins
      by_cases c : b ≤ x
      · rw [if_pos c, if_pos (by omega)]
        exact .inr ⟨rfl, hd⟩
      · rw [if_neg c]
        by_cases c2 : a ≤ x
        · rw [if_pos c2]; exact .inl (by omega)
        · rw [if_neg c2]; exact .inl h
    · subst e
      unfold ins
      by_cases c : a ≤ x
      · rw [if_pos c, if_pos c]
        exact .inr ⟨rfl, hd⟩
      · rw [if_neg c, if_neg c]
        exact .inr ⟨rfl, ins_le x h⟩
theorem srt_app_le {w : Nat} {A B : List Nat} (h : Le w (srt A) (srt B)) : ∀ X : List Nat, Le w (srt (X ++ A)) (srt (X ++ B))
  | [] => h
  | x :: X => ins_le x (srt_app_le h X)
theorem Nn_app {w : Nat} {A B : List Nat} (hA : Pz A) (h : Nn w (srt A) ≤ Nn w (srt B)) (X : List Nat) : Nn w (srt (X ++ A)) ≤ Nn w (srt (X ++ B)) :=
  (srt_app_le (Le.of (srt_dn A) (srt_dn B) (Pz_srt hA) h) X).nn (srt_dn _) (srt_dn _)
theorem Nn_app2 {w : Nat} {A B : List Nat} (hA : Pz A) (h : Nn w (srt A) ≤ Nn w (srt B)) (X : List Nat) : Nn w (srt (A ++ X)) ≤ Nn w (srt (B ++ X)) := by
  rw [srt_of_perm (List.perm_append_comm (l₁ := A) (l₂ := X)), srt_of_perm (List.perm_append_comm (l₁ := B) (l₂ := X))]
  exact Nn_app hA h X
theorem srt_srt (A : List Nat) : srt (srt A) = srt A := srt_of_dn (srt_dn A)
theorem srt_app_srt (A B : List Nat) : srt (srt A ++ srt B) = srt (A ++ B) := srt_of_perm (List.Perm.append (srt_perm A) (srt_perm B))
theorem Nn_join' (w : Nat) (A B : List Nat) : Nn w (srt (A ++ B)) ≤ Nn w (srt A) + Nn w (srt B) := by
  rw [← srt_app_srt]
  exact Nn_join w _ _ (srt_dn A) (srt_dn B)
/-- less members weigh no more -/
theorem Nn_sub (w : Nat) (A B : List Nat) (hB : Pz B) : Nn w (srt A) ≤ Nn w (srt (A ++ B)) := by
  have h := Nn_app (w := w) (A := []) (B := B) (fun _ h => nomatch h) (by show Nn w [] ≤ _; rw [Nn_nil]; omega) A
  rw [List.append_nil] at h
  exact h
/-! ### forests -/
inductive Fo where
  | nil
  | cons (v : Nat) (kids sibs : Fo)
def Gm (w : Nat) (M : Nat → Bool) : Fo → List Nat
  | .nil => []
  | .cons v k s => Gm w M s ++ (if M v = true then stp w (srt (Gm w M k)) else Gm w M k)
def ids : Fo → List Nat
  | .nil => []
  | .cons v k s => v :: (ids k ++ ids s)
def Wt (w : Nat) (M : Nat → Bool) (f : Fo) : Nat := Nn w (srt (Gm w M f))
theorem Gm_pz (w : Nat) (M : Nat → Bool) : ∀ f : Fo, Pz (Gm w M f)
  | .nil => fun _ h => nomatch h
  | .cons v k s => fun x hx => by
    rcases List.mem_append.mp hx with h | h
    · exact Gm_pz w M s x h
    · split at h
      · exact stp_pz (Pz_srt (Gm_pz w M k)) x h
      · exact Gm_pz w M k x h
theorem Gm_eq {w : Nat} {M M' : Nat → Bool} : ∀ {f : Fo}, (∀ i ∈ ids f, M i = M' i) → Gm w M f = Gm w M' f
  | .nil, _ => rfl
  | .cons v k s, h => by
    have hv := h v List.mem_cons_self
    have hk : Gm w M k = Gm w M' k := Gm_eq fun i hi => h i (List.mem_cons_of_mem _ (List.mem_append_left _ hi))
    have hs : Gm w M s = Gm w M' s := Gm_eq fun i hi => h i (List.mem_cons_of_mem _ (List.mem_append_right _ hi))
    show Gm w M s ++ _ = Gm w M' s ++ _
    rw [hs, hk, hv]
theorem Gm_none {w : Nat} {M : Nat → Bool} : ∀ {f : Fo}, (∀ i ∈ ids f, M i = false) → Gm w M f = []
  | .nil, _ => rfl
  | .cons v k s, h => by
    have hv := h v List.mem_cons_self
    show Gm w M s ++ (if M v = true then stp w (srt (Gm w M k)) else Gm w M k) = []
    rw [Gm_none (f := s) fun i hi => h i (List.mem_cons_of_mem _ (List.mem_append_right _ hi)), Gm_none (f := k) fun i hi => h i (List.mem_cons_of_mem _ (List.mem_append_left _ hi)), hv]
    rfl
/-- a forest weighs at most as many as it has -/
theorem Wt_le (w : Nat) (M : Nat → Bool) : ∀ f : Fo, Wt (w + 1) M f ≤ (ids f).countP M
  | .nil => by show Nn (w + 1) [] ≤ 0; rw [Nn_nil]; omega
  | .cons v k s => by
    have hk := Wt_le w M k
    have hs := Wt_le w M s
    have hj := Nn_join' (w + 1) (Gm (w + 1) M s) (if M v = true then stp (w + 1) (srt (Gm (w + 1) M k)) else Gm (w + 1) M k)
    have hc : (ids (.cons v k s)).countP M = (ids k).countP M + (ids s).countP M + (if M v = true then 1 else 0) := by
      show (v :: (ids k ++ ids s)).countP M = _
      rw [List.countP_cons, List.countP_append]
    show Nn (w + 1) (srt (Gm (w + 1) M s ++ _)) ≤ _
    rw [hc]
    unfold Wt at hk hs
    by_cases c : M v = true
    · rw [if_pos c] at hj ⊢
      rw [if_pos c]
      rw [srt_of_dn (stp_dn (srt_dn _)), Nn_stp w _ (srt_dn _) (Pz_srt (Gm_pz _ _ _))] at hj
      omega
    · rw [if_neg c] at hj ⊢
      rw [if_neg c]
      omega
theorem Wt_mono (w : Nat) {M M' : Nat → Bool} : ∀ {f : Fo}, (∀ i ∈ ids f, M' i = true → M i = true) → Wt (w + 1) M' f ≤ Wt (w + 1) M f
  | .nil, _ => Nat.le_refl _
  | .cons v k s, h => by
    have hv := h v List.mem_cons_self
    have hk : Wt (w + 1) M' k ≤ Wt (w + 1) M k := Wt_mono w fun i hi => h i (List.mem_cons_of_mem _ (List.mem_append_left _ hi))
    have hs : Wt (w + 1) M' s ≤ Wt (w + 1) M s := Wt_mono w fun i hi => h i (List.mem_cons_of_mem _ (List.mem_append_right _ hi))
    unfold Wt at hk hs
    refine Nat.le_trans (Nn_app2 (Gm_pz _ _ _) hs _) (Nn_app ?_ ?_ _)
    · split
      · exact stp_pz (Pz_srt (Gm_pz _ _ _))
      · exact Gm_pz _ _ _
    · have e1 : ∀ N : Nat → Bool, Nn (w + 1) (srt (stp (w + 1) (srt (Gm (w + 1) N k)))) = Nn (w + 1) (srt (Gm (w + 1) N k)) + 1 := fun N => by
        rw [srt_of_dn (stp_dn (srt_dn _)), Nn_stp w _ (srt_dn _) (Pz_srt (Gm_pz _ _ _))]
      by_cases c : M' v = true
      · rw [if_pos c, if_pos (hv c), e1, e1]; omega
      · rw [if_neg c]
        by_cases c2 : M v = true
        · rw [if_pos c2, e1]; omega
        · rw [if_neg c2]; omega
/-! ### small walls -/
def gs (w : Nat) : Nat → Nat
  | 0 => 0
  | t + 1 => 1 + w * gs w t
def gsum (w : Nat) (l : List Nat) : Nat := (l.map (gs w)).sum
theorem gsum_cons (w a : Nat) (l : List Nat) : gsum w (a :: l) = gs w a + gsum w l := by
  unfold gsum
  rw [List.map_cons, List.sum_cons]
theorem gsum_append (w : Nat) (l m : List Nat) : gsum w (l ++ m) = gsum w l + gsum w m := by
  unfold gsum
  rw [List.map_append, List.sum_append]
theorem gsum_perm {w : Nat} {l m : List Nat} (p : l.Perm m) : gsum w l = gsum w m := by
  unfold gsum
  exact (p.map _).sum_nat
theorem gsum_flat (W a : Nat) : ∀ (w : Nat) (l : List Nat), (∀ i < w, l[i]? = some a) → gsum W (l.take w) = w * gs W a
  | 0, l, _ => by rw [List.take_zero, Nat.zero_mul]; rfl
  | w + 1, [], h => by
    have := h 0 (by omega)
    cases this
  | w + 1, b :: l, h => by
    have e : b = a := Option.some.inj (h 0 (by omega))
    subst e
    rw [List.take_succ_cons, gsum_cons, gsum_flat W b w l fun i hi => h (i + 1) (by omega), Nat.add_mul, Nat.one_mul, Nat.add_comm]
theorem stp_cost (W : Nat) : ∀ (w : Nat) (l : List Nat), w + 1 ≤ W → Dn l → Pz l → gsum W (l.take (w + 1)) + 1 ≤ gsum W (stp (w + 1) l)
  | w, [], _, _, _ => by
    have e : stp (w + 1) [] = [1] := by
      unfold stp stH
      rfl
    rw [e]
    show gsum W [] + 1 ≤ gsum W [1]
    rw [gsum_cons]
    show 0 + 1 ≤ 1 + W * 0 + 0
    omega
  | 0, a :: l, hW, hd, _ => by
    have e : stH 1 (a :: l) = a + 1 := rfl
    have e2 : stp 1 (a :: l) = [a + 1] := by
      unfold stp
      rw [e, filter_none]
      · rfl
      · intro x hx
        rcases List.mem_cons.mp hx with h | h
        · omega
        · have := hd.1 x h; omega
    rw [e2]
    show gsum W [a] + 1 ≤ gsum W [a + 1]
    rw [gsum_cons, gsum_cons]
    show gs W a + 0 + 1 ≤ 1 + W * gs W a + 0
    have := Nat.mul_le_mul_right (gs W a) hW
    omega
  | w + 1, a :: l, hW, hd, hp => by
    have et : stH (w + 1 + 1) (a :: l) = stH (w + 1) l := rfl
    have ih := stp_cost W w l (by omega) hd.2 hp.tail
    by_cases c : stH (w + 1) l ≤ a
    · have e : stp (w + 1 + 1) (a :: l) = a :: stp (w + 1) l := by
        unfold stp
        rw [et, List.filter_cons, if_pos (by simpa using c)]
        rfl
      rw [e, List.take_succ_cons, gsum_cons, gsum_cons]; omega
    · have hx : ∃ x, l[w]? = some x ∧ stH (w + 1) l = x + 1 := by
        cases q : l[w]? with
        | some x =>
          refine ⟨x, rfl, ?_⟩
          show (match l[w]? with | some x => x + 1 | none => 1) = x + 1
          rw [q]
        | none =>
          exfalso
          apply c
          have : stH (w + 1) l = 1 := by
            show (match l[w]? with | some x => x + 1 | none => 1) = 1
            rw [q]
          rw [this]
          exact hp a List.mem_cons_self
      obtain ⟨x, hx, ht⟩ := hx
      have hxa : x ≤ a := hd.1 x (List.mem_of_getElem? hx)
      have exa : x = a := by omega
      subst exa
      have e : stp (w + 1 + 1) (x :: l) = [x + 1] := by
        unfold stp
        rw [et, ht, filter_none]
        · rfl
        · intro y hy
          rcases List.mem_cons.mp hy with h | h
          · omega
          · have := hd.1 y h; omega
      have hf : ∀ i < w + 1 + 1, (x :: l)[i]? = some x := by
        intro i hi
        have hlen : w < l.length := (List.getElem?_eq_some_iff.mp hx).1
        have hi' : i < (x :: l).length := by rw [List.length_cons]; omega
        have g := List.getElem?_eq_getElem hi'
        have u1 := dn_get (i := 0) (j := i) hd (by omega) rfl g
        have u2 := dn_get (i := i) (j := w + 1) hd (by omega) g (show (x :: l)[w + 1]? = some x from hx)
        rw [g]
        exact congrArg some (by omega)
      rw [gsum_flat W x (w + 1 + 1) _ hf, e, gsum_cons]
      show (w + 1 + 1) * gs W x + 1 ≤ 1 + W * gs W x + 0
      have := Nat.mul_le_mul_right (gs W x) hW
      omega
theorem take_split : ∀ (j : Nat) (X Y : List Nat), Dn X → Dn Y → ∃ i1 i2, i1 ≤ j ∧ i2 ≤ j ∧ ((srt (X ++ Y)).take j).Perm (X.take i1 ++ Y.take i2)
  | 0, X, Y, _, _ => ⟨0, 0, Nat.le_refl _, Nat.le_refl _, by simp⟩
  | j + 1, [], Y, _, hY => ⟨0, j + 1, by omega, Nat.le_refl _, by
      rw [List.nil_append, srt_of_dn hY]
      exact List.Perm.refl _⟩
  | j + 1, X, [], hX, _ => ⟨j + 1, 0, Nat.le_refl _, by omega, by
      rw [List.append_nil, srt_of_dn hX, List.take_zero, List.append_nil]⟩
  | j + 1, a :: A, b :: B, hA, hB => by
    by_cases c : b ≤ a
    · have t : srt ((a :: A) ++ (b :: B)) = a :: srt (A ++ (b :: B)) := srt_top fun x hx => by
        rcases List.mem_append.mp hx with h | h
        · exact hA.1 x h
        · rcases List.mem_cons.mp h with h | h
          · omega
          · have := hB.1 x h; omega
      obtain ⟨i1, i2, h1, h2, p⟩ := take_split j A (b :: B) hA.2 hB
      refine ⟨i1 + 1, i2, by omega, by omega, ?_⟩
      rw [t, List.take_succ_cons, List.take_succ_cons]
      exact p.cons a
    · have t : srt ((a :: A) ++ (b :: B)) = b :: srt ((a :: A) ++ B) := by
        have p : ((a :: A) ++ (b :: B)).Perm (b :: ((a :: A) ++ B)) := List.perm_middle
        rw [srt_of_perm p]
        refine srt_top fun x hx => ?_
        rcases List.mem_append.mp hx with h | h
        · rcases List.mem_cons.mp h with h | h
          · omega
          · have := hA.1 x h; omega
        · exact hB.1 x h
      obtain ⟨i1, i2, h1, h2, p⟩ := take_split j (a :: A) B hA hB.2
      refine ⟨i1, i2 + 1, by omega, by omega, ?_⟩
      rw [t, List.take_succ_cons, List.take_succ_cons]
      exact (p.cons b).trans List.perm_middle.symm
theorem filter_take {t : Nat} : ∀ {l : List Nat}, Dn l → l.filter (fun x => decide (t ≤ x)) = l.take (l.filter (fun x => decide (t ≤ x))).length
  | [], _ => rfl
  | a :: l, h => by
    rw [List.filter_cons]
    split
    · rw [List.length_cons, List.take_succ_cons, ← filter_take h.2]
    · rename_i c
      have c' : ¬ t ≤ a := by simpa using c
      rw [filter_none fun x hx => by have := h.1 x hx; omega]
      rfl
theorem dn_take : ∀ {l : List Nat} (i : Nat), Dn l → Dn (l.take i)
  | [], i, _ => by rw [List.take_nil]; trivial
  | a :: l, 0, _ => trivial
  | a :: l, i + 1, h => ⟨fun x hx => h.1 x (List.mem_of_mem_take hx), dn_take i h.2⟩
def mix (A : List Nat) (M N : Nat → Bool) : Nat → Bool := fun i => if i ∈ A then M i else N i
theorem mix_in {A : List Nat} {M N : Nat → Bool} {i : Nat} (h : i ∈ A) : mix A M N i = M i := if_pos h
theorem mix_out {A : List Nat} {M N : Nat → Bool} {i : Nat} (h : i ∉ A) : mix A M N i = N i := if_neg h
theorem countP_same {M N : Nat → Bool} {l : List Nat} (h : ∀ i ∈ l, M i = N i) : l.countP M = l.countP N := by
  induction l with
  | nil => rfl
  | cons a l ih => rw [List.countP_cons, List.countP_cons, ih fun i hi => h i (List.mem_cons_of_mem _ hi), h a List.mem_cons_self]
structure Nd (v : Nat) (k s : Fo) : Prop where
  vk : v ∉ ids k
  vs : v ∉ ids s
  ks : ∀ i ∈ ids k, i ∉ ids s
  k : (ids k).Nodup
  s : (ids s).Nodup
theorem nd_of {v : Nat} {k s : Fo} (h : (ids (.cons v k s)).Nodup) : Nd v k s := by
  have h' : (v :: (ids k ++ ids s)).Nodup := h
  obtain ⟨h1, h2⟩ := List.nodup_cons.mp h'
  obtain ⟨h3, h4, h5⟩ := List.nodup_append.mp h2
  exact ⟨fun q => h1 (List.mem_append_left _ q), fun q => h1 (List.mem_append_right _ q), fun i hi hj => h5 i hi i hj rfl, h3, h4⟩
/-- the marks of the parts put together: b at v, K in kids, S in sibs -/
def put (v : Nat) (k : Fo) (b : Bool) (K S : Nat → Bool) : Nat → Bool := fun i => if i = v then b else mix (ids k) K S i
theorem put_v {v : Nat} {k : Fo} {b : Bool} {K S : Nat → Bool} : put v k b K S v = b := if_pos rfl
theorem put_k {v : Nat} {k s : Fo} {b : Bool} {K S : Nat → Bool} (n : Nd v k s) {i : Nat} (h : i ∈ ids k) : put v k b K S i = K i := by
  unfold put
  rw [if_neg (show ¬ i = v by intro e; subst e; exact n.vk h), mix_in h]
theorem put_s {v : Nat} {k s : Fo} {b : Bool} {K S : Nat → Bool} (n : Nd v k s) {i : Nat} (h : i ∈ ids s) : put v k b K S i = S i := by
  unfold put
  rw [if_neg (show ¬ i = v by intro e; subst e; exact n.vs h), mix_out fun q => n.ks i q h]
theorem put_Gm {w v : Nat} {k s : Fo} {b : Bool} {K S : Nat → Bool} (n : Nd v k s) : Gm w (put v k b K S) (.cons v k s) = Gm w S s ++ (if b = true then stp w (srt (Gm w K k)) else Gm w K k) := by
  show Gm w _ s ++ (if put v k b K S v = true then stp w (srt (Gm w (put v k b K S) k)) else Gm w (put v k b K S) k) = _
  rw [put_v, Gm_eq (fun i hi => put_s n hi), Gm_eq (f := k) (fun i hi => put_k n hi)]
theorem put_count {v : Nat} {k s : Fo} {b : Bool} {K S : Nat → Bool} (n : Nd v k s) : (ids (.cons v k s)).countP (put v k b K S) = (ids k).countP K + (ids s).countP S + (if b = true then 1 else 0) := by
  show (v :: (ids k ++ ids s)).countP _ = _
  rw [List.countP_cons, List.countP_append, put_v, countP_same (fun i hi => put_s n hi), countP_same (l := ids k) (fun i hi => put_k n hi)]
theorem put_le {v : Nat} {k s : Fo} {b : Bool} {K S M : Nat → Bool} (hv : b = true → M v = true) (hK : ∀ i, K i = true → M i = true) (hS : ∀ i, S i = true → M i = true) : ∀ i, put v k b K S i = true → M i = true := fun i h => by
  unfold put at h
  split at h
  · rename_i e; subst e; exact hv h
  · unfold mix at h
    split at h
    · exact hK i h
    · exact hS i h
/-- what a few of the greatest members need -/
theorem few_for (w : Nat) (M : Nat → Bool) : ∀ (f : Fo), (ids f).Nodup → ∀ j, j ≤ w + 1 → ∃ M' : Nat → Bool, (∀ i, M' i = true → M i = true) ∧
    (ids f).countP M' ≤ gsum (w + 1) ((srt (Gm (w + 1) M f)).take j) ∧ Nn (w + 1) ((srt (Gm (w + 1) M f)).take j) ≤ Wt (w + 1) M' f
  | .nil, _, j, _ => ⟨fun _ => false, fun _ h => (nomatch h), Nat.zero_le _, by
      show Nn (w + 1) (List.take j []) ≤ _
      rw [List.take_nil, Nn_nil]; omega⟩
  | .cons v k s, hn, j, hj => by
    have n := nd_of hn
    have eG : Gm (w + 1) M (.cons v k s) = Gm (w + 1) M s ++ (if M v = true then stp (w + 1) (srt (Gm (w + 1) M k)) else Gm (w + 1) M k) := rfl
    obtain ⟨i1, i2, h1, h2, p⟩ := take_split j (srt (Gm (w + 1) M s)) (srt (if M v = true then stp (w + 1) (srt (Gm (w + 1) M k)) else Gm (w + 1) M k)) (srt_dn _) (srt_dn _)
    rw [srt_app_srt, ← eG] at p
    obtain ⟨S, s1, s2, s3⟩ := few_for w M s n.s i1 (by omega)
    -- the kids' part
    have hk : ∃ (b : Bool) (K : Nat → Bool), (b = true → M v = true) ∧ (∀ i, K i = true → M i = true) ∧
        (ids k).countP K + (if b = true then 1 else 0) ≤ gsum (w + 1) ((srt (if M v = true then stp (w + 1) (srt (Gm (w + 1) M k)) else Gm (w + 1) M k)).take i2) ∧
        Nn (w + 1) ((srt (if M v = true then stp (w + 1) (srt (Gm (w + 1) M k)) else Gm (w + 1) M k)).take i2) ≤ Nn (w + 1) (srt (if b = true then stp (w + 1) (srt (Gm (w + 1) K k)) else Gm (w + 1) K k)) := by
      by_cases c : M v = true
      · rw [if_pos c, srt_of_dn (stp_dn (srt_dn _))]
        have fl : (srt (Gm (w + 1) M k)).filter (fun x => decide (stH (w + 1) (srt (Gm (w + 1) M k)) ≤ x)) = (srt (Gm (w + 1) M k)).take ((srt (Gm (w + 1) M k)).filter (fun x => decide (stH (w + 1) (srt (Gm (w + 1) M k)) ≤ x))).length := filter_take (srt_dn _)
        by_cases ci : i2 ≤ ((srt (Gm (w + 1) M k)).filter (fun x => decide (stH (w + 1) (srt (Gm (w + 1) M k)) ≤ x))).length
        · have et : (stp (w + 1) (srt (Gm (w + 1) M k))).take i2 = (srt (Gm (w + 1) M k)).take i2 := by
            unfold stp
            rw [List.take_append_of_le_length ci, fl, List.take_take, Nat.min_eq_left ci]
          obtain ⟨K, k1, k2, k3⟩ := few_for w M k n.k i2 (by omega)
          rw [et]
          refine ⟨false, K, fun h => (nomatch h), k1, ?_, ?_⟩
          · rw [if_neg (by decide)]; exact k2
          · rw [if_neg (by decide)]; exact k3
        · obtain ⟨K, k1, k2, k3⟩ := few_for w M k n.k (w + 1) (Nat.le_refl _)
          have et : (stp (w + 1) (srt (Gm (w + 1) M k))).take i2 = stp (w + 1) (srt (Gm (w + 1) M k)) := by
            refine List.take_of_length_le ?_
            unfold stp
            rw [List.length_append]
            show _ + 1 ≤ i2
            omega
          rw [et]
          refine ⟨true, K, fun _ => c, k1, ?_, ?_⟩
          · rw [if_pos rfl]
            have := stp_cost (w + 1) w (srt (Gm (w + 1) M k)) (Nat.le_refl _) (srt_dn _) (Pz_srt (Gm_pz _ _ _))
            omega
          · rw [if_pos rfl, srt_of_dn (stp_dn (srt_dn _)), Nn_stp w _ (srt_dn _) (Pz_srt (Gm_pz _ _ _)), Nn_stp w _ (srt_dn _) (Pz_srt (Gm_pz _ _ _))]
            rw [Nn_take] at k3
            unfold Wt at k3
            omega
      · rw [if_neg c]
        obtain ⟨K, k1, k2, k3⟩ := few_for w M k n.k i2 (by omega)
        refine ⟨false, K, fun h => (nomatch h), k1, ?_, ?_⟩
        · rw [if_neg (by decide)]; exact k2
        · rw [if_neg (by decide)]; exact k3
    obtain ⟨b, K, b1, k1, k2, k3⟩ := hk
    refine ⟨put v k b K S, put_le (s := s) b1 k1 s1, ?_, ?_⟩
    · rw [put_count n, gsum_perm p, gsum_append]; omega
    · unfold Wt
      rw [put_Gm n]
      generalize (if b = true then stp (w + 1) (srt (Gm (w + 1) K k)) else Gm (w + 1) K k) = A' at *
      generalize hA : (if M v = true then stp (w + 1) (srt (Gm (w + 1) M k)) else Gm (w + 1) M k) = A at *
      have pA : Pz A := by
        rw [← hA]
        split
        · exact stp_pz (Pz_srt (Gm_pz _ _ _))
        · exact Gm_pz _ _ _
      have e : (srt (Gm (w + 1) M (.cons v k s))).take j = srt ((srt (Gm (w + 1) M s)).take i1 ++ (srt A).take i2) := by
        rw [← srt_of_perm p, srt_of_dn (dn_take _ (srt_dn _))]
      have pt : ∀ (l : List Nat) (i : Nat), Pz l → Pz ((srt l).take i) := fun l i h x hx => Pz_srt h x (List.mem_of_mem_take hx)
      rw [e]
      refine Nat.le_trans (Nn_app2 (B := Gm (w + 1) S s) (pt _ _ (Gm_pz _ _ _)) ?_ _) (Nn_app (pt _ _ pA) ?_ _)
      · rw [srt_of_dn (dn_take _ (srt_dn _))]; exact s3
      · rw [srt_of_dn (dn_take _ (srt_dn _))]; exact k3
/-- the first that goes above r has just r + 1 -/
theorem first_above (w r : Nat) (M : Nat → Bool) : ∀ (f : Fo), (ids f).Nodup → (∃ x ∈ Gm (w + 1) M f, r < x) → ∃ M' : Nat → Bool, (∀ i, M' i = true → M i = true) ∧
    r + 1 ∈ Gm (w + 1) M' f ∧ ∀ x ∈ Gm (w + 1) M' f, x ≤ r + 1
  | .nil, _, h => by
    obtain ⟨x, hx, _⟩ := h
    cases hx
  | .cons v k s, hn, h => by
    have n := nd_of hn
    obtain ⟨x, hx, hr⟩ := h
    have e0 : ∀ f : Fo, Gm (w + 1) (fun _ => false) f = [] := fun f => Gm_none fun _ _ => rfl
    rcases List.mem_append.mp hx with hx | hx
    · obtain ⟨S, s1, s2, s3⟩ := first_above w r M s n.s ⟨x, hx, hr⟩
      have e : Gm (w + 1) (put v k false (fun _ => false) S) (.cons v k s) = Gm (w + 1) S s := by
        rw [put_Gm n, if_neg (by decide), e0, List.append_nil]
      refine ⟨put v k false (fun _ => false) S, put_le (s := s) (fun h => (nomatch h)) (fun _ h => (nomatch h)) s1, ?_, ?_⟩
      · rw [e]; exact s2
      · rw [e]; exact s3
    · by_cases ck : ∃ y ∈ Gm (w + 1) M k, r < y
      · obtain ⟨K, s1, s2, s3⟩ := first_above w r M k n.k ck
        have e : Gm (w + 1) (put v k false K (fun _ => false)) (.cons v k s) = Gm (w + 1) K k := by
          rw [put_Gm n, if_neg (by decide), e0, List.nil_append]
        refine ⟨put v k false K (fun _ => false), put_le (s := s) (fun h => (nomatch h)) s1 (fun _ h => (nomatch h)), ?_, ?_⟩
        · rw [e]; exact s2
        · rw [e]; exact s3
      · have lo : ∀ y ∈ Gm (w + 1) M k, y ≤ r := fun y hy => by
          by_cases c : y ≤ r
          · exact c
          · exact absurd ⟨y, hy, by omega⟩ ck
        by_cases c : M v = true
        · rw [if_pos c] at hx
          have e : Gm (w + 1) (put v k true M (fun _ => false)) (.cons v k s) = stp (w + 1) (srt (Gm (w + 1) M k)) := by
            rw [put_Gm n, if_pos rfl, e0, List.nil_append]
          have ht : stH (w + 1) (srt (Gm (w + 1) M k)) ≤ r + 1 := by
            unfold stH
            split
            · rename_i y hy
              have := lo y (srt_mem.mp (List.mem_of_getElem? hy))
              omega
            · omega
          have hm : ∀ y ∈ stp (w + 1) (srt (Gm (w + 1) M k)), y ≤ r ∨ y = stH (w + 1) (srt (Gm (w + 1) M k)) := fun y hy => by
            rcases List.mem_append.mp hy with hy | hy
            · exact .inl (lo y (srt_mem.mp (List.mem_filter.mp hy).1))
            · rcases List.mem_cons.mp hy with hy | hy
              · exact .inr hy
              · cases hy
          have hx2 := hm x hx
          refine ⟨put v k true M (fun _ => false), put_le (s := s) (fun _ => c) (fun _ h => h) (fun _ h => (nomatch h)), ?_, ?_⟩
          · rw [e]
            have : r + 1 = x := by omega
            rw [this]; exact hx
          · rw [e]
            intro y hy
            have := hm y hy
            omega
        · rw [if_neg c] at hx
          exact absurd ⟨x, hx, hr⟩ ck
theorem above_of_Wt {w r : Nat} {l : List Nat} (h : Cb (r + (w + 1)) (w + 1) ≤ Nn (w + 1) (srt l)) : ∃ x ∈ l, r < x := by
  by_cases c : ∃ x ∈ l, r < x
  · exact c
  · have := Nn_lt (w + 1) r (srt l) (srt_dn l) fun x hx => by
      by_cases q : x ≤ r
      · exact q
      · exact absurd ⟨x, srt_mem.mp hx, by omega⟩ c
    omega
theorem Wt_of_above {w r : Nat} {l : List Nat} (h : ∃ x ∈ l, r < x) : Cb (r + (w + 1)) (w + 1) ≤ Nn (w + 1) (srt l) := by
  obtain ⟨x, hx, hr⟩ := h
  have hx' := srt_mem.mpr hx
  have hd := srt_dn l
  cases e : srt l with
  | nil => rw [e] at hx'; cases hx'
  | cons a m =>
    rw [e] at hx' hd
    have ha : x ≤ a := by
      rcases List.mem_cons.mp hx' with q | q
      · omega
      · exact hd.1 x q
    have h1 := Nn_ge w a m
    have h2 := Cb_mono_le (show r + (w + 1) ≤ a + w by omega) (w + 1)
    omega
/-- in what goes above r there is something small that does -/
theorem small_wall (w r : Nat) (M : Nat → Bool) (f : Fo) (hn : (ids f).Nodup) (h : Cb (r + (w + 1)) (w + 1) ≤ Wt (w + 1) M f) :
    ∃ M' : Nat → Bool, (∀ i, M' i = true → M i = true) ∧ (ids f).countP M' ≤ gs (w + 1) (r + 1) ∧ Cb (r + (w + 1)) (w + 1) ≤ Wt (w + 1) M' f := by
  obtain ⟨N, n1, n2, n3⟩ := first_above w r M f hn (above_of_Wt h)
  have hs : ∃ m, srt (Gm (w + 1) N f) = (r + 1) :: m := by
    have hx' := srt_mem.mpr n2
    have hd := srt_dn (Gm (w + 1) N f)
    cases e : srt (Gm (w + 1) N f) with
    | nil => rw [e] at hx'; cases hx'
    | cons a m =>
      have ha : a ≤ r + 1 := n3 a (srt_mem.mp (by rw [e]; exact List.mem_cons_self))
      rw [e] at hx' hd
      have hb : r + 1 ≤ a := by
        rcases List.mem_cons.mp hx' with q | q
        · omega
        · exact hd.1 _ q
      exact ⟨m, by rw [show a = r + 1 by omega]⟩
  obtain ⟨m, hs⟩ := hs
  obtain ⟨K, k1, k2, k3⟩ := few_for w N f hn 1 (by omega)
  rw [hs] at k2 k3
  refine ⟨K, fun i h => n1 i (k1 i h), ?_, ?_⟩
  · have e : gsum (w + 1) (List.take 1 ((r + 1) :: m)) = gs (w + 1) (r + 1) := by
      show gsum (w + 1) [r + 1] = _
      rw [gsum_cons]
      show gs (w + 1) (r + 1) + 0 = _
      omega
    omega
  · have e : Nn (w + 1) (List.take 1 ((r + 1) :: m)) = Cb (r + 1 + w) (w + 1) := by
      show Nn (w + 1) [r + 1] = _
      rw [Nn_cons, Nn_nil]; omega
    have e2 : r + (w + 1) = r + 1 + w := by omega
    rw [e2]; omega
/-- a wall with nothing to spare is small -/
theorem least_wall (w r : Nat) (M : Nat → Bool) (f : Fo) (hn : (ids f).Nodup) (h : Cb (r + (w + 1)) (w + 1) ≤ Wt (w + 1) M f)
    (hl : ∀ x ∈ ids f, M x = true → Wt (w + 1) (fun i => M i && decide (i ≠ x)) f < Cb (r + (w + 1)) (w + 1)) : (ids f).countP M ≤ gs (w + 1) (r + 1) := by
  obtain ⟨K, k1, k2, k3⟩ := small_wall w r M f hn h
  have e : ∀ i ∈ ids f, M i = K i := fun i hi => by
    cases hM : M i with
    | false =>
      cases hK : K i with
      | false => rfl
      | true => rw [k1 i hK] at hM; cases hM
    | true =>
      cases hK : K i with
      | true => rfl
      | false =>
        exfalso
        have h1 := hl i hi hM
        have h2 : Wt (w + 1) K f ≤ Wt (w + 1) (fun j => M j && decide (j ≠ i)) f := Wt_mono w fun j _ hj => by
          rw [k1 j hj, Bool.true_and]
          refine decide_eq_true fun e => ?_
          rw [e, hK] at hj
          cases hj
        omega
  rw [countP_same e]
  exact k2
end K67
set_option maxHeartbeats 2000000
namespace K67
/-! ### histories as forests -/
def Hist (hs : List Nat) : Prop := ∀ (k x : Nat), hs[k]? = some x → x ≤ k
def par (hs : List Nat) (v : Nat) : Nat := hs.getD (v - 1) 0
theorem par_lt {hs : List Nat} (h : Hist hs) {v : Nat} (hv : 1 ≤ v) : par hs v ≤ v - 1 := by
  unfold par
  rw [List.getD_eq_getElem?_getD]
  cases e : hs[v - 1]? with
  | none => exact Nat.zero_le _
  | some x => exact h _ _ e
theorem par_at {hs : List Nat} {v : Nat} (hv : 1 ≤ v) (h2 : v ≤ hs.length) : hs[v - 1]? = some (par hs v) := by
  have h3 : v - 1 < hs.length := by omega
  unfold par
  rw [List.getD_eq_getElem?_getD, List.getElem?_eq_getElem h3]
  rfl
def fo (hs : List Nat) : Nat → Nat → Fo
  | 0, _ => .nil
  | i + 1, u => if u = par hs (hs.length - i) then .cons (hs.length - i) (fo hs i (hs.length - i)) (fo hs i u) else fo hs i u
def pend (hs : List Nat) (w : Nat) : Nat → Nat → List (List Nat)
  | 0, _ => []
  | i + 1, u => if u = par hs (hs.length - i) then pend hs w i u ++ [stp w (srt (pend hs w i (hs.length - i)).flatten)] else pend hs w i u
/-- the row of version n - i -/
def rowI (hs : List Nat) (w i : Nat) : List Nat := stp w (srt (pend hs w i (hs.length - i)).flatten)
abbrev mAll : Nat → Bool := fun _ => true
theorem pend_flat (hs : List Nat) (w : Nat) : ∀ i u, (pend hs w i u).flatten = Gm w mAll (fo hs i u)
  | 0, _ => rfl
  | i + 1, u => by
    unfold pend fo
    split
    · rw [List.flatten_append, pend_flat hs w i u, pend_flat hs w i (hs.length - i)]
      show _ ++ (stp w _ ++ []) = Gm w mAll (fo hs i u) ++ (if mAll (hs.length - i) = true then _ else _)
      rw [List.append_nil, if_pos rfl]
    · exact pend_flat hs w i u
/-- sums up to m -/
def Su (f : Nat → Nat) : Nat → Nat
  | 0 => f 0
  | m + 1 => Su f m + f (m + 1)
theorem Su_eq {f g : Nat → Nat} : ∀ {m : Nat}, (∀ p, p ≤ m → f p = g p) → Su f m = Su g m
  | 0, h => h 0 (Nat.le_refl _)
  | m + 1, h => by
    unfold Su
    rw [Su_eq fun p hp => h p (by omega), h (m + 1) (Nat.le_refl _)]
theorem Su_zero {f : Nat → Nat} : ∀ {m : Nat}, (∀ p, p ≤ m → f p = 0) → Su f m = 0
  | 0, h => h 0 (Nat.le_refl _)
  | m + 1, h => by
    unfold Su
    rw [Su_zero fun p hp => h p (by omega), h (m + 1) (Nat.le_refl _)]
theorem Su_put {f : Nat → Nat} {q c : Nat} : ∀ {m : Nat}, q ≤ m → Su (fun p => if p = q then f p + c else f p) m = Su f m + c
  | 0, h => by
    have e : q = 0 := by omega
    subst e
    show (if 0 = 0 then f 0 + c else f 0) = f 0 + c
    rw [if_pos rfl]
  | m + 1, h => by
    unfold Su
    by_cases e : q = m + 1
    · subst e
      rw [if_pos rfl, Su_eq (g := f) fun p hp => if_neg (by omega)]
      omega
    · rw [if_neg (by omega), Su_put (q := q) (m := m) (by omega)]
      omega
/-- every version stands once in the forest -/
theorem ids_count {hs : List Nat} (h : Hist hs) (x : Nat) : ∀ i, i ≤ hs.length → Su (fun p => (ids (fo hs i p)).count x) (hs.length - i) = if hs.length - i < x ∧ x ≤ hs.length then 1 else 0
  | 0, _ => by
    have e : Su (fun p => (ids (fo hs 0 p)).count x) (hs.length - 0) = 0 := Su_zero fun p _ => rfl
    rw [e, if_neg (by omega)]
  | i + 1, hi => by
    have ih := ids_count h x i (by omega)
    have e1 : hs.length - i = (hs.length - (i + 1)) + 1 := by omega
    have hp := par_lt h (v := hs.length - i) (by omega)
    have e2 : ∀ p, (ids (fo hs (i + 1) p)).count x = if p = par hs (hs.length - i) then (ids (fo hs i p)).count x + ((ids (fo hs i (hs.length - i))).count x + (if hs.length - i = x then 1 else 0)) else (ids (fo hs i p)).count x := fun p => by
      show (ids (if p = par hs (hs.length - i) then Fo.cons (hs.length - i) (fo hs i (hs.length - i)) (fo hs i p) else fo hs i p)).count x = _
      split
      · show ((hs.length - i) :: (ids (fo hs i (hs.length - i)) ++ ids (fo hs i p))).count x = _
        rw [List.count_cons, List.count_append]
        by_cases c : hs.length - i = x
        · rw [if_pos (beq_iff_eq.mpr c), if_pos c]; omega
        · rw [if_neg (by simpa using c), if_neg c]; omega
      · rfl
    rw [Su_eq (g := _) fun p _ => e2 p, Su_put (by omega)]
    rw [e1] at ih
    unfold Su at ih
    rw [← e1] at ih
    by_cases c : hs.length - i = x
    · rw [if_pos c]
      rw [if_neg (by omega)] at ih
      rw [if_pos (by omega)]
      omega
    · rw [if_neg c]
      by_cases c2 : hs.length - i < x ∧ x ≤ hs.length
      · rw [if_pos (by omega)] at ih
        rw [if_pos (by omega)]
        omega
      · rw [if_neg (by omega)] at ih
        rw [if_neg (by omega)]
        omega
/-- the whole history -/
def foAll (hs : List Nat) : Fo := fo hs hs.length 0
theorem all_count {hs : List Nat} (h : Hist hs) (x : Nat) : (ids (foAll hs)).count x = if 1 ≤ x ∧ x ≤ hs.length then 1 else 0 := by
  have e := ids_count h x hs.length (Nat.le_refl _)
  rw [Nat.sub_self] at e
  unfold Su at e
  unfold foAll
  rw [e]
  by_cases c : 1 ≤ x ∧ x ≤ hs.length
  · rw [if_pos (by omega), if_pos c]
  · rw [if_neg (by omega), if_neg c]
theorem all_nodup {hs : List Nat} (h : Hist hs) : (ids (foAll hs)).Nodup := List.nodup_iff_count.mpr fun x => by
  rw [all_count h x]
  split <;> omega
theorem all_mem {hs : List Nat} (h : Hist hs) {x : Nat} : x ∈ ids (foAll hs) ↔ 1 ≤ x ∧ x ≤ hs.length := by
  rw [← List.count_pos_iff, all_count h x]
  split
  · rename_i c
    exact ⟨fun _ => c, fun _ => by omega⟩
  · rename_i c
    exact ⟨fun z => by omega, fun z => absurd z c⟩
theorem all_perm {hs : List Nat} (h : Hist hs) : (ids (foAll hs)).Perm (List.range' 1 hs.length) := List.perm_iff_count.mpr fun x => by
  rw [all_count h x]
  have nd : (List.range' 1 hs.length).Nodup := List.nodup_range'
  have h1 := List.nodup_iff_count.mp nd x
  by_cases c : 1 ≤ x ∧ x ≤ hs.length
  · rw [if_pos c]
    have : x ∈ List.range' 1 hs.length := List.mem_range'_1.mpr (by omega)
    have := List.count_pos_iff.mpr this
    omega
  · rw [if_neg c]
    have : x ∉ List.range' 1 hs.length := fun z => by
      have := List.mem_range'_1.mp z
      omega
    rw [List.count_eq_zero.mpr this]
/-! ### the walk on some versions -/
def res (hs : List Nat) (M : Nat → Bool) : Nat → Nat → Nat
  | 0, _ => 0
  | f + 1, u => if u = 0 then 0 else if M u = true then u else res hs M f (par hs u)
theorem res_zero (hs : List Nat) (M : Nat → Bool) : ∀ f, res hs M f 0 = 0
  | 0 => rfl
  | _ + 1 => if_pos rfl
theorem res_fuel {hs : List Nat} (h : Hist hs) (M : Nat → Bool) : ∀ (f g u : Nat), u ≤ f → u ≤ g → res hs M f u = res hs M g u
  | 0, g, u, hf, _ => by
    have e : u = 0 := by omega
    subst e
    rw [res_zero, res_zero]
  | f, 0, u, _, hg => by
    have e : u = 0 := by omega
    subst e
    rw [res_zero, res_zero]
  | f + 1, g + 1, u, hf, hg => by
    unfold res
    by_cases e : u = 0
    · rw [if_pos e, if_pos e]
    · rw [if_neg e, if_neg e]
      by_cases m : M u = true
      · rw [if_pos m, if_pos m]
      · rw [if_neg m, if_neg m]
        have := par_lt h (v := u) (by omega)
        exact res_fuel h M f g (par hs u) (by omega) (by omega)
theorem res_le {hs : List Nat} (h : Hist hs) (M : Nat → Bool) : ∀ (f u : Nat), res hs M f u ≤ u
  | 0, u => Nat.zero_le _
  | f + 1, u => by
    unfold res
    split
    · omega
    · split
      · omega
      · have := par_lt h (v := u) (by omega)
        have := res_le h M f (par hs u)
        omega
/-- the nearest marked one from u up -/
def Rs (hs : List Nat) (M : Nat → Bool) (u : Nat) : Nat := res hs M u u
theorem Rs_up {hs : List Nat} (h : Hist hs) (M : Nat → Bool) {u : Nat} (hu : 1 ≤ u) : Rs hs M u = if M u = true then u else Rs hs M (par hs u) := by
  unfold Rs
  cases u with
  | zero => omega
  | succ f =>
    have := par_lt h (v := f + 1) hu
    show (if f + 1 = 0 then 0 else if M (f + 1) = true then f + 1 else res hs M f (par hs (f + 1))) = _
    rw [if_neg (by omega)]
    split
    · rfl
    · exact res_fuel h M _ _ _ (by omega) (Nat.le_refl _)
theorem Rs_le {hs : List Nat} (h : Hist hs) (M : Nat → Bool) (u : Nat) : Rs hs M u ≤ u := res_le h M u u
def wkI (hs : List Nat) (w : Nat) (M : Nat → Bool) : Nat → Nat → List Nat
  | 0, _ => []
  | i + 1, u => if M (hs.length - i) = true ∧ u = Rs hs M (par hs (hs.length - i)) then wkI hs w M i u ++ stp w (srt (wkI hs w M i (hs.length - i))) else wkI hs w M i u
theorem wk_count {hs : List Nat} (h : Hist hs) (w : Nat) (M : Nat → Bool) : ∀ i, i ≤ hs.length → ∀ u, u ≤ hs.length - i → (u = 0 ∨ M u = true) → ∀ x,
    (wkI hs w M i u).count x = Su (fun p => if Rs hs M p = u then (Gm w M (fo hs i p)).count x else 0) (hs.length - i)
  | 0, _, u, _, _, x => by
    have e : Su (fun p => if Rs hs M p = u then (Gm w M (fo hs 0 p)).count x else 0) (hs.length - 0) = 0 := Su_zero fun p _ => by split <;> rfl
    rw [e]
    rfl
  | i + 1, hi, u, hu, hm, x => by
    have ih := wk_count h w M i (by omega)
    have e1 : hs.length - i = (hs.length - (i + 1)) + 1 := by omega
    have hp := par_lt h (v := hs.length - i) (by omega)
    have ihu := ih u (by omega) hm x
    have hR := Rs_up h M (u := hs.length - i) (by omega)
    -- the new forest at p
    have e2 : ∀ p, (Gm w M (fo hs (i + 1) p)).count x = if p = par hs (hs.length - i) then (Gm w M (fo hs i p)).count x + (if M (hs.length - i) = true then stp w (srt (Gm w M (fo hs i (hs.length - i)))) else Gm w M (fo hs i (hs.length - i))).count x else (Gm w M (fo hs i p)).count x := fun p => by
      show (Gm w M (if p = par hs (hs.length - i) then Fo.cons (hs.length - i) (fo hs i (hs.length - i)) (fo hs i p) else fo hs i p)).count x = _
      split
      · show (Gm w M (fo hs i p) ++ _).count x = _
        rw [List.count_append]
      · rfl
    have e3 : Su (fun p => if Rs hs M p = u then (Gm w M (fo hs (i + 1) p)).count x else 0) (hs.length - (i + 1)) = Su (fun p => if Rs hs M p = u then (Gm w M (fo hs i p)).count x else 0) (hs.length - (i + 1)) + (if Rs hs M (par hs (hs.length - i)) = u then (if M (hs.length - i) = true then stp w (srt (Gm w M (fo hs i (hs.length - i)))) else Gm w M (fo hs i (hs.length - i))).count x else 0) := by
      rw [← Su_put (f := fun p => if Rs hs M p = u then (Gm w M (fo hs i p)).count x else 0) (q := par hs (hs.length - i)) (by omega)]
      refine Su_eq fun p _ => ?_
      rw [e2 p]
      by_cases c : p = par hs (hs.length - i)
      · subst c
        rw [if_pos rfl, if_pos rfl]
        split
        · rfl
        · rfl
      · rw [if_neg c, if_neg c]
    rw [e3]
    rw [e1] at ihu
    unfold Su at ihu
    rw [← e1] at ihu
    by_cases hM : M (hs.length - i) = true
    · rw [if_pos hM] at hR
      have hne : ¬ Rs hs M (hs.length - i) = u := by rw [hR]; omega
      rw [if_neg hne] at ihu
      -- what stands below the version itself
      have hv := ih (hs.length - i) (Nat.le_refl _) (.inr hM)
      have hself : ∀ y, (wkI hs w M i (hs.length - i)).count y = (Gm w M (fo hs i (hs.length - i))).count y := fun y => by
        rw [hv y, e1]
        unfold Su
        rw [← e1, if_pos hR, Su_zero fun p hp' => if_neg fun z => by have := Rs_le h M p; omega]
        omega
      have hs1 : srt (wkI hs w M i (hs.length - i)) = srt (Gm w M (fo hs i (hs.length - i))) := srt_of_perm (List.perm_iff_count.mpr hself)
      show (if M (hs.length - i) = true ∧ u = Rs hs M (par hs (hs.length - i)) then wkI hs w M i u ++ stp w (srt (wkI hs w M i (hs.length - i))) else wkI hs w M i u).count x = _
      by_cases c : u = Rs hs M (par hs (hs.length - i))
      · rw [if_pos ⟨hM, c⟩, if_pos c.symm, if_pos hM, List.count_append, hs1]
        omega
      · rw [if_neg fun z => c z.2, if_neg fun z => c z.symm]
        omega
    · rw [if_neg hM] at hR
      show (if M (hs.length - i) = true ∧ u = Rs hs M (par hs (hs.length - i)) then _ else wkI hs w M i u).count x = _
      rw [if_neg fun z => hM z.1, if_neg hM, ihu, hR]
theorem wk_row {hs : List Nat} (h : Hist hs) (w : Nat) (M : Nat → Bool) {v : Nat} (h1 : 1 ≤ v) (h2 : v ≤ hs.length) (hM : M v = true) : srt (wkI hs w M (hs.length - v) v) = srt (Gm w M (fo hs (hs.length - v) v)) := by
  refine srt_of_perm (List.perm_iff_count.mpr fun x => ?_)
  have e := wk_count h w M (hs.length - v) (by omega) v (by omega) (.inr hM) x
  have e1 : hs.length - (hs.length - v) = (v - 1) + 1 := by omega
  rw [e, e1]
  unfold Su
  have hR := Rs_up h M h1
  rw [if_pos hM] at hR
  rw [show v - 1 + 1 = v by omega, if_pos hR, Su_zero fun p hp' => if_neg fun z => by have := Rs_le h M p; omega]
  omega
/-! ### nodes -/
def AllN (P : Nat → Fo → Prop) : Fo → Prop
  | .nil => True
  | .cons v k s => P v k ∧ AllN P k ∧ AllN P s
def NodeOk (hs : List Nat) (v : Nat) (k : Fo) : Prop := k = fo hs (hs.length - v) v ∧ 1 ≤ v ∧ v ≤ hs.length
theorem fo_nodes (hs : List Nat) : ∀ i, i ≤ hs.length → ∀ u, AllN (NodeOk hs) (fo hs i u)
  | 0, _, _ => trivial
  | i + 1, hi, u => by
    show AllN (NodeOk hs) (if u = par hs (hs.length - i) then Fo.cons (hs.length - i) (fo hs i (hs.length - i)) (fo hs i u) else fo hs i u)
    split
    · refine ⟨⟨?_, by omega, by omega⟩, fo_nodes hs i (by omega) _, fo_nodes hs i (by omega) u⟩
      rw [show hs.length - (hs.length - i) = i by omega]
    · exact fo_nodes hs i (by omega) u
theorem mem_row {w : Nat} {M : Nat → Bool} {P : Nat → Fo → Prop} {x : Nat} : ∀ {f : Fo}, AllN P f → x ∈ Gm w M f → ∃ v k, P v k ∧ M v = true ∧ x ∈ stp w (srt (Gm w M k))
  | .nil, _, h => by cases h
  | .cons v k s, hA, h => by
    rcases List.mem_append.mp h with h | h
    · exact mem_row hA.2.2 h
    · by_cases c : M v = true
      · rw [if_pos c] at h
        exact ⟨v, k, hA.1, c, h⟩
      · rw [if_neg c] at h
        exact mem_row hA.2.1 h
theorem row_le {w : Nat} {M : Nat → Bool} {P : Nat → Fo → Prop} {v : Nat} (hM : M v = true) : ∀ {f : Fo}, AllN P f → v ∈ ids f → ∃ k, P v k ∧ Nn (w + 1) (stp (w + 1) (srt (Gm (w + 1) M k))) ≤ Wt (w + 1) M f
  | .nil, _, h => by cases h
  | .cons u k s, hA, h => by
    have h' : v ∈ u :: (ids k ++ ids s) := h
    have toS : Nn (w + 1) (srt (if M u = true then stp (w + 1) (srt (Gm (w + 1) M k)) else Gm (w + 1) M k)) ≤ Wt (w + 1) M (.cons u k s) := by
      have q := Nn_sub (w + 1) (if M u = true then stp (w + 1) (srt (Gm (w + 1) M k)) else Gm (w + 1) M k) (Gm (w + 1) M s) (Gm_pz _ _ _)
      rw [srt_of_perm List.perm_append_comm] at q
      exact q
    rcases List.mem_cons.mp h' with e | h'
    · subst e
      rw [if_pos hM, srt_of_dn (stp_dn (srt_dn _))] at toS
      exact ⟨k, hA.1, toS⟩
    · rcases List.mem_append.mp h' with h' | h'
      · obtain ⟨k', p, q⟩ := row_le hM hA.2.1 h'
        refine ⟨k', p, Nat.le_trans q (Nat.le_trans ?_ toS)⟩
        unfold Wt
        split
        · rw [srt_of_dn (stp_dn (srt_dn _)), Nn_stp w _ (srt_dn _) (Pz_srt (Gm_pz _ _ _))]
          omega
        · exact Nat.le_refl _
      · obtain ⟨k', p, q⟩ := row_le hM hA.2.2 h'
        exact ⟨k', p, Nat.le_trans q (Nn_sub _ _ _ (by
          split
          · exact stp_pz (Pz_srt (Gm_pz _ _ _))
          · exact Gm_pz _ _ _))⟩
/-- some row of the walk goes above r exactly if the weight reaches the capacity -/
theorem above_iff {hs : List Nat} (h : Hist hs) (w r : Nat) (M : Nat → Bool) :
    (∃ v, 1 ≤ v ∧ v ≤ hs.length ∧ M v = true ∧ ∃ x ∈ stp (w + 1) (srt (wkI hs (w + 1) M (hs.length - v) v)), r < x) ↔ Cb (r + (w + 1)) (w + 1) ≤ Wt (w + 1) M (foAll hs) := by
  constructor
  · rintro ⟨v, h1, h2, hM, x, hx, hr⟩
    rw [wk_row h (w + 1) M h1 h2 hM] at hx
    obtain ⟨k, hk, q⟩ := row_le (w := w) hM (fo_nodes hs hs.length (Nat.le_refl _) 0) ((all_mem h).mpr ⟨h1, h2⟩)
    rw [hk.1] at q
    have z := Wt_of_above (w := w) (r := r) ⟨x, hx, hr⟩
    rw [srt_of_dn (stp_dn (srt_dn _))] at z
    exact Nat.le_trans z q
  · intro z
    obtain ⟨x, hx, hr⟩ := above_of_Wt z
    obtain ⟨v, k, hk, hM, hx2⟩ := mem_row (fo_nodes hs hs.length (Nat.le_refl _) 0) hx
    refine ⟨v, hk.2.1, hk.2.2, hM, x, ?_, hr⟩
    rw [wk_row h (w + 1) M hk.2.1 hk.2.2 hM, ← hk.1]
    exact hx2
/-! ### lengths, heads, lines -/
theorem stp_len {w : Nat} {l : List Nat} (hd : Dn l) (hw : 1 ≤ w) : (stp w l).length ≤ w := by
  unfold stp
  rw [List.length_append]
  show (l.filter fun x => decide (stH w l ≤ x)).length + 1 ≤ w
  by_cases c : (l.filter fun x => decide (stH w l ≤ x)).length < w
  · omega
  · exfalso
    have e := filter_take (t := stH w l) hd
    have hk : w - 1 < (l.filter fun x => decide (stH w l ≤ x)).length := by omega
    have g := List.getElem?_eq_getElem hk
    have hm := List.getElem_mem hk
    have h1 : stH w l ≤ (l.filter fun x => decide (stH w l ≤ x))[w - 1] := of_decide_eq_true (List.mem_filter.mp hm).2
    have h2 : l[w - 1]? = some (l.filter fun x => decide (stH w l ≤ x))[w - 1] := by
      rw [← g]
      conv => rhs; rw [e]
      rw [List.getElem?_take_of_lt hk]
    have h3 : stH w l = (l.filter fun x => decide (stH w l ≤ x))[w - 1] + 1 := by
      conv => lhs; unfold stH
      rw [h2]
    omega
theorem head_le {w r : Nat} {l : List Nat} (hd : Dn l) : l.headD 0 ≤ r ↔ Nn (w + 1) l < Cb (r + (w + 1)) (w + 1) := by
  cases l with
  | nil =>
    rw [Nn_nil]
    have := Cb_pos (r + (w + 1)) (w + 1) (by omega)
    exact ⟨fun _ => by omega, fun _ => Nat.zero_le _⟩
  | cons a m =>
    show a ≤ r ↔ _
    constructor
    · intro h
      have h1 := Nn_lt (w + 1) a (a :: m) hd fun x hx => by
        rcases List.mem_cons.mp hx with q | q
        · omega
        · exact hd.1 x q
      have h2 := Cb_mono_le (show a + (w + 1) ≤ r + (w + 1) by omega) (w + 1)
      omega
    · intro h
      by_cases c : a ≤ r
      · exact c
      · have h1 := Nn_ge w a m
        have h2 := Cb_mono_le (show r + (w + 1) ≤ a + w by omega) (w + 1)
        omega
theorem Rs_all {hs : List Nat} (h : Hist hs) (u : Nat) : Rs hs mAll u = u := by
  by_cases c : 1 ≤ u
  · rw [Rs_up h mAll c, if_pos rfl]
  · have e : u = 0 := by omega
    subst e
    rfl
theorem wk_all {hs : List Nat} (h : Hist hs) (w : Nat) : ∀ i u, wkI hs w mAll i u = (pend hs w i u).flatten
  | 0, _ => rfl
  | i + 1, u => by
    show (if mAll (hs.length - i) = true ∧ u = Rs hs mAll (par hs (hs.length - i)) then wkI hs w mAll i u ++ stp w (srt (wkI hs w mAll i (hs.length - i))) else wkI hs w mAll i u) = (if u = par hs (hs.length - i) then pend hs w i u ++ [stp w (srt (pend hs w i (hs.length - i)).flatten)] else pend hs w i u).flatten
    rw [Rs_all h, wk_all h w i u, wk_all h w i (hs.length - i)]
    by_cases c : u = par hs (hs.length - i)
    · rw [if_pos ⟨rfl, c⟩, if_pos c, List.flatten_append]
      simp
    · rw [if_neg fun z => c z.2, if_neg c]
/-- the i-fold step from nothing -/
def lrow (w : Nat) : Nat → List Nat
  | 0 => []
  | i + 1 => stp w (lrow w i)
theorem lrow_dn (w : Nat) : ∀ i, Dn (lrow w i)
  | 0 => trivial
  | i + 1 => stp_dn (lrow_dn w i)
theorem lrow_pz (w : Nat) : ∀ i, Pz (lrow w i)
  | 0 => fun _ h => nomatch h
  | i + 1 => stp_pz (lrow_pz w i)
theorem lrow_nn (w : Nat) : ∀ i, Nn (w + 1) (lrow (w + 1) i) = i
  | 0 => Nn_nil _
  | i + 1 => by
    show Nn (w + 1) (stp (w + 1) (lrow (w + 1) i)) = i + 1
    rw [Nn_stp w _ (lrow_dn _ _) (lrow_pz _ _), lrow_nn w i]
def line (n : Nat) : List Nat := List.range n
theorem line_len (n : Nat) : (line n).length = n := List.length_range
theorem line_hist (n : Nat) : Hist (line n) := fun k x h => by
  unfold line at h
  have hk := (List.getElem?_eq_some_iff.mp h).1
  rw [List.length_range] at hk
  rw [List.getElem?_range hk] at h
  have := Option.some.inj h
  omega
theorem line_par {n v : Nat} (h1 : 1 ≤ v) (h2 : v ≤ n) : par (line n) v = v - 1 := by
  unfold par line
  rw [List.getD_eq_getElem?_getD, List.getElem?_range (by omega)]
  rfl
theorem line_pend (n w : Nat) : ∀ i, i ≤ n → (∀ u, u < n - i → pend (line n) w i u = []) ∧ (pend (line n) w i (n - i)).flatten = lrow w i
  | 0, _ => ⟨fun _ _ => rfl, rfl⟩
  | i + 1, hi => by
    obtain ⟨h1, h2⟩ := line_pend n w i (by omega)
    have e : ∀ u, pend (line n) w (i + 1) u = if u = n - i - 1 then pend (line n) w i u ++ [stp w (srt (lrow w i))] else pend (line n) w i u := fun u => by
      show (if u = par (line n) ((line n).length - i) then pend (line n) w i u ++ [stp w (srt (pend (line n) w i ((line n).length - i)).flatten)] else pend (line n) w i u) = _
      rw [line_len, line_par (by omega) (by omega), h2]
    refine ⟨fun u hu => ?_, ?_⟩
    · rw [e u, if_neg (by omega)]
      exact h1 u (by omega)
    · rw [e, if_pos (by omega), h1 _ (by omega), srt_of_dn (lrow_dn _ _)]
      show stp w (lrow w i) ++ [] = _
      rw [List.append_nil]
      rfl
theorem line_row {n w i : Nat} (hi : i < n) : rowI (line n) w i = lrow w (i + 1) := by
  unfold rowI
  rw [line_len, (line_pend n w i (by omega)).2, srt_of_dn (lrow_dn _ _)]
  rfl
theorem line_flat (n w : Nat) : (pend (line n) w n 0).flatten = lrow w n := by
  have := (line_pend n w n (Nat.le_refl _)).2
  rw [Nat.sub_self] at this
  exact this
theorem line_wt (n w : Nat) : Wt (w + 1) mAll (foAll (line n)) = n := by
  unfold Wt foAll
  rw [← pend_flat, line_len, line_flat, srt_of_dn (lrow_dn _ _), lrow_nn]
/-! ### walls struck down to their least -/
def mks (S : List Nat) : Nat → Bool := fun i => decide (i ∈ S)
/-- ascending numbers from 1 to n -/
structure Sub (S : List Nat) (n : Nat) : Prop where
  asc : S.Pairwise (· < ·)
  rng : ∀ x ∈ S, 1 ≤ x ∧ x ≤ n
theorem Sub.nodup {S : List Nat} {n : Nat} (h : Sub S n) : S.Nodup := h.asc.imp fun z => Nat.ne_of_lt z
theorem Sub.count {S hs : List Nat} (hh : Hist hs) (h : Sub S hs.length) : (ids (foAll hs)).countP (mks S) = S.length := by
  rw [(all_perm hh).countP_eq]
  have nd : (List.range' 1 hs.length).Nodup := List.nodup_range'
  rw [List.countP_eq_length_filter]
  refine List.Perm.length_eq (List.perm_iff_count.mpr fun x => ?_)
  have h1 := List.nodup_iff_count.mp h.nodup x
  have h2 := List.nodup_iff_count.mp (nd.filter (mks S)) x
  by_cases c : x ∈ S
  · have m1 : x ∈ (List.range' 1 hs.length).filter (mks S) := List.mem_filter.mpr ⟨List.mem_range'_1.mpr (by have := h.rng x c; omega), decide_eq_true c⟩
    have := List.count_pos_iff.mpr m1
    have := List.count_pos_iff.mpr c
    omega
  · have m1 : x ∉ (List.range' 1 hs.length).filter (mks S) := fun z => c (of_decide_eq_true (List.mem_filter.mp z).2)
    rw [List.count_eq_zero.mpr m1, List.count_eq_zero.mpr c]
theorem Sub.filter {S : List Nat} {n : Nat} (h : Sub S n) (p : Nat → Bool) : Sub (S.filter p) n := ⟨h.asc.filter p, fun x hx => h.rng x (List.mem_filter.mp hx).1⟩
theorem sub_all (n : Nat) : Sub (List.range' 1 n) n := ⟨List.pairwise_lt_range', fun x hx => by have := List.mem_range'_1.mp hx; omega⟩
theorem mks_all {hs : List Nat} (hh : Hist hs) (w : Nat) : Wt w (mks (List.range' 1 hs.length)) (foAll hs) = Wt w mAll (foAll hs) := by
  unfold Wt
  rw [Gm_eq (M' := mAll) fun i hi => ?_]
  have := (all_mem hh).mp hi
  exact decide_eq_true (List.mem_range'_1.mpr (by omega))
/-- whether the versions S make a wall -/
def abv (hs : List Nat) (w r : Nat) (S : List Nat) : Bool := decide (Cb (r + w) w ≤ Wt w (mks S) (foAll hs))
/-- one version after another is struck -/
def strike (hs : List Nat) (w r : Nat) : List Nat → List Nat → List Nat
  | [], left => left
  | v :: vs, left => strike hs w r vs (if abv hs w r (left.filter fun o => decide (o ≠ v)) = true then left.filter (fun o => decide (o ≠ v)) else left)
theorem strike_ok {hs : List Nat} (hh : Hist hs) (w r : Nat) : ∀ (vs left : List Nat), Sub left hs.length → abv hs (w + 1) r left = true → (∀ x ∈ left, x ∉ vs → abv hs (w + 1) r (left.filter fun o => decide (o ≠ x)) = false) →
    Sub (strike hs (w + 1) r vs left) hs.length ∧ abv hs (w + 1) r (strike hs (w + 1) r vs left) = true ∧ ∀ x ∈ strike hs (w + 1) r vs left, abv hs (w + 1) r ((strike hs (w + 1) r vs left).filter fun o => decide (o ≠ x)) = false
  | [], left, h1, h2, h3 => ⟨h1, h2, fun x hx => h3 x hx (fun z => nomatch z)⟩
  | v :: vs, left, h1, h2, h3 => by
    unfold strike
    by_cases c : abv hs (w + 1) r (left.filter fun o => decide (o ≠ v)) = true
    · rw [if_pos c]
      refine strike_ok hh w r vs _ (h1.filter _) c fun x hx hn => ?_
      obtain ⟨m1, m2⟩ := List.mem_filter.mp hx
      have hxv : x ≠ v := of_decide_eq_true m2
      have q := h3 x m1 (fun z => by rcases List.mem_cons.mp z with z | z; exact hxv z; exact hn z)
      have q' : ¬ Cb (r + (w + 1)) (w + 1) ≤ Wt (w + 1) (mks (left.filter fun o => decide (o ≠ x))) (foAll hs) := of_decide_eq_false q
      refine decide_eq_false fun z => q' (Nat.le_trans z (Wt_mono w fun i _ hi => ?_))
      have hi' := of_decide_eq_true hi
      obtain ⟨a1, a2⟩ := List.mem_filter.mp hi'
      obtain ⟨a3, _⟩ := List.mem_filter.mp a1
      exact decide_eq_true (List.mem_filter.mpr ⟨a3, a2⟩)
    · rw [if_neg c]
      refine strike_ok hh w r vs left h1 h2 fun x hx hn => ?_
      by_cases e : x = v
      · subst e
        simpa using c
      · exact h3 x hx fun z => by rcases List.mem_cons.mp z with z | z; exact e z; exact hn z
/-- what is left has from the capacity to 1 + w + .. + w to the r versions -/
theorem strike_len {hs : List Nat} (hh : Hist hs) (w r : Nat) (h : abv hs (w + 1) r (List.range' 1 hs.length) = true) (vs : List Nat) (hv : ∀ x, 1 ≤ x → x ≤ hs.length → x ∈ vs) :
    Cb (r + (w + 1)) (w + 1) ≤ (strike hs (w + 1) r vs (List.range' 1 hs.length)).length ∧ (strike hs (w + 1) r vs (List.range' 1 hs.length)).length ≤ gs (w + 1) (r + 1) := by
  obtain ⟨s1, s2, s3⟩ := strike_ok hh w r vs (List.range' 1 hs.length) (sub_all _) h fun x hx hn => by
    have := List.mem_range'_1.mp hx
    exact absurd (hv x (by omega) (by omega)) hn
  generalize strike hs (w + 1) r vs (List.range' 1 hs.length) = L at *
  have s2' : Cb (r + (w + 1)) (w + 1) ≤ Wt (w + 1) (mks L) (foAll hs) := of_decide_eq_true s2
  have hc := Sub.count hh s1
  refine ⟨?_, ?_⟩
  · have := Wt_le w (mks L) (foAll hs)
    omega
  · rw [← hc]
    refine least_wall w r (mks L) (foAll hs) (all_nodup hh) s2' fun x _ hx => ?_
    have q := s3 x (of_decide_eq_true hx)
    have q' : ¬ Cb (r + (w + 1)) (w + 1) ≤ Wt (w + 1) (mks (L.filter fun o => decide (o ≠ x))) (foAll hs) := of_decide_eq_false q
    have e : Wt (w + 1) (fun i => mks L i && decide (i ≠ x)) (foAll hs) = Wt (w + 1) (mks (L.filter fun o => decide (o ≠ x))) (foAll hs) := by
      unfold Wt
      rw [Gm_eq (M' := mks (L.filter fun o => decide (o ≠ x))) fun i _ => ?_]
      show (decide (i ∈ L) && decide (i ≠ x)) = decide (i ∈ L.filter fun o => decide (o ≠ x))
      by_cases a : i ∈ L ∧ i ≠ x
      · rw [decide_eq_true a.1, decide_eq_true a.2, decide_eq_true (List.mem_filter.mpr ⟨a.1, decide_eq_true a.2⟩)]
        rfl
      · rw [decide_eq_false (p := i ∈ L.filter fun o => decide (o ≠ x)) fun z => a ⟨(List.mem_filter.mp z).1, of_decide_eq_true (List.mem_filter.mp z).2⟩]
        by_cases b : i ∈ L
        · rw [decide_eq_false (p := i ≠ x) fun z => a ⟨b, z⟩, Bool.and_false]
        · rw [decide_eq_false b, Bool.false_and]
    rw [e]
    omega
/-- fewer versions than the capacity are never a wall -/
theorem few_kept {hs : List Nat} (hh : Hist hs) (w r : Nat) {S : List Nat} (h : Sub S hs.length) (hl : S.length < Cb (r + (w + 1)) (w + 1)) : abv hs (w + 1) r S = false := by
  have h1 := Wt_le w (mks S) (foAll hs)
  rw [Sub.count hh h] at h1
  exact decide_eq_false (by omega)
theorem strike_none {hs : List Nat} (w r : Nat) : ∀ (vs left : List Nat), (∀ v ∈ vs, abv hs w r (left.filter fun o => decide (o ≠ v)) = false) → strike hs w r vs left = left
  | [], _, _ => rfl
  | v :: vs, left, h => by
    unfold strike
    rw [if_neg (by rw [h v List.mem_cons_self]; decide)]
    exact strike_none w r vs left fun x hx => h x (List.mem_cons_of_mem _ hx)
end K67
set_option maxHeartbeats 4000000
namespace K67
open PySem PySem.Spec PyProof.Rows L2
/-! ### math.comb -/
theorem fp_low : ∀ (k : Nat) (n : Int), Builtin.Math.fallingProduct n (k + 1) = n * Builtin.Math.fallingProduct (n - 1) k
  | 0, n => by
    rw [PySem.W.mc_fp_succ, PySem.W.mc_fp_zero, PySem.W.mc_fp_zero]
    omega
  | k + 1, n => by
    rw [PySem.W.mc_fp_succ, fp_low k n, PySem.W.mc_fp_succ (n - 1) k, Int.mul_assoc]
    congr 2
    omega
theorem fp_cb : ∀ (k n : Nat), k ≤ n → Builtin.Math.fallingProduct (n : Int) k = (Cb n k : Int) * Builtin.Math.fallingProduct (k : Int) k
  | 0, n, _ => by
    rw [PySem.W.mc_fp_zero, PySem.W.mc_fp_zero, Cb_zero]; rfl
  | k + 1, n, h => by
    rw [PySem.W.mc_fp_succ, fp_cb k n (by omega), fp_low k ((k + 1 : Nat) : Int)]
    have e1 : ((k + 1 : Nat) : Int) - 1 = (k : Int) := by omega
    have e2 : (n : Int) - (k : Int) = ((n - k : Nat) : Int) := by omega
    rw [e1, e2]
    have h2 := Cb_step n k
    have h3 : ((Cb n (k + 1) : Nat) : Int) * ((k + 1 : Nat) : Int) = ((Cb n k : Nat) : Int) * ((n - k : Nat) : Int) := by
      rw [← Int.natCast_mul, ← Int.natCast_mul, h2]
    rw [← Int.mul_assoc ((Cb n (k + 1) : Nat) : Int), h3, Int.mul_assoc, Int.mul_assoc]
    congr 1
    exact Int.mul_comm _ _
theorem mcComb_cb (a b : Nat) : PySem.W.mcComb (a : Int) (b : Int) = (Cb a b : Int) := by
  by_cases h : a < b
  · rw [PySem.W.mcComb_above (by omega), Cb_gt a b h]; rfl
  · have q : ∀ m : Nat, m ≤ a → Builtin.Math.fallingProduct (a : Int) m / Builtin.Math.fallingProduct (m : Int) m = (Cb a m : Int) := fun m hm => by
      rw [fp_cb m a hm]
      have := PySem.W.mc_fp_pos (n := (m : Int)) m (Int.le_refl _)
      exact Int.mul_ediv_cancel _ (by omega)
    by_cases c : b ≤ a - b
    · rw [PySem.W.mcComb_at (a := (a : Int)) (b := (b : Int)) (m := (b : Int)) (by omega) (by omega) (by omega)]
      exact q b (by omega)
    · rw [PySem.W.mcComb_at (a := (a : Int)) (b := (b : Int)) (m := ((a - b : Nat) : Int)) (by omega) (by omega) (by omega)]
      have e := Cb_symm b (a - b)
      rw [show b + (a - b) = a by omega] at e
      rw [e]
      exact q (a - b) (by omega)
def rComb : List V → Hp → VK → Prop := fun vs H Q => ∃ a b : Nat, vs = [.int (a : Int), .int (b : Int)] ∧ a ≤ 18000 ∧ Q (.int ((Cb a b : Nat) : Int)) H
theorem cr_comb {X : Cx} : CallR X (.builtin "math.comb") rComb := by
  intro pins s σ H vs us Q I r h
  obtain ⟨a, b, rfl, ha, q⟩ := h
  obtain ⟨t, u, rfl⟩ := Vals.int2 r
  refine PySem.W.mc_comb_v (c := ((Cb a b : Nat) : Int)) (by omega) (by omega) (by omega) (.inr (by omega)) (mcComb_cb a b) ⟨.int _, H, I.tok _, ⟨_, rfl⟩, q⟩
/-! ### list.extend of a tuple -/
def rExtT : V → List V → Hp → VK → Prop := fun x vs H Q => ∃ l b xs zs, x = .ref l ∧ vs = [.ref b] ∧ H l = some (.lst xs) ∧ H b = some (.tup zs) ∧ xs.length + zs.length ≤ sizeLine ∧ Q .non (upd H l (.lst (xs ++ zs)))
theorem ext_tup (l : Addr) (items : Array Value) (n : Nat) (b : Addr) (items2 : Array Value) (n2 : Nat) (dd : Option Addr) (sl : Array (Option Value)) (hs0 : ¬(!items.isEmpty && Builtin.List.listTooLong (items.size + items2.size)) = true) (hs1 : items.size ≤ sizeLine) (hs2 : items.size + items2.size ≤ sizeLine + 1) :
    Meets (Builtin.«list.extend» ⟨[.ref l, .ref b], []⟩) (fun _ R s => s.heap.get? l = some { cls := .type "list", dict := none, data := .seq items n, slots := #[] } ∧ s.heap.get? b = some { cls := .type "tuple", dict := dd, data := .seq items2 n2, slots := sl } ∧ R (.ok (.ret Value.none)) { s with heap := s.heap.update l (Obj.mapSeq fun x => x ++ items2), toks := s.toks }) :=
  .of_wp fun prog w A R s h => by
    obtain ⟨hp, g, d, tk, os⟩ := s; obtain ⟨hl, hb, h⟩ := h; have f1 := AutoSeq1.idx_int; have f2 := AutoSeq1.sub_tuple_tuple; have f3 := AutoSeq1.sub_list_list; have f4 := AutoSeq1.sub_tuple_list; have f5 := AutoSeq1.sub_list_tuple
    have hz' : (items ++ items2).size ≤ sizeLine + 1 := by rw [Array.size_append]; exact hs2
    wp_walk using (wpAny_updateSeq hl rfl (hz := hs1) (_hz' := hz')), wpAny_loadPart' hl, wpAny_loadPart' hb; exact ⟨_, rfl, h⟩
theorem mt_extT {X : Cx} : MtM X "list.extend" rExtT := by
  intro pins s σ H x vs v us Q I rx rv h
  obtain ⟨l, b, xs, zs, rfl, rfl, hH, hB, hz, q⟩ := h
  cases rx
  obtain ⟨u, rfl, ru⟩ := rv.one
  cases ru
  obtain ⟨z, its, n, r, hl, e⟩ := I.lstM hH
  obtain ⟨its2, r2, ⟨⟨cls, dd, data, sl⟩, ho, hc, n2, hd⟩, hs⟩ := I.tuple (SqT.of hB)
  simp only at hc hd
  subst hc hd
  have hl2 : its2.length = zs.length := r2.length.symm
  have hsz : its.toArray.size + its2.toArray.size ≤ sizeLine := by rw [List.size_toArray, List.size_toArray]; omega
  have hlong : ¬ (!its.toArray.isEmpty && Builtin.List.listTooLong (its.toArray.size + its2.toArray.size)) = true := by
    rw [notLongL hsz, Bool.and_false]
    exact Bool.false_ne_true
  refine call_meets F.slot_list_extend ⟨_, e, rfl⟩ F.entry_list_extend (F.args_list_extend_2 _ _)
    (ext_tup l its.toArray n b its2.toArray n2 dd sl hlong (by rw [List.size_toArray]; omega) (by omega)) ⟨e, ho, ?_⟩
  refine ⟨.non, _, I.lset (its' := its ++ its2) hH e (by simp) (r.append r2) ?_, rfl, q⟩
  rw [List.length_append]
  omega
/-! ### a call with keywords alone -/
def tCallK0 (sp : Sp) (gV : List V → List V) (E : XK) (tk : TA) : TE := fun σ H Q => tk σ H fun zs H2 => sp (gV zs) H2 Q E
structure KB0 (K : PySem.W.Frag) (fd : FuncData) (ps ks : List Str) (g : List Value → List Value) (gV : List V → List V) : Prop where
  to : ∀ (s : Shared) (ws : List Value), K.In s.heap → ws.length = ks.length → BindsTo s fd ⟨[], ks.zip ws⟩ (ps.zip (g ws))
  rel : ∀ {zs : List V} {ws : List Value}, Vals zs ws → Vals (gV zs) (g ws)
theorem pe_callK0 {X : Cx} {CX : CXT} {k : Nat} {f : Addr} {fd : FuncData} {ps ks : List Str} {sp : Sp} {E : XK} {x : Str} {p pos : Pos} {kws : List Keyword} {tk : TA} {g : List Value → List Value} {gV : List V → List V}
    (F : FnOk X.prog X.w X.K X.mg X.base CX k f fd ps sp) (hr : Room k X.A) (hg : Gl X x) (hm : X.mg x = some (.ref f)) (hk : PySem.W.keepIn X.K (.ref f) = true) (hb : KB0 X.K fd ps ks g gV) (hx : Passes CX X E)
    (hkw : PK X kws tk) (hall : (backToKw pos (keywordEach kws X.env)).all (·.1.isSome) = true := by rfl) (hks : (backToKw pos (keywordEach kws X.env)).filterMap (·.1) = ks := by rfl)
    (hdb : (x == ("__debug__" : Str)) = false := by decide)
    (hpl : ((backTo pos (starEach [] X.env)).any (·.1) || (backToKw pos (keywordEach kws X.env)).any (·.1.isNone)) = false := by rfl) :
    PE X (.Call (.Name x p) [] kws pos) (fun σ H Q => tk σ H fun zs H2 => zs.length = ks.length ∧ sp (gV zs) H2 Q E) := by
  refine ⟨fun pins s σ H Q I h => ?_⟩
  refine wpAny_Call_Name_kw (ld_glob I hg hm ?_ hdb)
  refine PySem.W.callWith_KW0 (h₀ := X.base) I.ok.mod.kin hk hall (thn (hkw.run pos pins s σ H _ I h) fun ws s2 ⟨zs, H2, I2, rz, hl, q2⟩ => ⟨I2.kIn, ?_⟩) hpl
  rw [hks]
  have r2 := hb.rel rz
  refine wpAny_call (codeAny_mono (F.run X.A X.stack s2 H2 ⟨[], ks.zip ws⟩ (g ws) (gV zs) Q E hr I2.env0 (hb.to s2 ws I2.kIn (rz.length.symm.trans hl)) r2 q2) fun r s' hq => ?_)
  cases r with
  | error e => exact hx pins σ H2 s2 e s' I2 hq
  | ok fl =>
    cases fl with
    | ret u => exact I2.after hq
    | next => exact False.elim hq
    | brk => exact False.elim hq
    | cont => exact False.elim hq
/-! ### t[::-1] -/
theorem slicePlaces_rev (n : Nat) : Builtin.Slice.slicePlaces ((n : Int) - 1) (-1) (-1) = n := by
  unfold Builtin.Slice.slicePlaces
  rw [if_neg (by decide)]
  by_cases h : n = 0
  · subst h; rfl
  · rw [if_pos (by omega)]
    have e : ((n : Int) - 1 - -1 - -1 - 1) / -(-1) = (n : Int) := by
      rw [show -(-1 : Int) = 1 by decide, Int.ediv_one]
      try omega
    first
      | (rw [e]; exact Int.toNat_natCast n)
      | (simp; done)
      | (simp; omega)
theorem adjust_rev (n : Nat) : Builtin.Slice.sliceAdjust none none (-1) (n : Int) = ((n : Int) - 1, -1) := by
  unfold Builtin.Slice.sliceAdjust
  rfl
theorem filterMap_all {α β : Type} {f : α → Option β} {g : α → β} : ∀ {l : List α}, (∀ m ∈ l, f m = some (g m)) → l.filterMap f = l.map g
  | [], _ => rfl
  | a :: l, h => by
    rw [List.filterMap_cons, h a List.mem_cons_self, List.map_cons, filterMap_all fun m hm => h m (List.mem_cons_of_mem _ hm)]
theorem pick_rev (items : Array Value) : ((List.range items.size).filterMap fun (m : Nat) => items[(((items.size : Int) - 1) + (m : Int) * (-1)).toNat]?).toArray = items.toList.reverse.toArray := by
  have e1 : ((List.range items.size).filterMap fun (m : Nat) => items[(((items.size : Int) - 1) + (m : Int) * (-1)).toNat]?) = items.toList.reverse := by
    rw [filterMap_all (g := fun m => items.toList.reverse.getD m .none) (l := List.range items.size) fun m hm => by
      have hm' : m < items.size := List.mem_range.mp hm
      have e : (((items.size : Int) - 1) + (m : Int) * (-1)).toNat = items.size - 1 - m := by omega
      have h1 : items.size - 1 - m < items.size := by omega
      show items[(((items.size : Int) - 1) + (m : Int) * (-1)).toNat]? = some (items.toList.reverse.getD m .none)
      rw [e, Array.getElem?_eq_getElem h1, List.getD_eq_getElem?_getD, List.getElem?_reverse (by simpa using hm')]
      simp [h1]]
    apply List.ext_getElem?
    intro i
    rw [List.getElem?_map]
    by_cases hi : i < items.size
    · rw [List.getElem?_range hi]
      show some (items.toList.reverse.getD i .none) = _
      rw [List.getD_eq_getElem?_getD, List.getElem?_eq_getElem (by simpa using hi)]
      rfl
    · rw [List.getElem?_eq_none (by simp; omega), List.getElem?_eq_none (by simp; omega)]
      rfl
  rw [e1]
section
variable {prog : Program} {w : World} {A : Around} {E : Value → Shared → Prop} {s : Shared}
theorem sliceApplied_rev {sl : Addr} {u : Tok} {n : Nat} {Q : Int × Int × Nat → Shared → Prop} (hs : s.heap.IsSliceOf sl .none .none (.int (-1) u))
    (h : Q ((n : Int) - 1, -1, n) s) : wpAny (model prog w) A (Builtin.Slice.sliceApplied (.ref sl) (pure (n : Int))) Q E s := by
  obtain ⟨os, hos, hcs, hds⟩ := id hs
  unfold Builtin.Slice.sliceApplied Builtin.Slice.sliceFields
  refine wpAny_bind (wpAny_bind (wpAny_field hos hds (x := .none) rfl (wpAny_bind (wpAny_field hos hds (x := .none) rfl (wpAny_bind (wpAny_field hos hds (x := .int (-1) u) rfl (wpAny_pure ?_)))))))
  refine wpAny_bind (slicePart_int ?_)
  show wpAny _ _ (if ((-1 : Int) == 0) = true then _ else _) _ _ s
  rw [if_neg (by decide)]
  refine wpAny_bind (slicePart_none (wpAny_bind (slicePart_none (wpAny_bind (wpAny_pure ?_)))))
  show wpAny _ _ (match Builtin.Slice.sliceAdjust none none (-1) (n : Int) with | (lo, hi) => pure (lo, (-1 : Int), Builtin.Slice.slicePlaces lo hi (-1))) _ _ s
  rw [adjust_rev n]
  show wpAny _ _ (pure ((n : Int) - 1, (-1 : Int), Builtin.Slice.slicePlaces ((n : Int) - 1) (-1) (-1))) _ _ s
  rw [slicePlaces_rev]
  exact wpAny_pure h
theorem getItem_tuple_rev {t sl : Addr} {items : Array Value} {u : Tok} {Q : Value → Shared → Prop} (ht : IsTup s.heap t items) (hs : s.heap.IsSliceOf sl .none .none (.int (-1) u))
    (h : Q (.ref s.heap.objs.size) { s with heap := s.heap.push { cls := .type "tuple", data := .seq items.toList.reverse.toArray } })
    (hsz : items.size ≤ sizeLine) : wpAny (model prog w) A (getItem (.ref t) (.ref sl)) Q E s := by
  have htake : sizeOk (.seq items.toList.reverse.toArray) := by
    show items.toList.reverse.toArray.size ≤ sizeLine
    rw [List.size_toArray, List.length_reverse, Array.length_toList]
    exact hsz
  obtain ⟨os, hos, hcs, hds⟩ := id hs
  have hTs : s.TypeIs (.ref sl) "slice" := ⟨os, hos, hcs⟩
  unfold getItem
  try with_reducible refine wpAny_holding ?_
  first | refine wpAny_bind (wpAny_pure ?_) | skip
  refine wpAny_bind (wpAny_sequenceKey ht.typeIs (by decide) ?_)
  refine wpAny_bind (wpAny_callSpecial?_slot (name := Str.ofString "__getitem__") ht.typeIs PyProof.Rows.slot_tuple_getitem
    (wpAny_call_entry PyProof.Rows.slot_tuple_getitem ht.typeIs entry_tuple_getitem ?_ (args_tuple_getitem _ _)))
  show wpAny _ _ (Builtin.Tuple.tupleItemsOf (.ref t) >>= _) _ _ s
  refine wpAny_bind (PyProof.Rows.tupleItemsOf_ ht ?_)
  refine wpAny_bind (wpAny_typeOf hTs ?_)
  rw [if_pos (by decide)]
  refine wpAny_bind (sliceApplied_rev hs ?_)
  have hno : ¬ (((((items.size : Nat) : Int) - 1) == 0 && (-1 : Int) == 1 && items.size == items.size) = true) := by
    intro q
    rw [Bool.and_eq_true, Bool.and_eq_true] at q
    exact absurd q.1.2 (by decide)
  show wpAny _ _ (if ((((items.size : Nat) : Int) - 1) == 0 && (-1 : Int) == 1 && items.size == items.size) = true then _ else _) _ _ s
  rw [if_neg hno, pick_rev]
  first
    | exact wpAny_bind (m := Builtin.Tuple.tupleExact _) (wpAny_newObj_type (wpAny_pure ⟨_, rfl, wpAny_pure h⟩) htake)
    | exact wpAny_bind (m := Builtin.Tuple.tupleExact _) (wpAny_newObj_type (wpAny_bind (wpAny_pure (wpAny_pure ⟨_, rfl, wpAny_pure h⟩))) htake)
    | exact wpAny_bind (wpAny_bind (m := Builtin.Tuple.tupleExact _) (wpAny_newObj_type (wpAny_pure (wpAny_pure ⟨_, rfl, wpAny_pure h⟩)) htake))
    | exact wpAny_bind (wpAny_bind (m := Builtin.Tuple.tupleExact _) (wpAny_newObj_type (wpAny_pure ⟨_, rfl, wpAny_pure h⟩) htake))
end
def tRevT (K : PySem.W.Frag) (te : TE) : TE := fun σ H Q => te σ H fun x H1 => ∃ a xs, x = .ref a ∧ SqT K H1 a xs ∧ ∀ p, H1 p = none → Q (.ref p) (upd H1 p (.tup xs.reverse))
theorem pe_revT {X : Cx} {e : Expr} {te : TE} {k : Nat} {p1 p2 p3 pos : Pos} (he : PE X e te) : PE X (.Subscript e (.Slice none none (some (.UnaryOp .USub (.Constant (.int 1) k p1) p2)) p3) pos) (tRevT X.K te) := by
  refine ⟨fun pins s σ H Q I h => ?_⟩
  refine Subscript_ (thn (he.run pins s σ H _ I h) fun v s1 ⟨x, H1, I1, r1, q1⟩ => ?_)
  obtain ⟨a, xs, ex, hx, q⟩ := q1
  subst ex
  cases r1
  have hst : PO X (some (.UnaryOp .USub (.Constant (.int 1) k p1) p2)) (tPart (tUn (rU fun i => .int (-i)) (tC (.int 1)))) := po_some (pe_un un_neg pe_int)
  refine wpAny_Slice (thn (po_none.run pins s1 σ H1 (fun o H2 => o = none ∧ H2 = H1) I1 ⟨rfl, rfl⟩) fun vl s2 ⟨l, H2, I2, pl, el, e2⟩ => ?_)
  subst el e2
  refine thn (po_none.run pins s2 σ H2 (fun o H3 => o = none ∧ H3 = H2) I2 ⟨rfl, rfl⟩) fun vu s3 ⟨u, H3, I3, pu, eu, e3⟩ => ?_
  subst eu e3
  refine thn (hst.run pins s3 σ H3 (fun o H4 => o = some (-1) ∧ H4 = H3) I3 ⟨1, rfl, -1, rfl, rfl, rfl⟩) fun vs s4 ⟨o, H4, I4, ps, eo, e4⟩ => ?_
  subst eo e4
  have I5 : Inv X pins σ H4 { s4 with heap := s4.heap.push { cls := .type "slice", data := .fields #[vl, vu, vs] } } := I4.kept (t' := s4.toks) fun b ob q => Heap.get?_push_of_some _ q
  obtain ⟨its, r, ht, hz⟩ := I5.tuple hx
  have hlen := r.length
  cases pl
  cases pu
  cases ps with
  | int i t =>
    show wpAny (model X.prog X.w) X.A (subscriptTail e (.Slice none none (some (.UnaryOp .USub (.Constant (.int 1) k p1) p2)) p3) (.ref a) (.ref s4.heap.objs.size)) (EP X pins σ Q) X.xe _
    refine tail_any (ops := [.ref a, .ref s4.heap.objs.size]) ht.typeIs (PyProof.Rows.slot_tuple_getitem.lookup) ?_ (by with_unfolding_all rfl)
    refine getItem_tuple_rev ht (Heap.IsSliceOf.new _ _ _ _) ?_ (by rw [List.size_toArray]; omega)
    refine ⟨.ref _, _, I5.laid (t' := s4.toks) (o := .tup xs.reverse) (fun b ob q => Heap.get?_push_of_some _ q) (Nat.le_refl _) ?_, rfl, q _ (I5.hok.fresh (Nat.le_refl _))⟩
    exact ⟨by rw [List.length_reverse]; exact hz, _, r.reverse, IsTup.new _ _⟩
end K67
set_option maxHeartbeats 600000
namespace K67
open PySem PySem.Spec PyProof.Rows L2
open Sem (wp)
/-! ### t * 1: the tuple itself -/
theorem tup_mul_one (l : Addr) (items : Array Value) (n : Nat) (dd : Option Addr) (sl : Array (Option Value)) (u : Tok) :
    Meets (Builtin.«tuple.__mul__» ⟨[.ref l, .int 1 u], []⟩) (fun _ R s => s.heap.get? l = some { cls := .type "tuple", dict := dd, data := .seq items n, slots := sl } ∧ R (.ok (.ret (.ref l))) s) :=
  .of_wp fun prog w A R s h => by
    obtain ⟨hp, g, d, tk, os⟩ := s
    obtain ⟨hl, h⟩ := h
    have c1 : (items.isEmpty || (1 : Int) == 1) = true := by simp
    wp_walk using wpAny_loadPart' hl
    repeat (first
      | (refine wpAny_ite_true c1 ?_; wp_walk using wpAny_loadPart' hl)
      | (rw [if_pos c1]; wp_walk using wpAny_loadPart' hl))
    exact ⟨_, rfl, h⟩
def rMul1 (K : PySem.W.Frag) : R2 := fun x y H Q => ∃ l xs, x = .ref l ∧ y = .int 1 ∧ H l = some (.tup xs) ∧ Q (.ref l) H
/-! ### max(xs, default=d), xs not empty -/
section
variable {prog : Program} {w : World} {A : Around} {R : Result → Shared → Prop} {I : Addr} {fp wr : List Addr} {n : Nat} {P : Nat → Value → Prop} {St : Nat → Heap → Prop} {kw : List (Str × Value)}
theorem mx_loop (W : Walks prog w A.in1 I fp wr n P St) (bt : Nat → Nat → Bool) (hcmp : CmpOf prog w A.in1 .Gt P bt) (S : Addr) (hSf : S ∉ fp) : ∀ (k j : Nat) (s : Shared) (vb : Value) (c : Nat), n - (j + 1) = k → j + 1 ≤ n → St (j + 1) s.heap → P (argBest bt j) vb →
    s.heap.get? S = some { cls := .type "list", dict := none, data := .seq #[vb, vb] c, slots := #[] } → (∀ v h' tk, P (argBest bt (n - 1)) v → (∀ b o, b ∉ wr → b ≠ S → s.heap.get? b = some o → h'.get? b = some o) → R (.ok (.ret v)) { s with heap := h', toks := tk }) →
    codeAny (model prog w) A (.builtin "max.loop" ⟨[.ref I, .none, .ref S], kw⟩) R s := by
  have hSw : S ∉ wr := fun h => hSf (W.sub _ h)
  have hname : (toString "max" ++ toString ".loop" : String) = "max.loop" := by decide
  intro k
  induction k with
  | zero =>
    intro j s vb c hk hj hst hPb hS hR
    have hin : j + 1 = n := by omega
    refine codeAny_builtin F.entry_max_loop (by
      rw [Around.under_plainId F.plain_max_loop _]
      show wpAny _ A.in1 (seqItems? (.ref S) >>= _) _ _ s
      refine wpAny_bind (wpAny_seqItems hS rfl ?_)
      show wpAny _ A.in1 (tryCatch (pyNext (.ref I)) _ >>= _) _ _ s
      refine wpAny_bind (wpAny_tryCatch (W.done s _ _ (hin ▸ hst) fun h' tk hk' => ?_))
      have hS' := hk' S _ hSw hS
      show wpAny _ A.in1 (updateSeq S (fun _ => #[]) >>= _) _ _ _
      refine wpAny_bind (wpAny_updateSeq hS' rfl (wpAny_bind (wpAny_letGo (wpAny_pure ?_))))
      exact hR vb _ tk (by rw [← hin]; exact hPb) fun b o hbw hbS e => (Heap.get?_update_other _ _ (Ne.symm hbS)).trans (hk' b o hbw e))
  | succ k ih =>
    intro j s vb c hk hj hst hPb hS hR
    have hlt : j + 1 < n := by omega
    refine codeAny_builtin F.entry_max_loop (by
      rw [Around.under_plainId F.plain_max_loop _]
      show wpAny _ A.in1 (seqItems? (.ref S) >>= _) _ _ s
      refine wpAny_bind (wpAny_seqItems hS rfl ?_)
      show wpAny _ A.in1 (tryCatch (pyNext (.ref I)) _ >>= _) _ _ s
      refine wpAny_bind (wpAny_tryCatch (W.item (j + 1) s _ _ hlt hst fun v h' tk hP hst' hk' => ?_))
      have hS' := hk' S _ hSw hS
      show wpAny _ A.in1 (tryCatch (holding [v, v] (richCompare .Gt v vb >>= _)) _ >>= _) _ _ _
      refine wpAny_bind (wpAny_tryCatch (wpAny_holding (wpAny_bind (hcmp (j + 1) (argBest bt j) v vb _ _ _ hP hPb (wpAny_bind (wpAny_holding (wpAny_truthy_bool (wpAny_bind (wpAny_letGo (wpAny_pure ?_))))))))))
      cases hb : bt (j + 1) (argBest bt j) with
      | true =>
        simp only [if_true]
        refine wpAny_bind (wpAny_updateSeq hS' rfl (wpAny_bind (wpAny_letGo ?_)))
        rw [hname]
        refine wpAny_pure ⟨plainId_quiet F.plain_max_loop _, ih (j + 1) _ v _ (by omega) hlt (W.frame _ _ _ hst' fun b hbf o e => ?_) (by simp only [argBest, hb, if_true]; exact hP) (Heap.get?_update_self _ hS' rfl)
          fun v' h'' tk'' hP' hk'' => hR v' h'' tk'' hP' fun b o hbw hbS e => hk'' b o hbw hbS ((Heap.get?_update_other _ _ (Ne.symm hbS)).trans (hk' b o hbw e))⟩
        exact (Heap.get?_update_other _ _ (fun h : S = b => hSf (by rw [h]; exact hbf))).trans e
      | false =>
        simp only [Bool.false_eq_true, if_false]
        refine wpAny_bind (wpAny_letGo ?_)
        rw [hname]
        exact wpAny_pure ⟨plainId_quiet F.plain_max_loop _, ih (j + 1) _ vb c (by omega) hlt hst' (by simp only [argBest, hb, Bool.false_eq_true, if_false]; exact hPb) hS' fun v' h'' tk'' hP' hk'' => hR v' h'' tk'' hP' fun b o hbw hbS e => hk'' b o hbw hbS (hk' b o hbw e)⟩)
theorem mx_first (W : Walks prog w A.in1 I fp wr n P St) (bt : Nat → Nat → Bool) (hcmp : CmpOf prog w A.in1 .Gt P bt) (S : Addr) (hSf : S ∉ fp) (hn : 0 < n) {s : Shared} {c : Nat} (hst : St 0 s.heap)
    (hS : s.heap.get? S = some { cls := .type "list", dict := none, data := .seq #[] c, slots := #[] }) (hR : ∀ v h' tk, P (argBest bt (n - 1)) v → (∀ b o, b ∉ wr → b ≠ S → s.heap.get? b = some o → h'.get? b = some o) → R (.ok (.ret v)) { s with heap := h', toks := tk }) :
    codeAny (model prog w) A (.builtin "max.loop" ⟨[.ref I, .none, .ref S], kw⟩) R s := by
  have hSw : S ∉ wr := fun h => hSf (W.sub _ h)
  have hname : (toString "max" ++ toString ".loop" : String) = "max.loop" := by decide
  refine codeAny_builtin F.entry_max_loop (by
    rw [Around.under_plainId F.plain_max_loop _]
    show wpAny _ A.in1 (seqItems? (.ref S) >>= _) _ _ s
    refine wpAny_bind (wpAny_seqItems hS rfl ?_)
    show wpAny _ A.in1 (tryCatch (pyNext (.ref I)) _ >>= _) _ _ s
    refine wpAny_bind (wpAny_tryCatch (W.item 0 s _ _ hn hst fun v h' tk hP hst' hk' => ?_))
    have hS' := hk' S _ hSw hS
    show wpAny _ A.in1 (updateSeq S (fun _ => #[v, v]) >>= _) _ _ _
    refine wpAny_bind (wpAny_updateSeq hS' rfl ?_)
    rw [hname]
    refine wpAny_pure ⟨plainId_quiet F.plain_max_loop _, mx_loop W bt hcmp S hSf _ 0 _ v _ rfl hn (W.frame _ _ _ hst' fun b hbf o e => ?_) hP (Heap.get?_update_self _ hS' rfl) fun v' h'' tk'' hP' hk'' => hR v' h'' tk'' hP' fun b o hbw hbS e => hk'' b o hbw hbS ((Heap.get?_update_other _ _ (Ne.symm hbS)).trans (hk' b o hbw e))⟩
    exact (Heap.get?_update_other _ _ (fun h : S = b => hSf (by rw [h]; exact hbf))).trans e)
end
section
variable {prog : Program} {w : World} {A : Around} {E : Value → Shared → Prop} {s : Shared} {l : Addr} {xs : Array (Int × Tok)} {d : Value}
theorem args_mxd (a d : Value) : argsOk "max" ⟨[a], [(Str.ofString "default", d)]⟩ := by unfold argsOk; kernel_rfl
theorem mxd_walk {x : Value} {Q : Value → Shared → Prop}
    (h : wpAny (model prog w) A.in1 (pyIter x) (fun it s₂ => ∃ I fp wr n P St bt, it = .ref I ∧ Walks prog w A.in1 I fp wr n P St ∧ St 0 s₂.heap ∧ (∀ b ∈ fp, b < s₂.heap.objs.size) ∧ 0 < n ∧ CmpOf prog w A.in1 .Gt P bt ∧
      ∀ v h' tk, P (argBest bt (n - 1)) v → (∀ b o, b ∉ wr → s₂.heap.get? b = some o → h'.get? b = some o) → Q v { s₂ with heap := h', toks := tk }) E s) :
    wpAny (model prog w) A (call (.builtin "max") [x] [(Str.ofString "default", d)]) Q E s := by
  have hname : (toString "max" ++ toString ".loop" : String) = "max.loop" := by decide
  refine kmk_tree F.kind_max F.plain_max F.entry_max (args_mxd _ _) ?_
  show wpAny _ A.in1 (Builtin.Builtins.bindParams "max" ["key", "default"] 0 ⟨[], [(Str.ofString "default", d)]⟩ >>= _) _ _ s
  refine wpAny_bind (wpAny_of_eq (show Builtin.Builtins.bindParams "max" ["key", "default"] 0 ⟨[], [(Str.ofString "default", d)]⟩ = pure [none, some d] from rfl) ?_)
  refine wpAny_bind (wpAny_pure ?_)
  refine wpAny_bind (wpAny_mono h (fun it s₂ h₂ => ?_) fun _ _ e => e)
  obtain ⟨I, fp, wr, n, P, St, bt, rfl, W, hst, hfp, hn, hcmp, hQ⟩ := h₂
  refine wpAny_bind (wpAny_newObj_type ?_)
  have hSf : s₂.heap.objs.size ∉ fp := fun hm => Nat.lt_irrefl _ (hfp _ hm)
  rw [hname]
  exact wpAny_pure ⟨plainId_quiet F.plain_max_loop _, mx_first W bt hcmp s₂.heap.objs.size hSf hn (W.frame _ _ _ hst fun b _ o e => Heap.get?_push_of_some _ e) (Heap.get?_push_size _ rfl) fun v h' tk hP hk =>
    hQ v h' tk hP fun b o hbw e => hk b o hbw (Nat.ne_of_lt (Heap.lt_size e)) (Heap.get?_push_of_some _ e)⟩
theorem mxd_list {Q : Value → Shared → Prop} (hh : A.handled = none) (hl : s.heap.IsList l (intItems xs)) (hne : 0 < xs.size)
    (h : ∀ v h' tk, (intItems xs)[argBest (fun i j => decide (numAt xs i > numAt xs j)) (xs.size - 1)]? = some v → (∀ b o, s.heap.get? b = some o → h'.get? b = some o) → Q v { s with heap := h', toks := tk }) :
    wpAny (model prog w) A (call (.builtin "max") [.ref l] [(Str.ofString "default", d)]) Q E s := by
  refine mxd_walk (iter_intList hl fun s₂ e st hfp hlI => ?_)
  subst e
  exact ⟨_, _, _, _, _, _, _, rfl, Walks.list (A := A.in1) hh _ l hlI (intItems xs), st, hfp, by simpa [intItems] using hne, CmpOf.ints_gt (numAt xs) (fun _ _ => intItems_at), fun v h' tk hP hk => h v h' tk (by simpa [intItems] using hP) (old_kept hk)⟩
end
section
variable {X : Cx}
def rMxD (K : PySem.W.Frag) : List V → List V → Hp → VK → Prop := fun vs zs H Q => ∃ (a : Addr) (ns : List Int), vs = [V.ref a] ∧ zs.length = 1 ∧ SqL K H a (ns.map V.int) ∧ 0 < ns.length ∧ ∀ m, m ∈ ns → (∀ y, y ∈ ns → y ≤ m) → Q (.int m) H
theorem cr_maxD (hc : X.calm = true) : CallRK X (.builtin "max") [Str.ofString "default"] (rMxD X.K) := by
  intro pins s σ H vs zs us ws Q I r rz h
  obtain ⟨a, ns, rfl, h1, hs, hne, q⟩ := h
  obtain ⟨its, rv, hl, _⟩ := I.list hs
  rw [Vals.ref1 r]
  cases rz with
  | nil => cases h1
  | cons r0 rr =>
    cases rr with
    | cons _ _ => simp at h1
    | nil =>
      rename_i z d
      obtain ⟨xs, e⟩ := rv.ints.allInts.items
      have hn : numsOf (intItems xs).toList = ns := by rw [← e]; exact rv.ints.numsOf
      rw [nums_intItems] at hn
      subst hn
      have hl2 := hl.isList
      rw [e] at hl2
      have hsz : 0 < xs.size := by simpa using hne
      refine mxd_list (I.ok.hd hc) hl2 hsz fun v h' tk hv hk => ?_
      obtain ⟨t, rfl⟩ := intItems_at hv
      obtain ⟨h3, h4⟩ := argBest_gt (numAt xs) (xs.size - 1)
      refine ⟨.int _, H, I.kept hk, ⟨_, rfl⟩, q _ ?_ fun a ha => ?_⟩
      · rw [numAt_eq]; exact PySem.getD_mem (by rw [List.length_map, Array.length_toList]; omega)
      · obtain ⟨j, hj, rfl⟩ := mem_getD ha
        rw [List.length_map, Array.length_toList] at hj
        rw [← numAt_eq]; exact h4 j (by omega)
theorem op_mul1 : OpR X (binaryOp .Mult) (rMul1 X.K) := by
  intro pins s σ H x y v u Q I rx ry h
  obtain ⟨l, xs, rfl, rfl, hT, q⟩ := h
  cases rx
  obtain ⟨t, rfl⟩ := ry
  obtain ⟨its, r, ⟨⟨cls, dd, data, sl⟩, ho, hc, n, hd⟩, hs⟩ := I.tuple (SqT.of hT)
  simp only at hc hd
  subst hc hd
  exact wpAny_binaryOp_repeat_ref (T := "tuple") (U := "int") (by decide) ⟨_, ho, rfl⟩ (fun s' => typeIs_int s' 1 t) noFill_tuple_mul F.fills_int_mul F.slot_int_rmul repeat_tuple F.slot_int_index.lookup
    (call_meets F.slot_int_rmul (typeIs_int s 1 t) F.entry_int_rmul (F.args_int_rmul_2 _ _) (int_rmul_tuple 1 t l its.toArray n dd sl)
      ⟨ho, rfl, ⟨_, ho, rfl⟩, call_meets F.slot_tuple_mul ⟨_, ho, rfl⟩ F.entry_tuple_mul (F.args_tuple_mul_2 _ _) (tup_mul_one l its.toArray n dd sl t) ⟨ho, .ref l, H, I, rfl, q⟩⟩)
end
end K67
set_option maxHeartbeats 1000000
namespace K67
open PySem PySem.Spec PyProof.Rows L2
open Sem (wp)
/-! ### enumerate(tuple) -/
theorem enum_newT (v : Addr) (items : Array Value) : Meets (Builtin.«enumerate.__new__» ⟨[.type "enumerate", .ref v], []⟩) (fun _ R s => s.heap.IsTuple v items ∧
      R (.ok (.ret (.ref (s.heap.push { cls := .type "tuple_iterator", data := .fields #[.ref v, .int 0 0] }).objs.size)))
        { s with heap := (s.heap.push { cls := .type "tuple_iterator", data := .fields #[.ref v, .int 0 0] }).push { cls := .type "enumerate", data := .fields #[.none, .bool false, .ref s.heap.objs.size, rawInt 0, .none, .none] } }) :=
  .of_wp fun prog w A R s h => by
    obtain ⟨hp, g, d, tk, os⟩ := s
    obtain ⟨h1, h⟩ := h
    have hsub := sub_enumerate
    have q1 : ∀ {A' : Around} {E : Value → Shared → Prop} {Q : Value → Shared → Prop}, Q (.ref hp.objs.size) ⟨hp.push { cls := .type "tuple_iterator", data := .fields #[.ref v, .int 0 0] }, g, d, tk, os⟩ → wpAny (model prog w) A' (pyIter (.ref v)) Q E ⟨hp, g, d, tk, os⟩ :=
      fun q => wpAny_pyIter_tuple (s := ⟨hp, g, d, tk, os⟩) h1 q
    wp_walk using q1
    refine wpAny_stack_any fun st => wpAny_pure ?_
    split
    · rename_i c _ _ _ _ _
      cases (c == Value.type "enumerate")
      · wp_walk using q1
        exact ⟨_, rfl, h⟩
      · wp_walk using q1
        exact ⟨_, rfl, h⟩
    · wp_walk using q1
      exact ⟨_, rfl, h⟩
section
variable {prog : Program} {w : World} {A : Around} {E : Value → Shared → Prop} {s : Shared}
theorem enum_tuple {l : Addr} {items : Array Value} {Q : Value → Shared → Prop} (hL : s.heap.IsTuple l items)
    (h : ∀ h', IsEnum h' (s.heap.objs.size + 1) s.heap.objs.size 0 .none → h'.IsTupleIter s.heap.objs.size l 0 → h'.objs.size = s.heap.objs.size + 2 → (∀ b o, s.heap.get? b = some o → h'.get? b = some o) → Q (.ref (s.heap.objs.size + 1)) { s with heap := h' }) :
    wpAny (model prog w) A (call (.type "enumerate") [.ref l]) Q E s := by
  refine callType_new F.called_enumerate (by decide) (F.typeCall_enumerate_1 _) (F.newCall_enumerate_1 _) (fun obj => F.args_object_init_2 obj _) F.entry_enumerate_new (enum_newT l items) ⟨hL, ?_⟩
  have hz : (s.heap.push { cls := .type "tuple_iterator", data := .fields #[.ref l, .int 0 0] }).objs.size = s.heap.objs.size + 1 := Heap.size_push ..
  show _ ∧ _
  rw [hz]
  have he : IsEnum ((s.heap.push { cls := .type "tuple_iterator", data := .fields #[.ref l, .int 0 0] }).push { cls := .type "enumerate", data := .fields #[.none, .bool false, .ref s.heap.objs.size, rawInt 0, .none, .none] }) (s.heap.objs.size + 1) s.heap.objs.size 0 .none := by
    have := Heap.get?_push_size (s.heap.push { cls := .type "tuple_iterator", data := .fields #[.ref l, .int 0 0] }) (o := { cls := .type "enumerate", data := .fields #[.none, .bool false, .ref s.heap.objs.size, rawInt 0, .none, .none] }) rfl
    rw [hz] at this; exact this
  exact ⟨⟨_, he, rfl⟩, h _ he ⟨_, Heap.get?_push_of_some _ (Heap.get?_push_size _ rfl), rfl, rfl⟩ (by rw [Heap.size_push, hz]) fun b o x => Heap.get?_push_of_some _ (Heap.get?_push_of_some _ x)⟩
end
/-- the tuple at a, each item in a new pair -/
def IteT (K : PySem.W.Frag) (a : Addr) : It :=
  ⟨fun i H => ∃ (xs : List V) (x : V), SqT K H a xs ∧ xs[i]? = some x, fun i H v H' => ∃ T x, v = .ref T ∧ H T = none ∧ H' = upd H T (.tup [.int (i : Nat), x]) ∧ ∀ xs, SqT K H a xs → xs[i]? = some x, fun i H => ∃ xs : List V, SqT K H a xs ∧ xs.length = i⟩
theorem turn_enumT {P : Program} {w : World} {K : PySem.W.Frag} {elts : List Expr} {kk : Nat} {tpos : Pos} (a e it : Addr) :
    Turn P w K (.Tuple elts kk tpos) (IteT K a) [e, it] e (fun i h => (∃ old, IsEnum h e it ((i : Nat) : Int) old) ∧ h.IsTupleIter it a i ∧ e ≠ it) where
  mem := by simp
  obj := fun i h st b hb => by
    obtain ⟨⟨old, he⟩, ⟨o, ho, hc, hd⟩, _⟩ := st
    have e' : b = e ∨ b = it := by simpa using hb
    rcases e' with z | z
    · rw [z]; exact ⟨_, he, fun v q => nomatch q⟩
    · rw [z]; exact ⟨o, ho, fun v q => by rw [hd] at q; cases q⟩
  keep := fun i h h' st k => let ⟨⟨old, he⟩, hi, hne⟩ := st; ⟨⟨old, k e (by simp) _ he⟩, hi.at fun o q => k it (by simp) o q, hne⟩
  item := by
    intro X hP hw hK hc i pins s σ H E I hf st hg
    subst hP hw hK
    obtain ⟨⟨old, he⟩, hit, hne⟩ := st
    obtain ⟨xs, x, hq, hx⟩ := hg
    obtain ⟨its, rv, p, hz⟩ := I.tuple hq
    obtain ⟨u, hu, ru⟩ := rv.get hx
    have hel : e < s.heap.objs.size := Heap.lt_size he
    have hil : it < s.heap.objs.size := by obtain ⟨_, q, _⟩ := hit; exact Heap.lt_size q
    have ha : s.heap.IsTuple a its.toArray := p
    have hai : a ≠ it := by
      intro z
      obtain ⟨o1, h1, c1, _⟩ := hit
      obtain ⟨o2, h2, c2, _⟩ := ha
      rw [z] at h2
      rw [h1] at h2
      cases h2
      have c3 : Value.type "tuple_iterator" = Value.type "tuple" := c1.symm.trans c2
      exact absurd c3 (by decide)
    have hea : e ≠ a := by
      intro z
      obtain ⟨o2, h2, c2, _⟩ := ha
      rw [← z] at h2
      rw [he] at h2
      cases h2
      have c3 : Value.type "enumerate" = Value.type "tuple" := c2
      exact absurd c3 (by decide)
    have D := Draws.tuple (prog := X.prog) (w := X.w) (A := X.A.in1) (I.ok.hd hc) it a hai its.toArray
    have hi : i < its.toArray.size := by
      rw [List.size_toArray]
      exact (List.getElem?_eq_some_iff.mp hu).1
    refine wpAny_pyNext_enum_itemD D he ⟨hit, ha⟩ hi hne (by simp; exact ⟨hne, hea⟩) fun x2 h' tk hP ho hit' hT hsz hk => ?_
    have ex : x2 = u := by
      have h1 : its[i]? = some x2 := by simpa using hP
      rw [hu] at h1
      exact (Option.some.inj h1).symm
    subst ex
    refine ⟨_, rfl, wpAny_letOwnedTupleGo_enum (s := { s with heap := h', toks := tk + 1 }) ho fun h'' he' sb => ?_⟩
    have hT2 : h''.get? s.heap.objs.size = some { cls := .type "tuple", data := .seq #[.int i tk, x2] } := (sb.2 _ (Nat.ne_of_gt hel)).trans hT
    have new : ObjOk X.prog X.w (upd H s.heap.objs.size (.tup [.int (i : Nat), x])) h'' s.heap.objs.size (.tup [.int (i : Nat), x]) :=
      ⟨by show 2 ≤ sizeLine; decide, [.int i tk, x2], .cons ⟨_, rfl⟩ (.cons ru .nil), ⟨_, hT2, rfl, _, rfl⟩⟩
    have I1 : Inv X pins σ (upd H s.heap.objs.size (.tup [.int (i : Nat), x])) { s with heap := h'', toks := tk + 1 } :=
      I.turnedNew (ch := [e, it]) (fun b ob hb q => (sb.2 b (fun z => hb (by simp [z]))).trans (hk b ob (fun z => hb (by simp [z])) (fun z => hb (by simp [z])) q)) hf (Nat.le_refl _) new
    refine ⟨.ref s.heap.objs.size, _, I1, rfl, ⟨_, x, rfl, I.hok.fresh (Nat.le_refl _), rfl, fun ys hy => by rw [I.tuple_inj hy hq]; exact hx⟩, ⟨⟨x2, ?_⟩, hit'.1.at fun o q => (sb.2 it (Ne.symm hne)).trans q, hne⟩, fun b hb => ?_⟩
    · have e1 : ((i + 1 : Nat) : Int) = (i : Int) + 1 := by omega
      rw [e1]; exact he'
    · have hb' : b < s.heap.objs.size := by
        have e' : b = e ∨ b = it := by simpa using hb
        rcases e' with z | z
        · rw [z]; exact hel
        · rw [z]; exact hil
      rw [upd_ne (Nat.ne_of_lt hb')]
      exact (hf b hb).1
  done := by
    intro X hP hw hK hc i pins s σ H E I hf st hg
    subst hP hw hK
    obtain ⟨⟨old, he⟩, hit, hne⟩ := st
    obtain ⟨xs, hq, hx⟩ := hg
    obtain ⟨its, rv, p, hz⟩ := I.tuple hq
    obtain ⟨f0, f1, f2, f3, f4, f5⟩ := hf it (by simp)
    have hl := rv.length
    have ha : s.heap.IsTuple a its.toArray := p
    have hai : a ≠ it := by
      intro z
      obtain ⟨o1, h1, c1, _⟩ := hit
      obtain ⟨o2, h2, c2, _⟩ := ha
      rw [z] at h2
      rw [h1] at h2
      cases h2
      have c3 : Value.type "tuple_iterator" = Value.type "tuple" := c1.symm.trans c2
      exact absurd c3 (by decide)
    have D := Draws.tuple (prog := X.prog) (w := X.w) (A := X.A.in1) (I.ok.hd hc) it a hai its.toArray
    have ei : its.toArray.size = i := by rw [List.size_toArray]; omega
    exact wpAny_pyNext_enum_endD D he (by rw [ei]; exact ⟨hit, ha⟩) fun h' eb => ⟨rfl, I.turned (t' := s.toks) (fun b o hb q => eb b o hb q) f0 f1 f3 f4 f5⟩
  self := fun A i s Q E st h => let ⟨⟨_, he⟩, _⟩ := st; wpAny_pyIter_enum he h
def iEnumT (K : PySem.W.Frag) (ta : TA) : TI := fun σ H R => ta σ H fun vs H1 => ∃ a xs, vs = [.ref a] ∧ SqT K H1 a xs ∧ R (IteT K a) H1
theorem pi_enumT {X : Cx} {e : Expr} {ta : TA} {p pos tpos : Pos} {elts : List Expr} {kk : Nat} (hg : Gl X "enumerate") (hm : X.mg "enumerate" = none) (ha : PA X [e] ta) (hs : starEach [e] X.env = [(false, eval e X.env)] := by rfl) :
    PI X (.Tuple elts kk tpos) (.Call (.Name "enumerate" p) [e] [] pos) (iEnumT X.K ta) := by
  refine ⟨fun pins s σ H R I h => ?_⟩
  refine Call_ (ld_blt I hg hm boot_enumerate (PyProof.Rows.callWith_type1 (thn (ha.run pos pins s σ H _ I h) fun us s1 ⟨vs, H1, I1, r1, q1⟩ => ?_) hs rfl))
  obtain ⟨a, xs, ex, hq, q⟩ := q1
  subst ex
  cases r1 with
  | cons r rr =>
    cases rr
    cases r
    obtain ⟨its, rv, p', hz⟩ := I1.tuple hq
    refine enum_tuple (show s1.heap.IsTuple a its.toArray from p') fun h' he hit hsz hk => wpAny_pyIter_enum he ?_
    have I2 : L2.Inv X pins σ H1 { s1 with heap := h' } := I1.kept (t' := s1.toks) hk
    refine ⟨s1.heap.objs.size + 1, [s1.heap.objs.size + 1, s1.heap.objs.size], _, _, H1, rfl, I2, turn_enumT a (s1.heap.objs.size + 1) s1.heap.objs.size, ⟨⟨.none, he⟩, hit, Nat.succ_ne_self _⟩, fun b hb => ?_, q⟩
    have e' : b = s1.heap.objs.size + 1 ∨ b = s1.heap.objs.size := by simpa using hb
    have hle : s1.heap.objs.size ≤ b := by
      rcases e' with z | z
      · rw [z]; exact Nat.le_add_right _ _
      · rw [z]; exact Nat.le_refl _
    exact I1.fpOk hle (I1.hok.fresh hle)
theorem walk_enumT {K : PySem.W.Frag} {a : Addr} {xs : List V} : Walk (IteT K a) xs.length (fun H => SqT K H a xs) (YPair (fun i => some (.int (i : Nat))) (fun i => xs[i]?)) := by
  refine ⟨fun i _ hi q => ⟨xs, xs[i], q, by simp [hi]⟩, fun _ q => ⟨xs, q, rfl⟩, fun i H v H' _ q y => ?_⟩
  obtain ⟨T, x, h1, h2, h3, h4⟩ := y
  exact ⟨T, .int (i : Nat), x, h1, h2, h3, rfl, h4 xs q⟩
/-! ### a def that may be called -/
structure Cal (P : Program) (w : World) (K : PySem.W.Frag) (mg : Str → Option Value) (base : Heap) (k : Nat) (x : Str) (ps : List Str) (sp : Sp) : Prop where
  ex : ∃ (f : Addr) (fd : FuncData), mg x = some (.ref f) ∧ FnOk P w K mg base CX0 k f fd ps sp ∧ L2.Binds K fd ps [] ∧ PySem.W.keepIn K (.ref f) = true ∧ ∃ (oc : Value) (od : Option Addr) (osl : Array (Option Value)), K.lookup f = some ⟨oc, od, .func fd, osl⟩
theorem Cal.imp {P : Program} {w : World} {K : PySem.W.Frag} {mg : Str → Option Value} {base : Heap} {k : Nat} {x : Str} {ps : List Str} {sp sp' : Sp} (c : Cal P w K mg base k x ps sp) (h : ∀ vs H Q E, sp' vs H Q E → sp vs H Q E) : Cal P w K mg base k x ps sp' := by
  obtain ⟨f, fd, g, F, b, kp, lk⟩ := c.ex
  exact ⟨f, fd, g, F.imp h, b, kp, lk⟩
theorem Cal.mono {P : Program} {w : World} {K : PySem.W.Frag} {mg : Str → Option Value} {base : Heap} {j k : Nat} {x : Str} {ps : List Str} {sp : Sp} (c : Cal P w K mg base j x ps sp) (h : j ≤ k) : Cal P w K mg base k x ps sp := by
  obtain ⟨f, fd, g, F, b, kp, lk⟩ := c.ex
  exact ⟨f, fd, g, F.mono h, b, kp, lk⟩
/-- a def of the text as it stands: its name, its statement -/
structure Dfn (K : PySem.W.Frag) (mg : Str → Option Value) (x : Str) (st : Stmt) : Prop where
  ex : ∃ (f : Addr) (fd : FuncData), mg x = some (.ref f) ∧ FunD K x x (defArgs st) (defBody st) (defScope st) [] [] f fd
section
variable {X : Cx} {k j : Nat} {x : Str} {ps : List Str} {sp : Sp} {p pos : Pos} {e : Expr} {es : List Expr} {t : TA}
theorem pe_cal (c : Cal X.prog X.w X.K X.mg X.base k x ps sp) (hr : Room j X.A) (hk : k ≤ j) (hg : Gl X x) (ha : PA X (e :: es) t) (hdb : (x == ("__debug__" : Str)) = false := by decide)
    (he : starEach (e :: es) X.env = (false, eval e X.env) :: starEach es X.env := by rfl) (hpl : (backTo pos (starEach es X.env)).any (·.1) = false := by rfl) :
    PE X (.Call (.Name x p) (e :: es) [] pos) (tCall sp [] E0 t) := by
  refine ⟨fun pins s σ H Q I h => ?_⟩
  obtain ⟨f, fd, g, F, b, kp, _⟩ := c.ex
  exact (pe_call F (hr.mono hk) hg g kp b .nil pass0 ha hdb he hpl).run pins s σ H Q I h
end
section
variable {P : Program} {w : World} {K : PySem.W.Frag} {mg : Str → Option Value} {base : Heap}
/-- THE RULE for a def of the text -/
theorem Dfn.cal {x : Str} {st : Stmt} {N ps : List Str} {k : Nat} {sp : Sp} (D : Dfn K mg x st) (S : FnScope N ps (defScope st)) (len : ∀ vs H Q E, sp vs H Q E → vs.length = ps.length)
    (hb : ∀ (kV doc pm : Value) (an : Option Addr) (cdv ct : Value) (us : List Value), us.length = ps.length → bindArgs (PySem.W.fnOf x x (defArgs st) (defBody st) (defScope st) .none kV doc pm an cdv ct) ⟨us, []⟩ = pure (ps.zip us))
    (hbody : ∀ (f : Addr) (cdv : Value) (A : Around) (outer : List Env) (s : Shared) (H : Hp) (vs : List V) (Q : VK) (E : XK), Room k (A.deeper (envOfC x (defScope st) s.heap.objs.size f cdv)) → sp vs H Q E →
      ∃ t, PSs (cxOf CX0 P w K mg base N x (defScope st) f cdv A outer s H E).nox (defBody st) t ∧ t { nx := fun _ H' => Q .non H', rt := Q } (start N vs) H) : Cal P w K mg base (k + 1) x ps sp := by
  obtain ⟨f, fd, g, F⟩ := D.ex
  exact ⟨f, fd, g, F.ok S len fun cdv A outer s H vs Q E hr h => by
    obtain ⟨t, h1, h2⟩ := hbody f cdv A outer s H vs Q E hr h
    exact ⟨t, PSs.nox h1, h2⟩, F.bindsN hb, F.kp, by
    obtain ⟨oc, od, _, _, _, _, _, _, _, osl, _, lk, _⟩ := F.ex
    exact ⟨oc, od, osl, lk⟩⟩
end
/-! ### heaps -/
theorem same_new {H : Hp} {p : Addr} (h : H p = none) (o : HO) : Same H (upd H p o) := fun b u q => by rw [upd_ne (ne_of_none q h)]; exact q
/-- the object at p may change where it was not tracked before -/
theorem same_mut {H H' : Hp} {p : Addr} {o : HO} (e : Same H H') (h : H p = none) : Same H (upd H' p o) := fun b u q => by rw [upd_ne (ne_of_none q h)]; exact e b u q
def nv (l : List Nat) : List V := l.map fun (n : Nat) => V.int (n : Int)
def iv (l : List Nat) : List Int := l.map fun (n : Nat) => (n : Int)
theorem nv_iv (l : List Nat) : (iv l).map V.int = nv l := by
  unfold nv iv
  rw [List.map_map]
  rfl
theorem nv_len (l : List Nat) : (nv l).length = l.length := List.length_map _
theorem nv_app (l m : List Nat) : nv (l ++ m) = nv l ++ nv m := List.map_append
theorem nv_at {l : List Nat} {i : Nat} {x : Nat} (h : l[i]? = some x) : (nv l)[i]? = some (.int (x : Int)) := by
  unfold nv
  rw [List.getElem?_map, h]
  rfl
theorem nv_atI {l : List Nat} {i : Nat} {x : Nat} (h : l[i]? = some x) : atI (nv l) (i : Int) = some (.int (x : Int)) := atI_nat (nv_at h)
theorem nv_get {l : List Nat} {i : Nat} {v : V} (h : (nv l)[i]? = some v) : ∃ x, l[i]? = some x ∧ v = .int (x : Int) := by
  unfold nv at h
  rw [List.getElem?_map] at h
  cases e : l[i]? with
  | none => rw [e] at h; cases h
  | some x => rw [e] at h; exact ⟨x, rfl, (Option.some.inj h).symm⟩
theorem sz_ok {n : Nat} (h : n ≤ 100000) : n ≤ sizeLine := Nat.le_trans h (by decide)
theorem sz_lt {n : Nat} (h : n < 100000) : n < sizeLine := Nat.lt_of_lt_of_le h (by decide)
end K67
set_option maxHeartbeats 1000000
namespace K67
open PySem PySem.Spec PyProof.Rows L2
/-! ### an own exception with its own __init__, raised where nothing is handled: its context is None -/
section
variable {X : Cx} {e : Expr} {es : List Expr} {ta : TA} {p pos : Pos} {x : Str} {C fI : Addr} {k : Nat} {fd : FuncData} {ps : List Str} {sp : Sp}
theorem pmk_oexN (T : OexC X.K C) (iC : PySem.W.findIn X.K (.ref C) "__init__" = some (some (.ref fI))) (tI : PySem.W.typeIn X.K (.ref fI) = some (.type "function")) (F1 : FnOk X.prog X.w X.K X.mg X.base CX0 k fI fd ps sp)
    (hr : Room (k + 1) X.A) (hb : L2.Binds X.K fd ps []) (hg : Gl X x) (hm : X.mg x = some (.ref C)) (ha : PA X (e :: es) ta) (hdb : (x == ("__debug__" : Str)) = false := by decide)
    (he : starEach (e :: es) X.env = (false, eval e X.env) :: starEach es X.env := by rfl) (hpl : (backTo pos (starEach es X.env)).any (·.1) = false := by rfl) :
    L2N.PMk X (.Call (.Name x p) (e :: es) [] pos) (tMkO C sp [] ta) := by
  intro pins s σ H Q I h
  obtain ⟨nm, q, N, bs, bm, sn, sub, ab, col, dd, k0, k1, k2, k3, k5, hC, hbm⟩ := T.cls
  refine wpAny_Call_Name_kw (ld_glob I hg hm (PySem.W.callWith_K I.ok.mod.kin T.kC (thn (ha.run pos pins s σ H _ I h) fun us s1 hh => ?_) he hpl) hdb)
  obtain ⟨vs, H1, I1, r1, hz, q1⟩ := hh
  refine ⟨I1.kIn, ?_⟩
  show wpAny _ _ (call (.ref C) us) _ _ _
  obtain ⟨hp, g, dr, tk, os⟩ := s1
  have hsz : hp.objs.size ≤ hp.objs.size + 1 := Nat.le_succ _
  have hn := I1.hok.fresh hsz
  have hq := q1 (hp.objs.size + 1) hn
  rw [List.append_nil] at hq
  have kk : ∀ b o, hp.get? b = some o → ((hp.push (PySem.W.kdv_tup us)).push (HandSPX.excO C hp.objs.size)).get? b = some o := fun b o e => Heap.get?_push_of_some _ (Heap.get?_push_of_some _ e)
  have hget : ((hp.push (PySem.W.kdv_tup us)).push (HandSPX.excO C hp.objs.size)).get? (hp.objs.size + 1) = some (HandSPX.excO C hp.objs.size) := Heap.get?_push_at (by rw [Heap.size_push]) rfl
  have I2 := I1.laid (t' := tk) kk hsz (exo_ok hget)
  have r2 : Vals (V.ref (hp.objs.size + 1) :: vs) (Value.ref (hp.objs.size + 1) :: us) := .cons rfl r1
  have hl : (Value.ref (hp.objs.size + 1) :: us).length = ps.length := by
    have e1 := r2.length
    have e2 := F1.len _ _ _ _ hq
    omega
  have hus : us.length ≤ sizeLine := by
    have e1 := r1.length
    have e2 : (1000 : Nat) ≤ sizeLine := by decide
    omega
  refine wpAny_call (HandSPX.call_own F.excBase_ValueError (fun Y => HandSPX.refsVE_contains Y bm hbm) (I1.kIn _ _ hC) (PySem.W.looks_findIn I1.kIn iC) (fun self => PySem.W.bind_fn I1.kIn self tI) hus
    (codeAny_mono (F1.run _ X.stack _ _ _ _ _ _ _ (hr.make C us []) (I2.env0.make C us []) (by have := hb _ (Value.ref (hp.objs.size + 1) :: us) I2.kIn (by rw [List.append_nil]; exact hl); rw [List.append_nil] at this; exact this) r2 hq) fun r s' hq' => ?_))
  cases r with
  | error er => exact hq'.elim
  | ok fl =>
    cases fl with
    | ret u =>
      obtain ⟨v, H2, os2, bare2, un2, hok2, rv, evn, d, fs, hae, hde, hdn, qq⟩ := hq'
      subst evn
      refine ⟨rv, ?_⟩
      obtain ⟨hp2, g2, d2, t2, o2⟩ := s'
      obtain ⟨t0, G, J, keep, gn, gt, hnone⟩ := mk_end0 (t2 := t2) (d2 := d2) I1 hsz kk un2 hok2 os2 bare2 hae hde hdn
      exact ⟨_, _, _, _, _, .ref C, some d, rfl, J, keep, gn, gt, ⟨rfl, rfl, fun vs hv => by cases hv; rfl⟩, rfl, rfl, hnone, rfl, bare2, raises_own T.exC T.tyC, qq⟩
    | _ => exact hq'.elim
end
/-! ### keyword-only calls of a def of the text, the keywords in the order opposite to the places -/
theorem Vals.rev : ∀ {zs : List V} {ws : List Value}, Vals zs ws → Vals zs.reverse ws.reverse := by
  intro zs ws h
  induction h with
  | nil => exact .nil
  | cons r _ ih =>
    rw [List.reverse_cons, List.reverse_cons]
    exact Vals.append ih (.cons r .nil)
section
variable {X : Cx} {k j : Nat} {x : Str} {ps ks : List Str} {sp : Sp} {p pos : Pos} {kws : List Keyword} {tk : TA}
structure CalK (P : Program) (w : World) (K : PySem.W.Frag) (mg : Str → Option Value) (base : Heap) (k : Nat) (x : Str) (ps ks : List Str) (sp : Sp) : Prop where
  ex : ∃ (f : Addr) (fd : FuncData), mg x = some (.ref f) ∧ FnOk P w K mg base CX0 k f fd ps sp ∧ KB0 K fd ps ks List.reverse List.reverse ∧ PySem.W.keepIn K (.ref f) = true
theorem pe_calK (c : CalK X.prog X.w X.K X.mg X.base k x ps ks sp) (hr : Room j X.A) (hk : k ≤ j) (hg : Gl X x) (hkw : PK X kws tk) (hdb : (x == ("__debug__" : Str)) = false := by decide)
    (hall : (backToKw pos (keywordEach kws X.env)).all (·.1.isSome) = true := by rfl) (hks : (backToKw pos (keywordEach kws X.env)).filterMap (·.1) = ks := by rfl)
    (hpl : ((backTo pos (starEach [] X.env)).any (·.1) || (backToKw pos (keywordEach kws X.env)).any (·.1.isNone)) = false := by rfl) :
    PE X (.Call (.Name x p) [] kws pos) (fun σ H Q => tk σ H fun zs H2 => zs.length = ks.length ∧ sp zs.reverse H2 Q E0) := by
  refine ⟨fun pins s σ H Q I h => ?_⟩
  obtain ⟨f, fd, g', F, b, kp⟩ := c.ex
  exact (pe_callK0 F (hr.mono hk) hg g' kp b pass0 hkw hall hks hdb hpl).run pins s σ H Q I h
end
section
variable {P : Program} {w : World} {K : PySem.W.Frag} {mg : Str → Option Value} {base : Heap}
theorem Dfn.calK {x : Str} {st : Stmt} {ps ks : List Str} {k : Nat} {sp : Sp} (D : Dfn K mg x st) (c : Cal P w K mg base k x ps sp)
    (hb : ∀ (kV doc pm : Value) (an : Option Addr) (cdv ct : Value) (ws : List Value), ws.length = ks.length → bindArgs (PySem.W.fnOf x x (defArgs st) (defBody st) (defScope st) .none kV doc pm an cdv ct) ⟨[], ks.zip ws⟩ = pure (ps.zip ws.reverse)) : CalK P w K mg base k x ps ks sp := by
  obtain ⟨f, fd, gm, F, b, kp, oc, od, osl, lk⟩ := c.ex
  obtain ⟨f', fd', gm', F'⟩ := D.ex
  have e : Value.ref f = Value.ref f' := Option.some.inj (gm.symm.trans gm')
  cases e
  obtain ⟨oc', od', dV, kV, doc, pm, an, cdv, ct, osl', efd, lk', _, hd, _⟩ := F'.ex
  have efd2 : fd = fd' := by
    rw [lk] at lk'
    cases lk'
    rfl
  subst efd2
  have edV : dV = .none := by
    rcases hd with h | h
    · exact h.2
    · exact absurd rfl h.1
  subst edV
  refine ⟨f, fd, gm, F, ⟨fun s ws hK hl => .of_eq ?_, Vals.rev⟩, kp⟩
  rw [efd]
  exact hb _ _ _ _ _ _ ws hl
end
/-! ### a def called in a suite -/
structure CalH (P : Program) (w : World) (K : PySem.W.Frag) (mg : Str → Option Value) (base : Heap) (k : Nat) (x : Str) (ps : List Str) (sp : Sp) : Prop where
  ex : ∃ (f : Addr) (fd : FuncData), mg x = some (.ref f) ∧ L2H.FnH P w K mg base CX0 k f fd ps sp ∧ L2.Binds K fd ps [] ∧ PySem.W.keepIn K (.ref f) = true
section
variable {X : Cx} {k j : Nat} {x : Str} {ps : List Str} {sp : Sp} {p pos : Pos} {e : Expr} {es : List Expr} {t : TA}
theorem pe_calH (c : CalH X.prog X.w X.K X.mg X.base k x ps sp) (hr : L2H.RoomH j X.A) (hc : L2H.HotC X) (hk : k ≤ j) (hg : Gl X x) (ha : PA X (e :: es) t) (hdb : (x == ("__debug__" : Str)) = false := by decide)
    (he : starEach (e :: es) X.env = (false, eval e X.env) :: starEach es X.env := by rfl) (hpl : (backTo pos (starEach es X.env)).any (·.1) = false := by rfl) :
    PE X (.Call (.Name x p) (e :: es) [] pos) (tCall sp [] E0 t) := by
  refine ⟨fun pins s σ H Q I h => ?_⟩
  obtain ⟨f, fd, g, F, b, kp⟩ := c.ex
  have h' : t σ H fun vs H1 => sp (vs ++ []) H1 Q E0 := h
  have h2 : (tCallS sp (fun _ => E0) t) σ H Q := by
    have e1 : (fun (vs : List V) (H1 : Hp) => sp (vs ++ []) H1 Q E0) = fun vs H1 => sp vs H1 Q E0 := by
      funext vs H1
      rw [List.append_nil]
    rw [e1] at h'
    exact h'
  exact (L2H.pe_callH F (hr.mono hk) hc hg g kp b (fun σ pins H s e s' _ z => z.elim) ha hdb he hpl).run pins s σ H Q I h2
end
section
variable {P : Program} {w : World} {K : PySem.W.Frag} {mg : Str → Option Value} {base : Heap}
theorem Dfn.calH {x : Str} {st : Stmt} {N ps : List Str} {k : Nat} {sp : Sp} (D : Dfn K mg x st) (S : FnScope N ps (defScope st)) (len : ∀ vs H Q E, sp vs H Q E → vs.length = ps.length)
    (hb : ∀ (kV doc pm : Value) (an : Option Addr) (cdv ct : Value) (us : List Value), us.length = ps.length → bindArgs (PySem.W.fnOf x x (defArgs st) (defBody st) (defScope st) .none kV doc pm an cdv ct) ⟨us, []⟩ = pure (ps.zip us))
    (hbody : ∀ (f : Addr) (cdv : Value) (A : Around) (outer : List Env) (s : Shared) (H : Hp) (vs : List V) (Q : VK) (E : XK) (p : Addr × Obj), L2H.Hot1 A p → L2H.RoomH k (A.deeper (envOfC x (defScope st) s.heap.objs.size f cdv)) → sp vs H Q E →
      ∃ t, PSs (L2H.cxH CX0 P w K mg base N x (defScope st) f cdv A outer s H E p).nox (defBody st) t ∧ t { nx := fun _ H' => Q .non H', rt := Q } (start N vs) H) : CalH P w K mg base (k + 1) x ps sp := by
  obtain ⟨f, fd, g, F⟩ := D.ex
  obtain ⟨oc, od, dV, kV, doc, pm, an, cdv, ct, osl, e, lk, hc, hd, _⟩ := F.ex
  refine ⟨f, fd, g, ?_, F.bindsN hb, F.kp⟩
  subst e
  exact L2H.fn_ofH lk hc S len fun A outer s H vs Q E p hp hr h => by
    obtain ⟨t, h1, h2⟩ := hbody f cdv A outer s H vs Q E p hp hr h
    exact ⟨t, PSs.nox h1, h2⟩
end
end K67
set_option maxHeartbeats 1000000
namespace K67
open PySem PySem.Spec PyProof.Rows L2
/-! ### the text: defs by places -/
def topS (i : Nat) : Stmt := PySem.Challenge.pw_sincemarks_k67_whole_capacity_and_lines.main.body.getD i (.Pass ⟨0, 0, 0, 0⟩)
abbrev s_is_integer : Stmt := topS 7
abbrev s_is_number : Stmt := topS 8
abbrev s_is_natural : Stmt := topS 9
abbrev s_choose : Stmt := topS 11
abbrev s_capacity : Stmt := topS 12
abbrev s_up_to : Stmt := topS 15
abbrev s_is_pair : Stmt := topS 16
abbrev s_bound_fault : Stmt := topS 17
abbrev s_need_bounds : Stmt := topS 18
abbrev s_all_versions : Stmt := topS 19
abbrev s_falling : Stmt := topS 20
abbrev s_row_after : Stmt := topS 21
abbrev s_step_of : Stmt := topS 22
abbrev s_near_elder : Stmt := topS 23
abbrev s_walked : Stmt := topS 24
abbrev s_goes_above : Stmt := topS 25
abbrev s_is_row : Stmt := topS 27
abbrev s_merged : Stmt := topS 28
abbrev s_stepped : Stmt := topS 29
abbrev s__check_row : Stmt := topS 31
abbrev s__greatest_member : Stmt := topS 32
abbrev s_number_of : Stmt := topS 33
abbrev s_row_of : Stmt := topS 34
abbrev s__rows_within : Stmt := topS 36
abbrev s_weights_of : Stmt := topS 37
abbrev s_forest_weight : Stmt := topS 38
abbrev s_fits_level : Stmt := topS 39
abbrev s_least_reach : Stmt := topS 41
abbrev s_least_width : Stmt := topS 42
abbrev s_level_bounds : Stmt := topS 44
abbrev s_need_number : Stmt := topS 46
abbrev s_need_natural : Stmt := topS 47
abbrev s__counted : Stmt := topS 49
abbrev s_plans_within : Stmt := topS 50
abbrev s_least_greatest : Stmt := topS 52
abbrev s_joined_all : Stmt := topS 54
abbrev s_joined_many : Stmt := topS 55
abbrev s_is_shape : Stmt := topS 57
abbrev s__is_part : Stmt := topS 58
abbrev s__check_shape : Stmt := topS 59
abbrev s__size : Stmt := topS 60
abbrev s_shape_size : Stmt := topS 61
abbrev s__weight : Stmt := topS 62
abbrev s_shape_weight : Stmt := topS 63
abbrev s__depth : Stmt := topS 64
abbrev s_shape_depth : Stmt := topS 65
abbrev s_shape_fits : Stmt := topS 66
abbrev s_shape_reach : Stmt := topS 67
abbrev s_is_heights : Stmt := topS 69
abbrev s_bases_by : Stmt := topS 70
abbrev s_wall_in : Stmt := topS 72
abbrev s_rows_of : Stmt := topS 74
abbrev s_walk_heights : Stmt := topS 75
abbrev s_top_of : Stmt := topS 76
abbrev s_can_keep : Stmt := topS 77
abbrev s_plan_for : Stmt := topS 78
abbrev s__law_hand : Stmt := topS 80
abbrev s__law_take : Stmt := topS 81
abbrev s__law_tree : Stmt := topS 82
abbrev s__law_same : Stmt := topS 83
abbrev s__law_choose : Stmt := topS 84
abbrev s__law_is_plan : Stmt := topS 85
abbrev s__law_within : Stmt := topS 86
abbrev s__law_line : Stmt := topS 87
abbrev s__law_short : Stmt := topS 88
abbrev s__law_any : Stmt := topS 89
abbrev s__law_far : Stmt := topS 90
abbrev s_law : Stmt := topS 91
abbrev sUnkI : Stmt := inClass (topS 5) 0
/-- the built-in names and the module's own values -/
structure Bn (mg : Str → Option Value) : Prop where
  len_ : mg "len" = none
  isinstance_ : mg "isinstance" = none
  int_ : mg "int" = none
  bool_ : mg "bool" = none
  tuple_ : mg "tuple" = none
  str_ : mg "str" = none
  sorted_ : mg "sorted" = none
  min_ : mg "min" = none
  max_ : mg "max" = none
  abs_ : mg "abs" = none
  any_ : mg "any" = none
  all_ : mg "all" = none
  range_ : mg "range" = none
  zip_ : mg "zip" = none
  enumerate_ : mg "enumerate" = none
  list_ : mg "list" = none
  comb_ : mg "comb" = some (.builtin "math.comb")
  gb : ∃ t, mg "GREATEST_BOUND" = some (.int 999 t)
theorem bo_len : bootBuiltins "len" = some (.builtin "len") := by decide +kernel
theorem bo_isinstance : bootBuiltins "isinstance" = some (.builtin "isinstance") := by decide +kernel
theorem bo_int : bootBuiltins "int" = some (.type "int") := by decide +kernel
theorem bo_bool : bootBuiltins "bool" = some (.type "bool") := by decide +kernel
theorem bo_tuple : bootBuiltins "tuple" = some (.type "tuple") := by decide +kernel
theorem bo_str : bootBuiltins "str" = some (.type "str") := by decide +kernel
theorem bo_sorted : bootBuiltins "sorted" = some (.builtin "sorted") := by decide +kernel
theorem bo_min : bootBuiltins "min" = some (.builtin "min") := by decide +kernel
theorem bo_max : bootBuiltins "max" = some (.builtin "max") := by decide +kernel
theorem bo_abs : bootBuiltins "abs" = some (.builtin "abs") := by decide +kernel
theorem bo_any : bootBuiltins "any" = some (.builtin "any") := by decide +kernel
theorem bo_all : bootBuiltins "all" = some (.builtin "all") := by decide +kernel
theorem bo_list : bootBuiltins "list" = some (.type "list") := by decide +kernel
theorem ki_ii {K : PySem.W.Frag} : PySem.W.kitOne K (.type "int") (.type "int") = some true := kit_ty (by decide +kernel)
theorem ki_ib {K : PySem.W.Frag} : PySem.W.kitOne K (.type "int") (.type "bool") = some false := kit_ty (by decide +kernel)
theorem ki_it {K : PySem.W.Frag} : PySem.W.kitOne K (.type "int") (.type "tuple") = some false := kit_ty (by decide +kernel)
theorem ki_is {K : PySem.W.Frag} : PySem.W.kitOne K (.type "int") (.type "str") = some false := kit_ty (by decide +kernel)
theorem ki_bi {K : PySem.W.Frag} : PySem.W.kitOne K (.type "bool") (.type "int") = some true := kit_ty (by decide +kernel)
theorem ki_bb {K : PySem.W.Frag} : PySem.W.kitOne K (.type "bool") (.type "bool") = some true := kit_ty (by decide +kernel)
theorem ki_bt {K : PySem.W.Frag} : PySem.W.kitOne K (.type "bool") (.type "tuple") = some false := kit_ty (by decide +kernel)
theorem ki_tt {K : PySem.W.Frag} : PySem.W.kitOne K (.type "tuple") (.type "tuple") = some true := kit_ty (by decide +kernel)
theorem ki_tb {K : PySem.W.Frag} : PySem.W.kitOne K (.type "tuple") (.type "bool") = some false := kit_ty (by decide +kernel)
theorem cn {n : String} : ClsV (.ty n) (.type n) := .ty n
theorem tx_i {K : PySem.W.Frag} {H : Hp} {i : Int} : TyX K H (.int i) (.type "int") := .base (.int _)
theorem tx_b {K : PySem.W.Frag} {H : Hp} {b : Bool} : TyX K H (.bl b) (.type "bool") := .base (.bl _)
theorem tx_t {K : PySem.W.Frag} {H : Hp} {a : Addr} {xs : List V} (h : H a = some (.tup xs)) : TyX K H (.ref a) (.type "tuple") := .base (.tup h)
theorem qT {Q : VK} {H : Hp} {b : Bool} (hb : b = true) (q : Q (.bl true) H) : Q (.bl b) H := by
  rw [hb]
  exact q
theorem qF {Q : VK} {H : Hp} {b : Bool} (hb : b = false) (q : Q (.bl false) H) : Q (.bl b) H := by
  rw [hb]
  exact q
theorem qE {Q : VK} {H : Hp} {v u : V} (e : v = u) (q : Q u H) : Q v H := by
  rw [e]
  exact q
theorem iteFb {A B : Prop} {b : Bool} (hb : b = false) (h : B) : if b = true then A else B := by
  rw [hb]
  exact iteF h
theorem iteTb {A B : Prop} {b : Bool} (hb : b = true) (h : A) : if b = true then A else B := by
  rw [hb]
  exact iteT h
theorem dF {p : Prop} [Decidable p] (h : ¬ p) : decide p = false := decide_eq_false h
theorem dT {p : Prop} [Decidable p] (h : p) : decide p = true := decide_eq_true h
/-! ### promises of a common form -/
/-- ints in, a value out, the heap as it was -/
def spI1 (p : Int → Prop) (r : Int → V) : Sp := fun vs H Q _ => ∃ n : Int, vs = [.int n] ∧ p n ∧ Q (r n) H
def spI2 (p : Int → Int → Prop) (r : Int → Int → V) : Sp := fun vs H Q _ => ∃ n m : Int, vs = [.int n, .int m] ∧ p n m ∧ Q (r n m) H
/-- a new tuple of xs comes back, all else as it was -/
def NT (Q : VK) (H : Hp) (xs : List V) : Prop := ∀ p H', Same H H' → H' p = some (.tup xs) → Q (.ref p) H'
theorem NT.new {Q : VK} {H H1 : Hp} {xs : List V} (q : NT Q H xs) (s : Same H H1) {p : Addr} (hp : H1 p = none) : Q (.ref p) (upd H1 p (.tup xs)) := q p _ (s.trans (same_new hp _)) upd_same
/-! ### comprehensions -/
section
variable {K : PySem.W.Frag} {a : Addr} {xs : List V} {j : Nat} {t : TT} {te : TE} {vs : List Nat} {σ : L2.St} {H : Hp} {D : Addr} {Qd : Hp → Prop}
theorem take_more {α : Type} : ∀ {l : List α} {i : Nat} {x : α}, l[i]? = some x → l.take (i + 1) = l.take i ++ [x]
  | [], i, x, h => by simp at h
  | b :: l, 0, x, h => by
    have e : b = x := Option.some.inj h
    subst e
    rfl
  | b :: l, i + 1, x, h => by
    rw [List.take_succ_cons, List.take_succ_cons, take_more (l := l) (i := i) (x := x) h]
    rfl
/-- over a tuple, each item giving the one of ys -/
theorem lcT (ys : List V) (hx : H a = some (.tup xs)) (hn : H D = none) (hl : ys.length = xs.length) (hz : xs.length ≤ 60000) {g : TG}
    (he : ∀ (i : Nat) (x y : V) (H' : Hp), xs[i]? = some x → ys[i]? = some y → Same H H' → ∀ R : VK, (∀ H'', Same H' H'' → R y H'') → g x (wipe σ vs) H' fun σ2 H2 => wipe σ2 vs = wipe σ vs ∧ te σ2 H2 R) (hd : ∀ H', Same H H' → H' D = some (.lst ys) → Qd H') :
    ∃ W : Nat → Nat → Hp → Prop, (∃ m, W 0 m (upd H D (.lst []))) ∧ ∀ i m H, W i m H → ((Itt K a).stop i H ∧ Qd H) ∨ ((Itt K a).go i H ∧ ∃ Nx : Hp → Prop, (∀ H', Nx H' → ∃ m', m' < m ∧ W (i + 1) m' H') ∧
      ∀ x H', (Itt K a).yld i H x H' → g x (wipe σ vs) H' fun σ2 H2 => wipe σ2 vs = wipe σ vs ∧ tYes σ2 H2 fun b H3 => if b = true then te σ2 H3 fun y H4 => ∃ acc, H4 D = some (.lst acc) ∧ acc.length < sizeLine ∧ Nx (upd H4 D (.lst (acc ++ [y]))) else Nx H3) := by
  refine lc_tup (fun i H' => Same H H' ∧ H' D = some (.lst (ys.take i))) ⟨same_new hn _, upd_same⟩ (fun i H' _ p => .inl (.inl (p.1 _ _ hx))) (fun i x H' hi p => ?_) (fun H' p => hd H' p.1 (by have h2 := p.2; rw [← hl, List.take_length] at h2; exact h2))
  have hi' : i < ys.length := by rw [hl]; exact (List.getElem?_eq_some_iff.mp hi).1
  have hy := List.getElem?_eq_getElem hi'
  have key := he i x ys[i] H' hi hy p.1 (fun y H4 => ∃ acc, H4 D = some (.lst acc) ∧ acc.length < sizeLine ∧ (Same H (upd H4 D (.lst (acc ++ [y]))) ∧ upd H4 D (.lst (acc ++ [y])) D = some (.lst (ys.take (i + 1))))) fun H'' s => by
    refine ⟨ys.take i, s _ _ p.2, sz_lt (by rw [List.length_take]; omega), same_mut (p.1.trans s) hn, ?_⟩
    rw [take_more hy]
    exact upd_same
  exact key
/-- over a range, each place giving the one of ys -/
theorem lcR {lo : Int} (ys : List V) (hn : H D = none) (hz : ys.length ≤ 60000) {g : TG}
    (he : ∀ (i : Nat) (y : V) (H' : Hp), ys[i]? = some y → Same H H' → ∀ R : VK, (∀ H'', Same H' H'' → R y H'') → g (.int (lo + (i : Nat))) (wipe σ vs) H' fun σ2 H2 => wipe σ2 vs = wipe σ vs ∧ te σ2 H2 R) (hd : ∀ H', Same H H' → H' D = some (.lst ys) → Qd H') :
    ∃ W : Nat → Nat → Hp → Prop, (∃ m, W 0 m (upd H D (.lst []))) ∧ ∀ i m H, W i m H → ((Itr lo ys.length).stop i H ∧ Qd H) ∨ ((Itr lo ys.length).go i H ∧ ∃ Nx : Hp → Prop, (∀ H', Nx H' → ∃ m', m' < m ∧ W (i + 1) m' H') ∧
      ∀ x H', (Itr lo ys.length).yld i H x H' → g x (wipe σ vs) H' fun σ2 H2 => wipe σ2 vs = wipe σ vs ∧ tYes σ2 H2 fun b H3 => if b = true then te σ2 H3 fun y H4 => ∃ acc, H4 D = some (.lst acc) ∧ acc.length < sizeLine ∧ Nx (upd H4 D (.lst (acc ++ [y]))) else Nx H3) := by
  refine lc_range (fun i H' => Same H H' ∧ H' D = some (.lst (ys.take i))) ⟨same_new hn _, upd_same⟩ (fun i H' hi p => ?_) (fun H' p => hd H' p.1 (by have h2 := p.2; rw [List.take_length] at h2; exact h2))
  have hy := List.getElem?_eq_getElem hi
  have key := he i ys[i] H' hy p.1 (fun y H4 => ∃ acc, H4 D = some (.lst acc) ∧ acc.length < sizeLine ∧ (Same H (upd H4 D (.lst (acc ++ [y]))) ∧ upd H4 D (.lst (acc ++ [y])) D = some (.lst (ys.take (i + 1))))) fun H'' s => by
    refine ⟨ys.take i, s _ _ p.2, sz_lt (by rw [List.length_take]; omega), same_mut (p.1.trans s) hn, ?_⟩
    rw [take_more hy]
    exact upd_same
  exact key
theorem filter_snoc {p : Nat → Bool} {l : List Nat} {i x : Nat} (h : l[i]? = some x) : (l.take (i + 1)).filter p = (l.take i).filter p ++ (if p x = true then [x] else []) := by
  rw [take_more h, List.filter_append, List.filter_cons]
  rfl
end
end K67
set_option maxHeartbeats 1000000
namespace K67
open PySem PySem.Spec PyProof.Rows L2
/-! ### kinds -/
theorem sc_is_integer : FnScope ["thing"] ["thing"] (defScope s_is_integer) := ⟨rfl, rfl, rfl, by decide +kernel, rfl, by decide +kernel, by decide +kernel⟩
theorem ok_is_integer {P : Program} {w : World} {K : PySem.W.Frag} {mg : Str → Option Value} {base : Heap} (D : Dfn K mg "is_integer" s_is_integer) (B : Bn mg)    : Cal P w K mg base 1 "is_integer" ["thing"] (spI1 (fun _ => True) fun _ => .bl true) := by
  refine D.cal sc_is_integer (fun vs H Q E h => ?_) (fun _ _ _ _ _ _ us hl => match us, hl with | [_], _ => rfl) (fun f cdv A outer s H vs Q E hr h => ?_)
  · obtain ⟨_, rfl, _⟩ := h
    rfl
  obtain ⟨n, rfl, _, q⟩ := h
  refine ⟨_, (pss_one (ps_ret (pe_and (pe_callB call_isi rfl B.isinstance_ bo_isinstance (pa_cons (pv 0) (pa_cons (pe_bltn (v := .ty "int") rfl B.int_ bo_int rfl) pa_nil))) (pe_one (pe_not (pe_callB call_isi rfl B.isinstance_ bo_isinstance (pa_cons (pv 0) (pa_cons (pe_bltn (v := .ty "bool") rfl B.bool_ bo_bool rfl) pa_nil)))))))), ?_⟩
  refine ⟨_, rfl, _, _, _, _, _, rfl, cn, tx_i, ki_ii, true, rfl, iteT ?_⟩
  exact ⟨_, rfl, _, _, _, _, _, rfl, cn, tx_i, ki_ib, false, rfl, q⟩
theorem sc_is_number : FnScope ["thing"] ["thing"] (defScope s_is_number) := ⟨rfl, rfl, rfl, by decide +kernel, rfl, by decide +kernel, by decide +kernel⟩
theorem ok_is_number {P : Program} {w : World} {K : PySem.W.Frag} {mg : Str → Option Value} {base : Heap} (D : Dfn K mg "is_number" s_is_number) (B : Bn mg) (c_is_integer : Cal P w K mg base 1 "is_integer" ["thing"] (spI1 (fun _ => True) fun _ => .bl true))   : Cal P w K mg base 2 "is_number" ["thing"] (spI1 (fun n => 0 ≤ n) fun _ => .bl true) := by
  refine D.cal sc_is_number (fun vs H Q E h => ?_) (fun _ _ _ _ _ _ us hl => match us, hl with | [_], _ => rfl) (fun f cdv A outer s H vs Q E hr h => ?_)
  · obtain ⟨_, rfl, _⟩ := h
    rfl
  obtain ⟨n, rfl, h0, q⟩ := h
  refine ⟨_, (pss_one (ps_ret (pe_and (pe_cal c_is_integer hr (by first | decide | omega) rfl (pa_cons (pv 0) pa_nil)) (pe_one (pe_cmpR op_ge (pv 0) pe_int (nomark _)))))), ?_⟩
  refine ⟨_, rfl, n, rfl, trivial, true, rfl, iteT ?_⟩
  refine ⟨_, rfl, _, _, rfl, rfl, ?_⟩
  exact qT (dT h0) q
theorem sc_is_natural : FnScope ["thing"] ["thing"] (defScope s_is_natural) := ⟨rfl, rfl, rfl, by decide +kernel, rfl, by decide +kernel, by decide +kernel⟩
theorem ok_is_natural {P : Program} {w : World} {K : PySem.W.Frag} {mg : Str → Option Value} {base : Heap} (D : Dfn K mg "is_natural" s_is_natural) (B : Bn mg) (c_is_integer : Cal P w K mg base 1 "is_integer" ["thing"] (spI1 (fun _ => True) fun _ => .bl true))   : Cal P w K mg base 2 "is_natural" ["thing"] (spI1 (fun n => 1 ≤ n) fun _ => .bl true) := by
  refine D.cal sc_is_natural (fun vs H Q E h => ?_) (fun _ _ _ _ _ _ us hl => match us, hl with | [_], _ => rfl) (fun f cdv A outer s H vs Q E hr h => ?_)
  · obtain ⟨_, rfl, _⟩ := h
    rfl
  obtain ⟨n, rfl, h0, q⟩ := h
  refine ⟨_, (pss_one (ps_ret (pe_and (pe_cal c_is_integer hr (by first | decide | omega) rfl (pa_cons (pv 0) pa_nil)) (pe_one (pe_cmpR op_ge (pv 0) pe_int (nomark _)))))), ?_⟩
  refine ⟨_, rfl, n, rfl, trivial, true, rfl, iteT ?_⟩
  refine ⟨_, rfl, _, _, rfl, rfl, ?_⟩
  exact qT (dT h0) q
theorem sc_up_to : FnScope ["thing", "greatest"] ["thing", "greatest"] (defScope s_up_to) := ⟨rfl, rfl, rfl, by decide +kernel, rfl, by decide +kernel, by decide +kernel⟩
theorem ok_up_to {P : Program} {w : World} {K : PySem.W.Frag} {mg : Str → Option Value} {base : Heap} (D : Dfn K mg "up_to" s_up_to) (B : Bn mg) (c_is_natural : Cal P w K mg base 2 "is_natural" ["thing"] (spI1 (fun n => 1 ≤ n) fun _ => .bl true))   : Cal P w K mg base 3 "up_to" ["thing", "greatest"] (spI2 (fun n m => 1 ≤ n ∧ n ≤ m) fun _ _ => .bl true) := by
  refine D.cal sc_up_to (fun vs H Q E h => ?_) (fun _ _ _ _ _ _ us hl => match us, hl with | [_, _], _ => rfl) (fun f cdv A outer s H vs Q E hr h => ?_)
  · obtain ⟨_, _, rfl, _⟩ := h
    rfl
  obtain ⟨n, m, rfl, ⟨h0, h1⟩, q⟩ := h
  refine ⟨_, (pss_one (ps_ret (pe_and (pe_cal c_is_natural hr (by first | decide | omega) rfl (pa_cons (pv 0) pa_nil)) (pe_one (pe_cmpR op_le (pv 0) (pv 1) (nomark _)))))), ?_⟩
  refine ⟨_, rfl, n, rfl, h0, true, rfl, iteT ?_⟩
  refine ⟨_, rfl, _, rfl, _, _, rfl, rfl, ?_⟩
  exact qT (dT h1) q
/-! ### binomials -/
def spC (f : Nat → Nat → Nat) (p : Nat → Nat → Prop) : Sp := fun vs H Q _ => ∃ n m : Nat, vs = [.int (n : Int), .int (m : Int)] ∧ p n m ∧ Q (.int ((f n m : Nat) : Int)) H
theorem sc_choose : FnScope ["top", "few"] ["top", "few"] (defScope s_choose) := ⟨rfl, rfl, rfl, by decide +kernel, rfl, by decide +kernel, by decide +kernel⟩
theorem ok_choose {P : Program} {w : World} {K : PySem.W.Frag} {mg : Str → Option Value} {base : Heap} (D : Dfn K mg "choose" s_choose) (B : Bn mg) (c_is_number : Cal P w K mg base 2 "is_number" ["thing"] (spI1 (fun n => 0 ≤ n) fun _ => .bl true))   : Cal P w K mg base 3 "choose" ["top", "few"] (spC Cb fun n _ => n ≤ 18000) := by
  refine D.cal sc_choose (fun vs H Q E h => ?_) (fun _ _ _ _ _ _ us hl => match us, hl with | [_, _], _ => rfl) (fun f cdv A outer s H vs Q E hr h => ?_)
  · obtain ⟨_, _, rfl, _⟩ := h
    rfl
  obtain ⟨n, m, rfl, h0, q⟩ := h
  refine ⟨_, (pss_cons (ps_if (pt_not (pt_val (pe_cal c_is_number hr (by first | decide | omega) rfl (pa_cons (pv 0) pa_nil))))
     (pss_one ps_never)
     pss_nil)
     (pss_cons (ps_if (pt_not (pt_val (pe_cal c_is_number hr (by first | decide | omega) rfl (pa_cons (pv 1) pa_nil))))
     (pss_one ps_never)
     pss_nil)
     (pss_cons (ps_if (pt_cmpR op_gt (pv 1) (pv 0) (nomark _))
     (pss_one (ps_ret pe_int))
     pss_nil)
     (pss_one (ps_ret (pe_callBfun cr_comb rfl B.comb_ (pa_cons (pv 0) (pa_cons (pv 1) pa_nil)))))))), ?_⟩
  refine ⟨_, rfl, n, rfl, by omega, true, rfl, iteF ?_⟩
  refine ⟨_, rfl, m, rfl, by omega, true, rfl, iteF ?_⟩
  refine ⟨_, rfl, _, rfl, _, _, rfl, rfl, _, rfl, ?_⟩
  refine ite2 (fun c => ?_) (fun c => ?_)
  · have c' := of_decide_eq_true c
    rw [Cb_gt n m (by omega)] at q
    exact q
  · exact ⟨_, rfl, _, rfl, n, m, rfl, h0, q⟩
theorem sc_capacity : FnScope ["width", "reach"] ["width", "reach"] (defScope s_capacity) := ⟨rfl, rfl, rfl, by decide +kernel, rfl, by decide +kernel, by decide +kernel⟩
theorem ok_capacity {P : Program} {w : World} {K : PySem.W.Frag} {mg : Str → Option Value} {base : Heap} (D : Dfn K mg "capacity" s_capacity) (B : Bn mg) (c_is_natural : Cal P w K mg base 2 "is_natural" ["thing"] (spI1 (fun n => 1 ≤ n) fun _ => .bl true))   : Cal P w K mg base 3 "capacity" ["width", "reach"] (spC (fun w r => Cb (w + r) r) fun w r => 1 ≤ w ∧ 1 ≤ r ∧ w + r ≤ 18000) := by
  refine D.cal sc_capacity (fun vs H Q E h => ?_) (fun _ _ _ _ _ _ us hl => match us, hl with | [_, _], _ => rfl) (fun f cdv A outer s H vs Q E hr h => ?_)
  · obtain ⟨_, _, rfl, _⟩ := h
    rfl
  obtain ⟨n, m, rfl, ⟨h0, h1, h2⟩, q⟩ := h
  refine ⟨_, (pss_cons (ps_if (pt_not (pt_val (pe_cal c_is_natural hr (by first | decide | omega) rfl (pa_cons (pv 0) pa_nil))))
     (pss_one ps_never)
     pss_nil)
     (pss_cons (ps_if (pt_not (pt_val (pe_cal c_is_natural hr (by first | decide | omega) rfl (pa_cons (pv 1) pa_nil))))
     (pss_one ps_never)
     pss_nil)
     (pss_one (ps_ret (pe_callBfun cr_comb rfl B.comb_ (pa_cons (pe_op op_add (pv 0) (pv 1)) (pa_cons (pv 1) pa_nil))))))), ?_⟩
  refine ⟨_, rfl, n, rfl, by omega, true, rfl, iteF ?_⟩
  refine ⟨_, rfl, m, rfl, by omega, true, rfl, iteF ?_⟩
  exact ⟨_, rfl, _, rfl, _, _, rfl, rfl, _, rfl, n + m, m, rfl, h2, q⟩
def spNeed (p : Int → Prop) : Sp := fun vs H Q _ => ∃ (x : Str) (n : Int), vs = [.str x, .int n] ∧ p n ∧ Q .non H
theorem sc_need_number : FnScope ["word", "thing"] ["word", "thing"] (defScope s_need_number) := ⟨rfl, rfl, rfl, by decide +kernel, rfl, by decide +kernel, by decide +kernel⟩
theorem ok_need_number {P : Program} {w : World} {K : PySem.W.Frag} {mg : Str → Option Value} {base : Heap} (D : Dfn K mg "need_number" s_need_number) (B : Bn mg) (c_is_number : Cal P w K mg base 2 "is_number" ["thing"] (spI1 (fun n => 0 ≤ n) fun _ => .bl true))   : Cal P w K mg base 3 "need_number" ["word", "thing"] (spNeed fun n => 0 ≤ n) := by
  refine D.cal sc_need_number (fun vs H Q E h => ?_) (fun _ _ _ _ _ _ us hl => match us, hl with | [_, _], _ => rfl) (fun f cdv A outer s H vs Q E hr h => ?_)
  · obtain ⟨_, _, rfl, _⟩ := h
    rfl
  obtain ⟨x, n, rfl, h0, q⟩ := h
  refine ⟨_, (pss_one (ps_if (pt_not (pt_val (pe_cal c_is_number hr (by first | decide | omega) rfl (pa_cons (pv 1) pa_nil))))
     (pss_one ps_never)
     pss_nil)), ?_⟩
  exact ⟨_, rfl, n, rfl, h0, true, rfl, iteF q⟩
theorem sc_need_natural : FnScope ["word", "thing"] ["word", "thing"] (defScope s_need_natural) := ⟨rfl, rfl, rfl, by decide +kernel, rfl, by decide +kernel, by decide +kernel⟩
theorem ok_need_natural {P : Program} {w : World} {K : PySem.W.Frag} {mg : Str → Option Value} {base : Heap} (D : Dfn K mg "need_natural" s_need_natural) (B : Bn mg) (c_is_natural : Cal P w K mg base 2 "is_natural" ["thing"] (spI1 (fun n => 1 ≤ n) fun _ => .bl true))   : Cal P w K mg base 3 "need_natural" ["word", "thing"] (spNeed fun n => 1 ≤ n) := by
  refine D.cal sc_need_natural (fun vs H Q E h => ?_) (fun _ _ _ _ _ _ us hl => match us, hl with | [_, _], _ => rfl) (fun f cdv A outer s H vs Q E hr h => ?_)
  · obtain ⟨_, _, rfl, _⟩ := h
    rfl
  obtain ⟨x, n, rfl, h0, q⟩ := h
  refine ⟨_, (pss_one (ps_if (pt_not (pt_val (pe_cal c_is_natural hr (by first | decide | omega) rfl (pa_cons (pv 1) pa_nil))))
     (pss_one ps_never)
     pss_nil)), ?_⟩
  exact ⟨_, rfl, n, rfl, h0, true, rfl, iteF q⟩
def spPair : Sp := fun vs H Q _ => ∃ (a : Addr) (x y : V), vs = [.ref a] ∧ H a = some (.tup [x, y]) ∧ Q (.bl true) H
theorem sc_is_pair : FnScope ["thing"] ["thing"] (defScope s_is_pair) := ⟨rfl, rfl, rfl, by decide +kernel, rfl, by decide +kernel, by decide +kernel⟩
theorem ok_is_pair {P : Program} {w : World} {K : PySem.W.Frag} {mg : Str → Option Value} {base : Heap} (D : Dfn K mg "is_pair" s_is_pair) (B : Bn mg)    : Cal P w K mg base 1 "is_pair" ["thing"] spPair := by
  refine D.cal sc_is_pair (fun vs H Q E h => ?_) (fun _ _ _ _ _ _ us hl => match us, hl with | [_], _ => rfl) (fun f cdv A outer s H vs Q E hr h => ?_)
  · obtain ⟨_, _, _, rfl, _⟩ := h
    rfl
  obtain ⟨a, x, y, rfl, ha, q⟩ := h
  refine ⟨_, (pss_one (ps_ret (pe_and (pe_callB call_isi rfl B.isinstance_ bo_isinstance (pa_cons (pv 0) (pa_cons (pe_bltn (v := .ty "tuple") rfl B.tuple_ bo_tuple rfl) pa_nil))) (pe_one (pe_cmpR op_eq (pe_callB call_len_seq rfl B.len_ bo_len (pa_cons (pv 0) pa_nil)) pe_int (nomark _)))))), ?_⟩
  refine ⟨_, rfl, _, _, _, _, _, rfl, cn, tx_t ha, ki_tt, true, rfl, iteT ?_⟩
  exact ⟨_, rfl, a, _, rfl, .inr (SqT.of ha), rfl, q⟩
end K67
set_option maxHeartbeats 1000000
namespace K67
open PySem PySem.Spec PyProof.Rows L2
/-! ### rows -/
theorem iv_nat {l : List Nat} {z : Int} (h : z ∈ iv l) : ((z.toNat : Nat) : Int) = z ∧ z.toNat ∈ l := by
  unfold iv at h
  obtain ⟨n, hn, e⟩ := List.mem_map.mp h
  subst e
  exact ⟨by omega, by simpa using hn⟩
theorem iv_back {ns : List Int} (h : ∀ z ∈ ns, ((z.toNat : Nat) : Int) = z) : iv (ns.map Int.toNat) = ns := by
  unfold iv
  rw [List.map_map]
  induction ns with
  | nil => rfl
  | cons a r ih =>
    rw [List.map_cons, ih fun z hz => h z (List.mem_cons_of_mem _ hz)]
    exact congrArg (· :: r) (h a List.mem_cons_self)
theorem iv_toNat (l : List Nat) : (iv l).map Int.toNat = l := by
  unfold iv
  rw [List.map_map]
  induction l with
  | nil => rfl
  | cons a r ih =>
    rw [List.map_cons, ih]
    rfl
theorem dn_of_pairwise : ∀ {l : List Nat}, l.Pairwise (· ≥ ·) → Dn l
  | [], _ => trivial
  | a :: l, h => by
    obtain ⟨h1, h2⟩ := List.pairwise_cons.mp h
    exact ⟨fun x hx => h1 x hx, dn_of_pairwise h2⟩
theorem sorted_iv {l : List Nat} {ns : List Int} (p : ns.Perm (iv l)) (o : ns.Pairwise (· ≥ ·)) : ns = iv (srt l) := by
  have hz : ∀ z ∈ ns, ((z.toNat : Nat) : Int) = z := fun z hz => (iv_nat (p.subset hz)).1
  have e := iv_back hz
  have q : (ns.map Int.toNat).Perm l := by
    have := p.map Int.toNat
    rw [iv_toNat] at this
    exact this
  have hd : Dn (ns.map Int.toNat) := by
    refine dn_of_pairwise ?_
    rw [List.pairwise_map]
    refine o.imp_of_mem ?_
    intro a b ha hb hab
    have h1 := hz a ha
    have h2 := hz b hb
    show b.toNat ≤ a.toNat
    omega
  have e2 : ns.map Int.toNat = srt l := dn_unique hd (srt_dn l) (q.trans (srt_perm l).symm)
  rw [← e, e2]
def spFall : Sp := fun vs H Q _ => ∃ (a : Addr) (l : List Nat), vs = [.ref a] ∧ H a = some (.lst (nv l)) ∧ NT Q H (nv (srt l))
theorem sc_falling : FnScope ["members"] ["members"] (defScope s_falling) := ⟨rfl, rfl, rfl, by decide +kernel, rfl, by decide +kernel, by decide +kernel⟩
theorem ok_falling {P : Program} {w : World} {K : PySem.W.Frag} {mg : Str → Option Value} {base : Heap} (D : Dfn K mg "falling" s_falling) (B : Bn mg)    : Cal P w K mg base 1 "falling" ["members"] spFall := by
  refine D.cal sc_falling (fun vs H Q E h => ?_) (fun _ _ _ _ _ _ us hl => match us, hl with | [_], _ => rfl) (fun f cdv A outer s H vs Q E hr h => ?_)
  · obtain ⟨_, _, rfl, _⟩ := h
    rfl
  obtain ⟨a, l, rfl, ha, q⟩ := h
  refine ⟨_, (pss_one (ps_ret (pe_callTy call_tuple_of rfl B.tuple_ bo_tuple (pa_cons (pe_callBK (cr_sortedRev (b := true)) rfl B.sorted_ bo_sorted (pa_cons (pv 0) pa_nil) (pk_cons pe_bl pk_nil)) pa_nil)))), ?_⟩
  refine ⟨_, rfl, a, iv l, rfl, rfl, by rw [nv_iv]; exact SqL.of ha, fun ns' p perm ord np => ?_⟩
  have e : ns' = iv (srt l) := sorted_iv perm ord
  subst e
  rw [nv_iv]
  refine ⟨p, _, rfl, .inl ⟨SqL.of upd_same, fun u nu => ?_⟩⟩
  exact q.new (same_new np _) nu
def spRA : Sp := fun vs H Q _ => ∃ (w : Nat) (fl : Int) (a : Addr) (l : List Nat), vs = [.int (w : Int), .int fl, .ref a] ∧ fl = 1 ∧ H a = some (.tup (nv l)) ∧ 1 ≤ w ∧ Pz l ∧ l.length ≤ 50000 ∧ NT Q H (nv (stp w l))
theorem sc_row_after : FnScope ["width", "floor", "row", "height", "member"] ["width", "floor", "row"] (defScope s_row_after) := ⟨rfl, rfl, rfl, by decide +kernel, rfl, by decide +kernel, by decide +kernel⟩
theorem ok_row_after {P : Program} {w : World} {K : PySem.W.Frag} {mg : Str → Option Value} {base : Heap} (D : Dfn K mg "row_after" s_row_after) (B : Bn mg)    : Cal P w K mg base 1 "row_after" ["width", "floor", "row"] spRA := by
  refine D.cal sc_row_after (fun vs H Q E h => ?_) (fun _ _ _ _ _ _ us hl => match us, hl with | [_, _, _], _ => rfl) (fun f cdv A outer s H vs Q E hr h => ?_)
  · obtain ⟨_, _, _, _, rfl, _⟩ := h
    rfl
  obtain ⟨w', fl, a, l, rfl, rfl, ha, h1, hp, hz, q⟩ := h
  refine ⟨_, (pss_cons (ps_set (i := 3) sc_row_after.nd rfl (.inr rfl) (pv 1))
     (C8.pss_cut (ps_if (PW.pt (pw_and (pt_cmpR op_ge (pe_callB call_len_seq rfl B.len_ bo_len (pa_cons (pv 2) pa_nil)) (pv 0) (nomark _)) (pw_and1 (pt_cmpR op_ge (pe_ix ix_tup (pv 2) (pe_op op_sub (pv 0) pe_int) (fun _ _ => rfl)) (pv 1) (nomark _)))))
     (pss_one (ps_set (i := 3) sc_row_after.nd rfl (.inr rfl) (pe_op op_add (pe_ix ix_tup (pv 2) (pe_op op_sub (pv 0) pe_int) (fun _ _ => rfl)) pe_int)))
     pss_nil)
     (pss_one (ps_ret (pe_op op_catA (pe_callTy call_tuple_of rfl B.tuple_ bo_tuple (pa_cons (pe_lc (own := [("member", 4)]) (g := (gName 4)) rfl sc_row_after.nd (pi_tup (pv 2)) (blkOk_by (own := [("member", 4)]) (N := ["width", "floor", "row", "height", "member"]) (sc := defScope s_row_after) (by decide +kernel)) (fun _ _ _ _ _ => (pg_name (i := 4) sc_row_after.nd rfl (.inl rfl))) (fun _ _ _ _ _ => (pts_one (pt_cmpR op_ge (pv 4) (pv 3) (nomark _)))) (fun _ _ _ _ _ => (pv 4))) pa_nil)) (pe_tup (pa_cons (pv 3) pa_nil))))))), ?_⟩
  refine ⟨_, rfl, ⟨fun σ' H' => σ' = [some (.int (w' : Int)), some (.int 1), some (.ref a), some (.int ((stH w' l : Nat) : Int)), none] ∧ H' = H, ?_, ?_⟩⟩
  · refine ⟨_, rfl, a, _, rfl, .inr (SqT.of ha), _, rfl, _, _, rfl, rfl, _, rfl, ?_⟩
    rw [nv_len]
    by_cases c : w' ≤ l.length
    · refine iteTb (dT (by omega)) ?_
      have hi : w' - 1 < l.length := by omega
      have hx := List.getElem?_eq_getElem hi
      have hp1 := hp l[w' - 1] (List.getElem_mem hi)
      have hat : atI (nv l) ((w' : Int) - 1) = some (.int ((l[w' - 1] : Nat) : Int)) := by
        rw [show (w' : Int) - 1 = ((w' - 1 : Nat) : Int) by omega]
        exact nv_atI hx
      have es : stH w' l = l[w' - 1] + 1 := by
        unfold stH
        rw [hx]
      refine ⟨_, rfl, _, rfl, _, _, rfl, rfl, a, _, _, _, rfl, rfl, SqT.of ha, hat, _, rfl, _, _, rfl, rfl, _, rfl, iteTb (dT (by omega)) ?_⟩
      refine ⟨_, rfl, _, rfl, _, _, rfl, rfl, a, _, _, _, rfl, rfl, SqT.of ha, hat, _, _, rfl, rfl, ?_, rfl⟩
      rw [es]
      rfl
    · refine iteFb (dF (by omega)) (iteF ⟨?_, rfl⟩)
      have es : stH w' l = 1 := by
        unfold stH
        rw [List.getElem?_eq_none (by omega)]
      rw [es]
      rfl
  · rintro σ' H' ⟨rfl, rfl⟩
    have ef : ∀ (i x : Nat), l[i]? = some x → nv ((l.take (i + 1)).filter fun x => decide (stH w' l ≤ x)) = nv ((l.take i).filter fun x => decide (stH w' l ≤ x)) ++ (if decide (stH w' l ≤ x) = true then [.int (x : Int)] else []) := fun i x hx => by
      rw [filter_snoc hx, nv_app]
      congr 1
      split <;> rfl
    refine ⟨_, rfl, a, rfl, ⟨_, SqT.of ha⟩, fun Dl hD => lc_tup (xs := nv l) (fun i H1 => Same H' H1 ∧ H1 Dl = some (.lst (nv ((l.take i).filter fun x => decide (stH w' l ≤ x))))) ⟨same_new hD _, upd_same⟩ (fun i H1 _ p => SqT.of (p.1 _ _ ha)) (fun i x H1 hi p => ?_) fun H1 p => ?_⟩
    · obtain ⟨y, hy, rfl⟩ := nv_get hi
      refine ⟨rfl, _, rfl, _, rfl, _, _, rfl, rfl, _, rfl, ?_⟩
      by_cases c : stH w' l ≤ y
      · refine iteTb (dT (by omega)) ⟨_, rfl, _, p.2, sz_lt ?_, same_mut p.1 hD, ?_⟩
        · rw [nv_len]
          have := List.length_filter_le (fun x => decide (stH w' l ≤ x)) (l.take i)
          rw [List.length_take] at this
          omega
        · rw [ef i y hy, if_pos (dT c)]
          exact upd_same
      · refine iteFb (dF (by omega)) ⟨p.1, ?_⟩
        rw [ef i y hy, if_neg (by rw [dF c]; decide), List.append_nil]
        exact p.2
    · have p2 := p.2
      rw [nv_len, List.take_length] at p2
      refine ⟨Dl, _, rfl, .inl ⟨SqL.of p2, fun t nt => ?_⟩⟩
      have s1 : Same H1 (upd H1 t (.tup (nv (l.filter fun x => decide (stH w' l ≤ x))))) := same_new nt _
      refine ⟨_, rfl, (by show 1 ≤ sizeLine; decide), fun u nu => ?_⟩
      have s2 := same_new nu (.tup [.int ((stH w' l : Nat) : Int)])
      refine ⟨t, u, _, _, rfl, rfl, SqT.of (s2 _ _ upd_same), SqT.of upd_same, sz_ok ?_, fun e => ?_, fun _ e => ?_, fun _ _ v nv' => ?_⟩
      · rw [nv_len]
        have := List.length_filter_le (fun x => decide (stH w' l ≤ x)) l
        show _ + 1 ≤ _
        omega
      · refine q u _ (p.1.trans (s1.trans s2)) ?_
        rw [upd_same]
        unfold stp
        rw [nv_app, e]
        rfl
      · cases e
      · refine q v _ (p.1.trans (s1.trans (s2.trans (same_new nv' _)))) ?_
        rw [upd_same]
        unfold stp
        rw [nv_app]
        rfl
/-- level bounds as they stand -/
def LB (H : Hp) (b : Addr) (n w r : Nat) : Prop := ∃ (p : Addr) (qs : List Addr), H b = some (.tup [.int (r : Int), .ref p]) ∧ H p = some (.tup (qs.map V.ref)) ∧ qs.length = n ∧ ∀ q ∈ qs, H q = some (.tup [.int (w : Int), .int (r : Int)])
theorem LB.same {H H' : Hp} {b : Addr} {n w r : Nat} (h : LB H b n w r) (s : Same H H') : LB H' b n w r := by
  obtain ⟨p, qs, h1, h2, h3, h4⟩ := h
  exact ⟨p, qs, s _ _ h1, s _ _ h2, h3, fun q hq => s _ _ (h4 q hq)⟩
def spStepOf : Sp := fun vs H Q _ => ∃ (b m : Addr) (v n w r : Nat) (l : List Nat), vs = [.ref b, .int (v : Int), .ref m] ∧ LB H b n w r ∧ 1 ≤ v ∧ v ≤ n ∧ H m = some (.lst (nv l)) ∧ 1 ≤ w ∧ Pz l ∧ l.length ≤ 50000 ∧ NT Q H (nv (stp w (srt l)))
theorem sc_step_of : FnScope ["bounds", "version", "members", "roof", "pairs", "width", "reach"] ["bounds", "version", "members"] (defScope s_step_of) := ⟨rfl, rfl, rfl, by decide +kernel, rfl, by decide +kernel, by decide +kernel⟩
theorem ok_step_of {P : Program} {w : World} {K : PySem.W.Frag} {mg : Str → Option Value} {base : Heap} (D : Dfn K mg "step_of" s_step_of) (B : Bn mg) (c_row_after : Cal P w K mg base 1 "row_after" ["width", "floor", "row"] spRA) (c_falling : Cal P w K mg base 1 "falling" ["members"] spFall)   : Cal P w K mg base 2 "step_of" ["bounds", "version", "members"] spStepOf := by
  refine D.cal sc_step_of (fun vs H Q E h => ?_) (fun _ _ _ _ _ _ us hl => match us, hl with | [_, _, _], _ => rfl) (fun f cdv A outer s H vs Q E hr h => ?_)
  · obtain ⟨_, _, _, _, _, _, _, rfl, _⟩ := h
    rfl
  obtain ⟨b, m, v, n, w', r, l, rfl, hb, v1, v2, hm, h1, hp, hz, q⟩ := h
  obtain ⟨p, qs, b1, b2, b3, b4⟩ := hb
  have hi : v - 1 < qs.length := by omega
  have hat : atI (qs.map V.ref) ((v : Int) - 1) = some (.ref qs[v - 1]) := by
    rw [show (v : Int) - 1 = ((v - 1 : Nat) : Int) by omega]
    exact atI_nat (by rw [List.getElem?_map, List.getElem?_eq_getElem hi]; rfl)
  refine ⟨_, (pss_cons (ps_asg (pv 0) (pg_tup rfl (pgs_cons (pg_name (i := 3) sc_step_of.nd rfl (.inl rfl)) (pgs_cons (pg_name (i := 4) sc_step_of.nd rfl (.inl rfl)) pgs_nil))))
     (pss_cons (ps_asg (pe_ix ix_tup (pv 4) (pe_op op_sub (pv 1) pe_int) (fun _ _ => rfl)) (pg_tup rfl (pgs_cons (pg_name (i := 5) sc_step_of.nd rfl (.inl rfl)) (pgs_cons (pg_name (i := 6) sc_step_of.nd rfl (.inl rfl)) pgs_nil))))
     (pss_one (ps_ret (pe_cal c_row_after hr (by first | decide | omega) rfl (pa_cons (pv 5) (pa_cons (pe_op op_sub (pe_op op_add (pv 3) pe_int) (pv 6)) (pa_cons (pe_cal c_falling hr (by first | decide | omega) rfl (pa_cons (pv 2) pa_nil)) pa_nil)))))))), ?_⟩
  refine ⟨_, rfl, b, _, rfl, SqT.of b1, rfl, _, _, rfl, _, _, rfl, rfl, ?_⟩
  refine ⟨_, rfl, _, rfl, _, _, rfl, rfl, p, _, _, _, rfl, rfl, SqT.of b2, hat, _, _, rfl, SqT.of (b4 _ (List.getElem_mem hi)), rfl, _, _, rfl, _, _, rfl, rfl, ?_⟩
  refine ⟨_, rfl, _, rfl, _, _, rfl, rfl, _, rfl, _, _, rfl, rfl, _, rfl, m, l, rfl, hm, fun u H' s1 hu => ?_⟩
  refine ⟨w', _, u, srt l, rfl, by omega, hu, h1, Pz_srt hp, ?_, fun u2 H2 s2 hu2 => q u2 H2 (s1.trans s2) hu2⟩
  rw [(srt_perm l).length_eq]
  exact hz
def spIsRow : Sp := fun vs H Q _ => ∃ (a : Addr) (l : List Nat), vs = [.ref a] ∧ H a = some (.tup (nv l)) ∧ Dn l ∧ Pz l ∧ l.length ≤ 50000 ∧ ∀ H', Same H H' → Q (.bl true) H'
theorem all_true : ∀ n : Nat, (List.replicate n true).all id = true
  | 0 => rfl
  | n + 1 => by
    rw [List.replicate_succ, List.all_cons, all_true n]
    rfl
theorem rep_bl (n : Nat) : (List.replicate n true).map V.bl = List.replicate n (.bl true) := List.map_replicate
theorem sc_is_row : FnScope ["thing", "member", "k"] ["thing"] (defScope s_is_row) := ⟨rfl, rfl, rfl, by decide +kernel, rfl, by decide +kernel, by decide +kernel⟩
theorem ok_is_row {P : Program} {w : World} {K : PySem.W.Frag} {mg : Str → Option Value} {base : Heap} (D : Dfn K mg "is_row" s_is_row) (B : Bn mg) (c_is_natural : Cal P w K mg base 2 "is_natural" ["thing"] (spI1 (fun n => 1 ≤ n) fun _ => .bl true))   : Cal P w K mg base 3 "is_row" ["thing"] spIsRow := by
  refine D.cal sc_is_row (fun vs H Q E h => ?_) (fun _ _ _ _ _ _ us hl => match us, hl with | [_], _ => rfl) (fun f cdv A outer s H vs Q E hr h => ?_)
  · obtain ⟨_, _, rfl, _⟩ := h
    rfl
  obtain ⟨a, l, rfl, ha, hd, hp, hz, q⟩ := h
  refine ⟨_, (pss_cons (ps_if (pt_not (pt_val (pe_callB call_isi rfl B.isinstance_ bo_isinstance (pa_cons (pv 0) (pa_cons (pe_bltn (v := .ty "tuple") rfl B.tuple_ bo_tuple rfl) pa_nil)))))
     (pss_one (ps_ret pe_bl))
     pss_nil)
     (pss_cons (ps_if (pt_not (pt_val (pe_callB (cr_all rfl) rfl B.all_ bo_all (pa_cons (pe_lc (own := [("member", 1)]) (g := (gName 1)) (tt := tYes) rfl sc_is_row.nd (pi_tup (pv 0)) (blkOk_by (own := [("member", 1)]) (N := ["thing", "member", "k"]) (sc := defScope s_is_row) (by decide +kernel)) (fun _ _ _ _ _ => (pg_name (i := 1) sc_is_row.nd rfl (.inl rfl))) (fun _ _ _ _ _ => pts_nil) (fun _ _ _ _ _ => (pe_cal c_is_natural hr (by first | decide | omega) rfl (pa_cons (pv 1) pa_nil)))) pa_nil))))
     (pss_one (ps_ret pe_bl))
     pss_nil)
     (pss_one (ps_ret (pe_callB (cr_all rfl) rfl B.all_ bo_all (pa_cons (pe_lc (own := [("k", 2)]) (g := (gName 2)) (tt := tYes) rfl sc_is_row.nd (pi_range1 rfl B.range_ (pa_cons (pe_op op_sub (pe_callB call_len_seq rfl B.len_ bo_len (pa_cons (pv 0) pa_nil)) pe_int) pa_nil)) (blkOk_by (own := [("k", 2)]) (N := ["thing", "member", "k"]) (sc := defScope s_is_row) (by decide +kernel)) (fun _ _ _ _ _ => (pg_name (i := 2) sc_is_row.nd rfl (.inl rfl))) (fun _ _ _ _ _ => pts_nil) (fun _ _ _ _ _ => (pe_cmpR op_ge (pe_ix (r := rIxT K) ix_tup (pv 0) (pv 2) (fun _ _ => rfl)) (pe_ix (r := rIxT K) ix_tup (pv 0) (pe_op op_add (pv 2) pe_int) (fun _ _ => rfl)) (nomark _)))) pa_nil)))))), ?_⟩
  refine ⟨_, rfl, _, _, _, _, _, rfl, cn, tx_t ha, ki_tt, true, rfl, iteF ?_⟩
  refine ⟨_, rfl, a, rfl, ⟨_, SqT.of ha⟩, fun D1 n1 => lcT (List.replicate (nv l).length (.bl true)) ha n1 (by simp) (by rw [nv_len]; omega) (fun i x y H' hx hy s1 R hR => ?_) fun H1 s1 d1 => ?_⟩
  · obtain ⟨z, hz', rfl⟩ := nv_get hx
    have ey : y = .bl true := (List.mem_replicate.mp (List.mem_of_getElem? hy)).2
    subst ey
    exact ⟨rfl, _, rfl, _, rfl, by have := hp z (List.mem_of_getElem? hz'); omega, hR H' (Same.refl _)⟩
  · refine ⟨D1, List.replicate (nv l).length true, rfl, by rw [rep_bl]; exact SqL.of d1, _, rfl, iteFb (by rw [all_true]; rfl) ?_⟩
    refine ⟨_, rfl, a, _, rfl, .inr (SqT.of (s1 _ _ ha)), _, _, rfl, rfl, _, rfl, ?_, ?_, ?_⟩
    · rw [nv_len]; omega
    · rw [nv_len]; omega
    · have e : (((nv l).length : Int) - 1).toNat = (List.replicate (l.length - 1) (V.bl true)).length := by
        rw [nv_len, List.length_replicate]
        omega
      rw [e]
      intro D2 n2
      refine lcR (List.replicate (l.length - 1) (.bl true)) n2 (by rw [List.length_replicate]; omega) (fun i y H' hy s2 R hR => ?_) fun H2 s2 d2 => ?_
      · have hi : i < l.length - 1 := by
          have := (List.getElem?_eq_some_iff.mp hy).1
          rw [List.length_replicate] at this
          exact this
        have ey : y = .bl true := (List.mem_replicate.mp (List.mem_of_getElem? hy)).2
        subst ey
        have h1 := List.getElem?_eq_getElem (show i < l.length by omega)
        have h2 := List.getElem?_eq_getElem (show i + 1 < l.length by omega)
        have ha2 := s2 _ _ (s1 _ _ ha)
        have e0 : (0 : Int) + ((i : Nat) : Int) = (i : Int) := Int.zero_add _
        refine ⟨rfl, _, rfl, _, rfl, a, _, _, _, rfl, rfl, SqT.of ha2, by rw [e0]; exact nv_atI h1, ?_⟩
        refine ⟨_, rfl, _, rfl, _, _, rfl, rfl, a, _, _, _, rfl, rfl, SqT.of ha2, by rw [e0]; exact nv_atI (i := i + 1) h2, _, _, rfl, rfl, ?_⟩
        exact qT (dT (by have := dn_get hd (Nat.le_succ i) h1 h2; omega)) (hR H' (Same.refl _))
      · refine ⟨D2, List.replicate (l.length - 1) true, rfl, by rw [rep_bl]; exact SqL.of d2, ?_⟩
        exact qT (all_true _) (q H2 (s1.trans s2))
end K67
set_option maxHeartbeats 1000000
namespace K67
open PySem PySem.Spec PyProof.Rows L2
/-! ### rows merged, stepped -/
/-- tuples of numbers at these addresses -/
def RowsAt (H : Hp) (ps : List Addr) (ls : List (List Nat)) : Prop := ps.length = ls.length ∧ ∀ (i : Nat) (p : Addr) (l : List Nat), ps[i]? = some p → ls[i]? = some l → H p = some (.tup (nv l))
theorem RowsAt.same {H H' : Hp} {ps : List Addr} {ls : List (List Nat)} (h : RowsAt H ps ls) (s : Same H H') : RowsAt H' ps ls := ⟨h.1, fun i p l hp hl => s _ _ (h.2 i p l hp hl)⟩
theorem RowsAt.nil {H : Hp} : RowsAt H [] [] := ⟨rfl, fun i p l h => by cases h⟩
theorem RowsAt.snoc {H : Hp} {ps : List Addr} {ls : List (List Nat)} {p : Addr} {l : List Nat} (h : RowsAt H ps ls) (hp : H p = some (.tup (nv l))) : RowsAt H (ps ++ [p]) (ls ++ [l]) := by
  refine ⟨by rw [List.length_append, List.length_append, h.1]; rfl, fun i q m hq hm => ?_⟩
  by_cases c : i < ps.length
  · rw [List.getElem?_append_left c] at hq
    rw [List.getElem?_append_left (by rw [← h.1]; exact c)] at hm
    exact h.2 i q m hq hm
  · rw [List.getElem?_append_right (by omega)] at hq
    rw [List.getElem?_append_right (by rw [← h.1]; omega)] at hm
    have e : i - ps.length = 0 := by
      have := (List.getElem?_eq_some_iff.mp hq).1
      simp at this
      omega
    rw [e] at hq
    rw [← h.1, e] at hm
    have e1 : p = q := Option.some.inj hq
    have e2 : l = m := Option.some.inj hm
    subst e1 e2
    exact hp
theorem RowsAt.cons {H : Hp} {ps : List Addr} {ls : List (List Nat)} {p : Addr} {l : List Nat} (h : RowsAt H ps ls) (hp : H p = some (.tup (nv l))) : RowsAt H (p :: ps) (l :: ls) := by
  refine ⟨by rw [List.length_cons, List.length_cons, h.1], fun i q m hq hm => ?_⟩
  cases i with
  | zero =>
    have e1 : p = q := Option.some.inj hq
    have e2 : l = m := Option.some.inj hm
    subst e1 e2
    exact hp
  | succ i => exact h.2 i q m hq hm
def refs (ps : List Addr) : List V := ps.map V.ref
theorem refs_get {ps : List Addr} {i : Nat} {v : V} (h : (refs ps)[i]? = some v) : ∃ p, ps[i]? = some p ∧ v = .ref p := by
  unfold refs at h
  rw [List.getElem?_map] at h
  cases e : ps[i]? with
  | none => rw [e] at h; cases h
  | some x => rw [e] at h; exact ⟨x, rfl, (Option.some.inj h).symm⟩
theorem refs_len (ps : List Addr) : (refs ps).length = ps.length := List.length_map _
theorem flat_more {ls : List (List Nat)} {i : Nat} {l : List Nat} (h : ls[i]? = some l) : (ls.take (i + 1)).flatten = (ls.take i).flatten ++ l := by
  rw [take_more h, List.flatten_append]
  simp
theorem flat_le {ls : List (List Nat)} {i : Nat} {l : List Nat} (h : ls[i]? = some l) : ((ls.take i).flatten ++ l).length ≤ ls.flatten.length := by
  rw [← flat_more h]
  have e := List.take_append_drop (i + 1) ls
  have e2 : ls.flatten = (ls.take (i + 1)).flatten ++ (ls.drop (i + 1)).flatten := by rw [← List.flatten_append, e]
  rw [e2, List.length_append]
  omega
def spMerged : Sp := fun vs H Q _ => ∃ (a : Addr) (ps : List Addr) (ls : List (List Nat)), vs = [.ref a] ∧ H a = some (.tup (refs ps)) ∧ RowsAt H ps ls ∧ (∀ l ∈ ls, Dn l ∧ Pz l) ∧ ls.flatten.length ≤ 50000 ∧ ls.length ≤ 50000 ∧ NT Q H (nv (srt ls.flatten))
theorem sc_merged : FnScope ["rows", "row", "member"] ["rows"] (defScope s_merged) := ⟨rfl, rfl, rfl, by decide +kernel, rfl, by decide +kernel, by decide +kernel⟩
theorem ok_merged {P : Program} {w : World} {K : PySem.W.Frag} {mg : Str → Option Value} {base : Heap} (D : Dfn K mg "merged" s_merged) (B : Bn mg) (c_falling : Cal P w K mg base 1 "falling" ["members"] spFall) (c_is_row : Cal P w K mg base 3 "is_row" ["thing"] spIsRow)   : Cal P w K mg base 4 "merged" ["rows"] spMerged := by
  refine D.cal sc_merged (fun vs H Q E h => ?_) (fun _ _ _ _ _ _ us hl => match us, hl with | [_], _ => rfl) (fun f cdv A outer s H vs Q E hr h => ?_)
  · obtain ⟨_, _, _, rfl, _⟩ := h
    rfl
  obtain ⟨a, ps, ls, rfl, ha, hr', hd, hz, hz2, q⟩ := h
  have hlen := hr'.1
  refine ⟨_, (pss_cons (ps_if (PW.pt (pw_or (pt_not (pt_val (pe_callB call_isi rfl B.isinstance_ bo_isinstance (pa_cons (pv 0) (pa_cons (pe_bltn (v := .ty "tuple") rfl B.tuple_ bo_tuple rfl) pa_nil))))) (pw_or1 (pt_not (pt_val (pe_callB (cr_all rfl) rfl B.all_ bo_all (pa_cons (pe_lc (own := [("row", 1)]) (g := (gName 1)) (tt := tYes) rfl sc_merged.nd (pi_tup (pv 0)) (blkOk_by (own := [("row", 1)]) (N := ["rows", "row", "member"]) (sc := defScope s_merged) (by decide +kernel)) (fun _ _ _ _ _ => (pg_name (i := 1) sc_merged.nd rfl (.inl rfl))) (fun _ _ _ _ _ => pts_nil) (fun _ _ _ _ _ => (pe_cal c_is_row hr (by first | decide | omega) rfl (pa_cons (pv 1) pa_nil)))) pa_nil)))))))
     (pss_one ps_never)
     pss_nil)
     (pss_one (ps_ret (pe_cal c_falling hr (by first | decide | omega) rfl (pa_cons (pe_lc2 (own := [("row", 1), ("member", 2)]) (vs1 := [2]) (g := (gName 1)) (g1 := (gName 2)) (tt := tYes) (tt1 := tYes) (wi1 := iTup K (tVar 1)) rfl sc_merged.nd (pi_tup (pv 0)) (blkOk_by (own := [("row", 1), ("member", 2)]) (N := ["rows", "row", "member"]) (sc := defScope s_merged) (by decide +kernel)) (by decide) (fun _ _ _ _ _ => (pg_name (i := 1) sc_merged.nd rfl (.inl rfl))) (fun _ _ _ _ _ => pts_nil) (fun _ _ _ _ _ => (pi_tup (pv 1))) (fun _ _ _ _ _ => (pg_name (i := 2) sc_merged.nd rfl (.inl rfl))) (fun _ _ _ _ _ => pts_nil) (fun _ _ _ _ _ => (pv 2))) pa_nil))))), ?_⟩
  refine ⟨_, rfl, _, _, _, _, _, rfl, cn, tx_t ha, ki_tt, true, rfl, iteF ?_⟩
  refine ⟨_, rfl, a, rfl, ⟨_, SqT.of ha⟩, fun D1 n1 => lcT (List.replicate ls.length (.bl true)) ha n1 (by rw [List.length_replicate, refs_len, hlen]) (by rw [refs_len]; omega) (fun i x y H' hx hy s1 R hR => ?_) fun H1 s1 d1 => ?_⟩
  · obtain ⟨p, hp, rfl⟩ := refs_get hx
    have hi : i < ls.length := by rw [← hlen]; exact (List.getElem?_eq_some_iff.mp hp).1
    have hl := List.getElem?_eq_getElem hi
    have ey : y = .bl true := (List.mem_replicate.mp (List.mem_of_getElem? hy)).2
    subst ey
    have hm := List.getElem_mem hi
    refine ⟨rfl, _, rfl, p, _, rfl, s1 _ _ (hr'.2 i p _ hp hl), (hd _ hm).1, (hd _ hm).2, ?_, fun H'' s2 => hR H'' s2⟩
    have h1 := flat_le hl
    rw [List.length_append] at h1
    omega
  · refine ⟨D1, List.replicate ls.length true, rfl, by rw [rep_bl]; exact SqL.of d1, true, qT (Q := fun x _ => x = V.bl true) (H := H1) (all_true _) rfl, iteF ?_⟩
    have ha1 := s1 _ _ ha
    have hr1 := hr'.same s1
    refine ⟨_, rfl, a, rfl, ⟨_, SqT.of ha1⟩, fun D2 n2 => ?_⟩
    refine ⟨fun i m H' => m = ps.length - i ∧ i ≤ ps.length ∧ Same H1 H' ∧ H' D2 = some (.lst (nv (ls.take i).flatten)), ⟨ps.length, rfl, Nat.zero_le _, same_new n2 _, upd_same⟩, ?_⟩
    rintro i m H2 ⟨rfl, hi, s2, d2⟩
    by_cases c : i < ps.length
    · have hp := List.getElem?_eq_getElem c
      have hl := List.getElem?_eq_getElem (show i < ls.length by omega)
      refine .inr ⟨⟨refs ps, .ref ps[i], SqT.of (s2 _ _ ha1), by unfold refs; rw [List.getElem?_map, hp]; rfl⟩, fun H' => Same H1 H' ∧ H' D2 = some (.lst (nv (ls.take (i + 1)).flatten)), fun H' h => ⟨ps.length - (i + 1), by omega, rfl, c, h.1, h.2⟩, fun x H' hx => ?_⟩
      obtain ⟨eH, hx⟩ := hx
      subst eH
      have hx := hx _ (SqT.of (s2 _ _ ha1))
      obtain ⟨p, hp', rfl⟩ := refs_get hx
      have hpl := s2 _ _ (hr1.2 i p _ hp' hl)
      refine ⟨rfl, _, rfl, p, rfl, ⟨_, SqT.of hpl⟩, ?_⟩
      refine ⟨fun j k H' => k = ls[i].length - j ∧ j ≤ ls[i].length ∧ Same H1 H' ∧ H' D2 = some (.lst (nv ((ls.take i).flatten ++ ls[i].take j))), ⟨ls[i].length, rfl, Nat.zero_le _, s2, by rw [List.take_zero, List.append_nil]; exact d2⟩, ?_⟩
      rintro j k H3 ⟨rfl, hj, s3, d3⟩
      have hp3 : H3 p = some (.tup (nv ls[i])) := s3 _ _ (hr1.2 i p _ hp' hl)
      by_cases cj : j < ls[i].length
      · have hy := List.getElem?_eq_getElem cj
        refine .inr ⟨⟨_, _, SqT.of hp3, nv_at hy⟩, fun H' => Same H1 H' ∧ H' D2 = some (.lst (nv ((ls.take i).flatten ++ ls[i].take (j + 1)))), fun H' h => ⟨ls[i].length - (j + 1), by omega, rfl, cj, h.1, h.2⟩, fun x H' hx => ?_⟩
        obtain ⟨eH, hx⟩ := hx
        subst eH
        have hx := hx _ (SqT.of hp3)
        rw [nv_at hy] at hx
        cases hx
        refine ⟨rfl, _, rfl, _, d3, sz_lt ?_, same_mut s3 n2, ?_⟩
        · rw [nv_len]
          have h1 := flat_le hl
          rw [List.length_append] at h1 ⊢
          rw [List.length_take]
          omega
        · rw [upd_same, take_more hy, ← List.append_assoc, nv_app (_ ++ _)]
          rfl
      · refine .inl ⟨⟨_, SqT.of hp3, by rw [nv_len]; omega⟩, s3, ?_⟩
        rw [flat_more hl]
        have e : ls[i].take j = ls[i] := List.take_of_length_le (by omega)
        rw [e] at d3
        exact d3
    · refine .inl ⟨⟨refs ps, SqT.of (s2 _ _ ha1), by rw [refs_len]; omega⟩, ?_⟩
      have e : ls.take i = ls := List.take_of_length_le (by omega)
      rw [e] at d2
      exact ⟨D2, ls.flatten, rfl, d2, fun u H' s3 hu => q u H' (s1.trans (s2.trans s3)) hu⟩
def spStepped : Sp := fun vs H Q _ => ∃ (w : Nat) (a : Addr) (l : List Nat), vs = [.int (w : Int), .int 1, .ref a] ∧ H a = some (.tup (nv l)) ∧ 1 ≤ w ∧ Dn l ∧ Pz l ∧ l.length ≤ 50000 ∧ NT Q H (nv (stp w l))
theorem sc_stepped : FnScope ["width", "floor", "row"] ["width", "floor", "row"] (defScope s_stepped) := ⟨rfl, rfl, rfl, by decide +kernel, rfl, by decide +kernel, by decide +kernel⟩
theorem ok_stepped {P : Program} {w : World} {K : PySem.W.Frag} {mg : Str → Option Value} {base : Heap} (D : Dfn K mg "stepped" s_stepped) (B : Bn mg) (c_row_after : Cal P w K mg base 1 "row_after" ["width", "floor", "row"] spRA) (c_is_natural : Cal P w K mg base 2 "is_natural" ["thing"] (spI1 (fun n => 1 ≤ n) fun _ => .bl true)) (c_is_row : Cal P w K mg base 3 "is_row" ["thing"] spIsRow)   : Cal P w K mg base 4 "stepped" ["width", "floor", "row"] spStepped := by
  refine D.cal sc_stepped (fun vs H Q E h => ?_) (fun _ _ _ _ _ _ us hl => match us, hl with | [_, _, _], _ => rfl) (fun f cdv A outer s H vs Q E hr h => ?_)
  · obtain ⟨_, _, _, rfl, _⟩ := h
    rfl
  obtain ⟨w', a, l, rfl, ha, h1, hd, hp, hz, q⟩ := h
  refine ⟨_, (pss_cons (ps_if (pt_not (pt_val (pe_cal c_is_natural hr (by first | decide | omega) rfl (pa_cons (pv 0) pa_nil))))
     (pss_one ps_never)
     pss_nil)
     (pss_cons (ps_if (pt_not (pt_val (pe_cal c_is_natural hr (by first | decide | omega) rfl (pa_cons (pv 1) pa_nil))))
     (pss_one ps_never)
     pss_nil)
     (pss_cons (ps_if (pt_not (pt_val (pe_cal c_is_row hr (by first | decide | omega) rfl (pa_cons (pv 2) pa_nil))))
     (pss_one ps_never)
     pss_nil)
     (pss_one (ps_ret (pe_cal c_row_after hr (by first | decide | omega) rfl (pa_cons (pv 0) (pa_cons (pv 1) (pa_cons (pv 2) pa_nil))))))))), ?_⟩
  refine ⟨_, rfl, _, rfl, by omega, true, rfl, iteF ?_⟩
  refine ⟨_, rfl, _, rfl, by omega, true, rfl, iteF ?_⟩
  refine ⟨_, rfl, a, l, rfl, ha, hd, hp, hz, fun H1 s1 => ⟨true, rfl, iteF ?_⟩⟩
  exact ⟨_, rfl, _, rfl, _, rfl, w', _, a, l, rfl, rfl, s1 _ _ ha, h1, hp, hz, fun u H' s2 hu => q u H' (s1.trans s2) hu⟩
def spChk : Sp := fun vs H Q _ => ∃ (w : Nat) (a : Addr) (l : List Nat), vs = [.int (w : Int), .ref a] ∧ H a = some (.tup (nv l)) ∧ 1 ≤ w ∧ Dn l ∧ Pz l ∧ l.length ≤ w ∧ w ≤ 50000 ∧ ∀ H', Same H H' → Q .non H'
theorem sc__check_row : FnScope ["width", "row"] ["width", "row"] (defScope s__check_row) := ⟨rfl, rfl, rfl, by decide +kernel, rfl, by decide +kernel, by decide +kernel⟩
theorem ok__check_row {P : Program} {w : World} {K : PySem.W.Frag} {mg : Str → Option Value} {base : Heap} (D : Dfn K mg "_check_row" s__check_row) (B : Bn mg) (c_is_natural : Cal P w K mg base 2 "is_natural" ["thing"] (spI1 (fun n => 1 ≤ n) fun _ => .bl true)) (c_is_row : Cal P w K mg base 3 "is_row" ["thing"] spIsRow)   : Cal P w K mg base 4 "_check_row" ["width", "row"] spChk := by
  refine D.cal sc__check_row (fun vs H Q E h => ?_) (fun _ _ _ _ _ _ us hl => match us, hl with | [_, _], _ => rfl) (fun f cdv A outer s H vs Q E hr h => ?_)
  · obtain ⟨_, _, _, rfl, _⟩ := h
    rfl
  obtain ⟨w', a, l, rfl, ha, h1, hd, hp, hz, hz2, q⟩ := h
  refine ⟨_, (pss_cons (ps_if (pt_not (pt_val (pe_cal c_is_natural hr (by first | decide | omega) rfl (pa_cons (pv 0) pa_nil))))
     (pss_one ps_never)
     pss_nil)
     (pss_one (ps_if (PW.pt (pw_or (pt_not (pt_val (pe_cal c_is_row hr (by first | decide | omega) rfl (pa_cons (pv 1) pa_nil)))) (pw_or1 (pt_cmpR op_gt (pe_callB call_len_seq rfl B.len_ bo_len (pa_cons (pv 1) pa_nil)) (pv 0) (nomark _)))))
     (pss_one ps_never)
     pss_nil))), ?_⟩
  refine ⟨_, rfl, _, rfl, by omega, true, rfl, iteF ?_⟩
  refine ⟨_, rfl, a, l, rfl, ha, hd, hp, by omega, fun H1 s1 => ⟨true, rfl, iteF ?_⟩⟩
  refine ⟨_, rfl, a, _, rfl, .inr (SqT.of (s1 _ _ ha)), _, rfl, _, _, rfl, rfl, _, rfl, ?_⟩
  refine iteFb (dF (by rw [nv_len]; omega)) (q H1 s1)
end K67
set_option maxHeartbeats 1000000
namespace K67
open PySem PySem.Spec PyProof.Rows L2
/-! ### numbers of rows -/
theorem two_int {a b c d : Int} (h1 : a = c) (h2 : b = d) : [V.int a, V.int b] = [V.int c, V.int d] := by rw [h1, h2]
theorem int_eq {a b : Int} (h : a = b) : V.int a = V.int b := by rw [h]
theorem s_int {a b : Int} (h : a = b) : some (V.int a) = some (V.int b) := by rw [h]
theorem Nn_snoc : ∀ (i w : Nat) (l : List Nat) (x : Nat), l[i]? = some x → i < w → Nn w (l.take (i + 1)) = Nn w (l.take i) + Cb (x + (w - i - 1)) (w - i)
  | _, 0, _, _, _, h => by omega
  | 0, w + 1, [], _, h, _ => by cases h
  | 0, w + 1, a :: l, x, h, _ => by
    have e : a = x := Option.some.inj h
    subst e
    show Cb (a + w) (w + 1) + Nn w [] = 0 + Cb (a + (w + 1 - 0 - 1)) (w + 1 - 0)
    rw [Nn_nil, Nat.sub_zero, Nat.add_sub_cancel]
    omega
  | i + 1, w + 1, [], _, h, _ => by cases h
  | i + 1, w + 1, a :: l, x, h, hi => by
    have ih := Nn_snoc i w l x h (by omega)
    show Cb (a + w) (w + 1) + Nn w (l.take (i + 1)) = Cb (a + w) (w + 1) + Nn w (l.take i) + Cb (x + (w + 1 - (i + 1) - 1)) (w + 1 - (i + 1))
    rw [ih, show w + 1 - (i + 1) = w - i by omega]
    omega
def spNum : Sp := fun vs H Q _ => ∃ (w : Nat) (a : Addr) (l : List Nat), vs = [.int (w : Int), .ref a] ∧ H a = some (.tup (nv l)) ∧ 1 ≤ w ∧ Dn l ∧ Pz l ∧ l.length ≤ w ∧ w ≤ 5000 ∧ (∀ x ∈ l, x ≤ 10000) ∧ ∀ H', Same H H' → Q (.int ((Nn w l : Nat) : Int)) H'
theorem sc_number_of : FnScope ["width", "row", "number", "place", "member"] ["width", "row"] (defScope s_number_of) := ⟨rfl, rfl, rfl, by decide +kernel, rfl, by decide +kernel, by decide +kernel⟩
theorem ok_number_of {P : Program} {w : World} {K : PySem.W.Frag} {mg : Str → Option Value} {base : Heap} (D : Dfn K mg "number_of" s_number_of) (B : Bn mg) (c__check_row : Cal P w K mg base 4 "_check_row" ["width", "row"] spChk)   : Cal P w K mg base 5 "number_of" ["width", "row"] spNum := by
  refine D.cal sc_number_of (fun vs H Q E h => ?_) (fun _ _ _ _ _ _ us hl => match us, hl with | [_, _], _ => rfl) (fun f cdv A outer s H vs Q E hr h => ?_)
  · obtain ⟨_, _, _, rfl, _⟩ := h
    rfl
  obtain ⟨w', a, l, rfl, ha, h1, hd, hp, hz, hz2, hb, q⟩ := h
  refine ⟨_, (pss_cons (ps_expr (pe_cal c__check_row hr (by first | decide | omega) rfl (pa_cons (pv 0) (pa_cons (pv 1) pa_nil))))
     (pss_cons (ps_set (i := 2) sc_number_of.nd rfl (.inl rfl) pe_int)
     (pss_cons (ps_for PassesOwn.never rfl (pi_enumT rfl B.enumerate_ (pa_cons (pv 1) pa_nil)) (pg_tup rfl (pgs_cons (pg_name (i := 3) sc_number_of.nd rfl (.inl rfl)) (pgs_cons (pg_name (i := 4) sc_number_of.nd rfl (.inl rfl)) pgs_nil)))
     (pss_one (ps_set (i := 2) sc_number_of.nd rfl (.inl rfl) (pe_op op_add (pv 2) (pe_callBfun cr_comb rfl B.comb_ (pa_cons (pe_op op_sub (pe_op op_sub (pe_op op_add (pv 4) (pv 0)) (pv 3)) pe_int) (pa_cons (pe_op op_sub (pv 0) (pv 3)) pa_nil)))))))
     (pss_one (ps_ret (pv 2)))))), ?_⟩
  refine ⟨_, rfl, _, rfl, w', a, l, rfl, ha, h1, hd, hp, hz, by omega, fun H1 s1 => ?_⟩
  have ha1 := s1 _ _ ha
  refine ⟨_, rfl, a, _, rfl, SqT.of ha1, for_it (walk_enumT (K := K) (a := a) (xs := nv l)) (fun i σ' H' => Same H1 H' ∧ ∃ y3 y4, σ' = [some (.int (w' : Int)), some (.ref a), some (.int ((Nn w' (l.take i) : Nat) : Int)), y3, y4]) ⟨Same.refl _, none, none, by rw [List.take_zero, Nn_nil]; rfl⟩ (fun i σ' H' _ p => SqT.of (p.1 _ _ ha1)) (fun i x σ' H2 H3 hi p y => ?_) (fun σ' H' p => ?_)⟩
  · obtain ⟨s2, y3, y4, rfl⟩ := p
    obtain ⟨T, x1, x2, rfl, nT, rfl, f1, f2⟩ := y
    cases f1
    obtain ⟨m, hm, rfl⟩ := nv_get f2
    have hil : i < l.length := (List.getElem?_eq_some_iff.mp hm).1
    have hmb := hb m (List.mem_of_getElem? hm)
    refine ⟨T, _, rfl, SqT.of upd_same, rfl, _, _, rfl, _, _, rfl, rfl, ?_⟩
    refine ⟨_, rfl, _, rfl, _, rfl, _, _, rfl, rfl, _, rfl, _, _, rfl, rfl, _, _, rfl, rfl, _, rfl, _, rfl, _, _, rfl, rfl, m + (w' - i - 1), w' - i, two_int (by omega) (by omega), by omega, _, _, rfl, rfl, ?_⟩
    refine ⟨s2.trans (same_new nT _), some (.int (i : Int)), some (.int (m : Int)), ?_⟩
    rw [Nn_snoc i w' l m hm (by omega)]
    rfl
  · obtain ⟨s2, y3, y4, rfl⟩ := p
    refine ⟨_, rfl, ?_⟩
    rw [nv_len, List.take_length]
    exact q _ (s1.trans s2)
/-- the greatest member that counts for at most rest -/
def GM (few rest m : Nat) : Prop := 1 ≤ m ∧ Cb (m + few - 1) few ≤ rest ∧ rest < Cb (m + few) few
def spGM : Sp := fun vs H Q _ => ∃ few rest : Nat, vs = [.int (few : Int), .int (rest : Int)] ∧ 1 ≤ few ∧ few ≤ 2000 ∧ 1 ≤ rest ∧ rest < Cb (3000 + few - 1) few ∧ ∀ m : Nat, GM few rest m → Q (.int (m : Int)) H
theorem sc__greatest_member : FnScope ["few", "rest", "high", "low", "middle"] ["few", "rest"] (defScope s__greatest_member) := ⟨rfl, rfl, rfl, by decide +kernel, rfl, by decide +kernel, by decide +kernel⟩
theorem ok__greatest_member {P : Program} {w : World} {K : PySem.W.Frag} {mg : Str → Option Value} {base : Heap} (D : Dfn K mg "_greatest_member" s__greatest_member) (B : Bn mg)    : Cal P w K mg base 1 "_greatest_member" ["few", "rest"] spGM := by
  refine D.cal sc__greatest_member (fun vs H Q E h => ?_) (fun _ _ _ _ _ _ us hl => match us, hl with | [_, _], _ => rfl) (fun f cdv A outer s H vs Q E hr h => ?_)
  · obtain ⟨_, _, rfl, _⟩ := h
    rfl
  obtain ⟨few, rest, rfl, f1, f2, r1, r2, q⟩ := h
  have big : ∀ h : Nat, Cb (h + few - 1) few ≤ rest → h < 3000 := fun h hh => by
    by_cases c : h < 3000
    · exact c
    · have := Cb_mono_le (show 3000 + few - 1 ≤ h + few - 1 by omega) few
      omega
  have one : Cb (1 + few - 1) few ≤ rest := by
    rw [Nat.add_sub_cancel_left, Cb_self]
    exact r1
  refine ⟨_, (pss_cons (ps_set (i := 2) sc__greatest_member.nd rfl (.inl rfl) pe_int)
     (pss_cons (ps_while PassesOwn.never (pt_cmpR op_le (pe_callBfun cr_comb rfl B.comb_ (pa_cons (pe_op op_sub (pe_op op_add (pv 2) (pv 0)) pe_int) (pa_cons (pv 0) pa_nil))) (pv 1) (nomark _))
     (pss_one (ps_set (i := 2) sc__greatest_member.nd rfl (.inl rfl) (pe_op op_mul (pv 2) pe_int))))
     (pss_cons (ps_set (i := 3) sc__greatest_member.nd rfl (.inl rfl) (pe_op op_fdiv (pv 2) pe_int))
     (pss_cons (ps_while PassesOwn.never (pt_cmpR op_gt (pe_op op_sub (pv 2) (pv 3)) pe_int (nomark _))
     (pss_cons (ps_set (i := 4) sc__greatest_member.nd rfl (.inl rfl) (pe_op op_fdiv (pe_op op_add (pv 3) (pv 2)) pe_int))
     (pss_one (ps_if (pt_cmpR op_le (pe_callBfun cr_comb rfl B.comb_ (pa_cons (pe_op op_sub (pe_op op_add (pv 4) (pv 0)) pe_int) (pa_cons (pv 0) pa_nil))) (pv 1) (nomark _))
     (pss_one (ps_set (i := 3) sc__greatest_member.nd rfl (.inl rfl) (pv 4)))
     (pss_one (ps_set (i := 2) sc__greatest_member.nd rfl (.inl rfl) (pv 4)))))))
     (pss_one (ps_ret (pv 3))))))), ?_⟩
  refine ⟨fun m σ' H' => H' = H ∧ ∃ h : Nat, σ' = [some (.int (few : Int)), some (.int (rest : Int)), some (.int ((2 * h : Nat) : Int)), none, none] ∧ 1 ≤ h ∧ Cb (h + few - 1) few ≤ rest ∧ m = 6000 - h, ⟨_, rfl, 1, rfl, by omega, one, rfl⟩, ?_⟩
  rintro m σ' H' ⟨rfl, h, rfl, h1, h2, rfl⟩
  have hb := big h h2
  refine ⟨_, rfl, _, rfl, _, _, rfl, rfl, _, _, rfl, rfl, _, rfl, 2 * h + few - 1, few, two_int (by omega) rfl, by omega, _, rfl, _, _, rfl, rfl, _, rfl, ?_⟩
  by_cases c : Cb (2 * h + few - 1) few ≤ rest
  · have hb2 := big _ c
    refine iteTb (dT (by omega)) ⟨_, fun σ2 H2 hN => hN, ?_⟩
    refine ⟨_, rfl, _, _, rfl, rfl, .inr ⟨by decide, by decide⟩, 6000 - 2 * h, by omega, rfl, 2 * h, ?_, by omega, c, rfl⟩
    rw [show ((2 * (2 * h) : Nat) : Int) = ((2 * h : Nat) : Int) * 2 by omega]
    rfl
  · refine iteFb (dF (by omega)) ?_
    refine ⟨_, rfl, _, _, rfl, rfl, ⟨by decide, by decide⟩, ?_⟩
    have eh : ((2 * h : Nat) : Int) / 2 = (h : Int) := by omega
    refine ⟨fun m σ' H2 => H2 = H' ∧ ∃ (lo hi : Nat) (y : Option V), σ' = [some (.int (few : Int)), some (.int (rest : Int)), some (.int (hi : Int)), some (.int (lo : Int)), y] ∧ 1 ≤ lo ∧ lo < hi ∧ hi ≤ 6000 ∧ Cb (lo + few - 1) few ≤ rest ∧ rest < Cb (hi + few - 1) few ∧ m = hi - lo, ⟨_, rfl, h, 2 * h, none, by rw [← eh]; rfl, h1, by omega, by omega, h2, by omega, rfl⟩, ?_⟩
    rintro m σ' H2 ⟨rfl, lo, hi, y, rfl, l1, l2, l3, l4, l5, rfl⟩
    refine ⟨_, rfl, _, rfl, _, _, rfl, rfl, _, _, rfl, rfl, _, rfl, ?_⟩
    by_cases c2 : 1 < hi - lo
    · refine iteTb (dT (by omega)) ⟨_, fun σ2 H2 hN => hN, ?_⟩
      refine ⟨_, rfl, _, rfl, _, _, rfl, rfl, _, _, rfl, rfl, ⟨by decide, by decide⟩, ?_⟩
      have em : ((lo : Int) + (hi : Int)) / 2 = (((lo + hi) / 2 : Nat) : Int) := by omega
      refine ⟨_, rfl, _, rfl, _, _, rfl, rfl, _, _, rfl, rfl, _, rfl, (lo + hi) / 2 + few - 1, few, two_int (by omega) rfl, by omega, _, rfl, _, _, rfl, rfl, _, rfl, ?_⟩
      by_cases c3 : Cb ((lo + hi) / 2 + few - 1) few ≤ rest
      · refine iteTb (dT (by omega)) ⟨_, rfl, hi - (lo + hi) / 2, by omega, rfl, (lo + hi) / 2, hi, some (.int (((lo + hi) / 2 : Nat) : Int)), ?_, by omega, by omega, l3, c3, l5, rfl⟩
        rw [← em]
        rfl
      · refine iteFb (dF (by omega)) ⟨_, rfl, (lo + hi) / 2 - lo, by omega, rfl, lo, (lo + hi) / 2, some (.int (((lo + hi) / 2 : Nat) : Int)), ?_, l1, by omega, by omega, l4, by omega, rfl⟩
        rw [← em]
        rfl
    · refine iteFb (dF (by omega)) ⟨_, rfl, q lo ⟨l1, l4, ?_⟩⟩
      have e : hi = lo + 1 := by omega
      subst e
      rw [show lo + few = lo + 1 + few - 1 by omega]
      exact l5
/-- the row of at most w members that has the number n -/
def spRowOf : Sp := fun vs H Q _ => ∃ w n : Nat, vs = [.int (w : Int), .int (n : Int)] ∧ 1 ≤ w ∧ w ≤ 2000 ∧ n < Cb (2000 + w - 1) w ∧ ∀ (l : List Nat), Dn l → Pz l → l.length ≤ w → Nn w l = n → (∀ x ∈ l, x ≤ 2000) → NT Q H (nv l)
theorem dn_app {t : Nat} : ∀ {l : List Nat}, Dn l → (∀ x ∈ l, t ≤ x) → Dn (l ++ [t]) := dn_snoc
theorem row_next {w i n r m : Nat} {l : List Nat} (hi : l.length = i) (hw : i < w) (hn : Nn w l + r = n) (g : GM (w - i) r m) : Nn w (l ++ [m]) + (r - Cb (m + (w - i) - 1) (w - i)) = n := by
  have e := Nn_snoc i w (l ++ [m]) m (by rw [List.getElem?_append_right (by omega), ← hi, Nat.sub_self]; rfl) hw
  rw [List.take_of_length_le (by rw [List.length_append]; show l.length + 1 ≤ i + 1; omega), List.take_left' hi] at e
  obtain ⟨g1, g2, g3⟩ := g
  rw [show m + (w - i - 1) = m + (w - i) - 1 by omega] at e
  omega
theorem sc_row_of : FnScope ["width", "number", "members", "rest", "few", "member"] ["width", "number"] (defScope s_row_of) := ⟨rfl, rfl, rfl, by decide +kernel, rfl, by decide +kernel, by decide +kernel⟩
theorem ok_row_of {P : Program} {w : World} {K : PySem.W.Frag} {mg : Str → Option Value} {base : Heap} (D : Dfn K mg "row_of" s_row_of) (B : Bn mg) (c_is_natural : Cal P w K mg base 2 "is_natural" ["thing"] (spI1 (fun n => 1 ≤ n) fun _ => .bl true)) (c_is_number : Cal P w K mg base 2 "is_number" ["thing"] (spI1 (fun n => 0 ≤ n) fun _ => .bl true)) (c__greatest_member : Cal P w K mg base 1 "_greatest_member" ["few", "rest"] spGM)   : Cal P w K mg base 3 "row_of" ["width", "number"] spRowOf := by
  refine D.cal sc_row_of (fun vs H Q E h => ?_) (fun _ _ _ _ _ _ us hl => match us, hl with | [_, _], _ => rfl) (fun f cdv A outer s H vs Q E hr h => ?_)
  · obtain ⟨_, _, rfl, _⟩ := h
    rfl
  obtain ⟨w', n, rfl, w1, w2, n2, q⟩ := h
  refine ⟨_, (pss_cons (ps_if (pt_not (pt_val (pe_cal c_is_natural hr (by first | decide | omega) rfl (pa_cons (pv 0) pa_nil))))
     (pss_one ps_never)
     pss_nil)
     (pss_cons (ps_if (pt_not (pt_val (pe_cal c_is_number hr (by first | decide | omega) rfl (pa_cons (pv 1) pa_nil))))
     (pss_one ps_never)
     pss_nil)
     (pss_cons (ps_set (i := 2) sc_row_of.nd rfl (.inl rfl) (pe_lst pa_nil))
     (pss_cons (ps_set (i := 3) sc_row_of.nd rfl (.inl rfl) (pv 1))
     (pss_cons (ps_set (i := 4) sc_row_of.nd rfl (.inl rfl) (pv 0))
     (pss_cons (ps_while PassesOwn.never (pt_cmpR op_gt (pv 3) pe_int (nomark _))
     (pss_cons (ps_set (i := 5) sc_row_of.nd rfl (.inl rfl) (pe_cal c__greatest_member hr (by first | decide | omega) rfl (pa_cons (pv 4) (pa_cons (pv 3) pa_nil))))
     (pss_cons (ps_expr (pe_bm PySem.F.plainAttrs_list PySem.F.slot_list_append PySem.F.type_list_append mt_append (pv 2) (pa_cons (pv 5) pa_nil)))
     (pss_cons (ps_set (i := 3) sc_row_of.nd rfl (.inl rfl) (pe_op op_sub (pv 3) (pe_callBfun cr_comb rfl B.comb_ (pa_cons (pe_op op_sub (pe_op op_add (pv 5) (pv 4)) pe_int) (pa_cons (pv 4) pa_nil)))))
     (pss_one (ps_set (i := 4) sc_row_of.nd rfl (.inl rfl) (pe_op op_sub (pv 4) pe_int)))))))
     (pss_one (ps_ret (pe_callTy call_tuple_of rfl B.tuple_ bo_tuple (pa_cons (pv 2) pa_nil)))))))))), ?_⟩
  refine ⟨_, rfl, _, rfl, by omega, true, rfl, iteF ?_⟩
  refine ⟨_, rfl, _, rfl, by omega, true, rfl, iteF ?_⟩
  refine ⟨Nat.zero_le _, fun L nL => ⟨_, rfl, _, rfl, ?_⟩⟩
  refine ⟨fun k σ' H' => Same H H' ∧ ∃ (l : List Nat) (r : Nat) (y : Option V), σ' = [some (.int (w' : Int)), some (.int (n : Int)), some (.ref L), some (.int (r : Int)), some (.int ((w' - l.length : Nat) : Int)), y] ∧ H' L = some (.lst (nv l)) ∧ Dn l ∧ Pz l ∧ l.length ≤ w' ∧ k = w' - l.length ∧
    Nn w' l + r = n ∧ (∀ x ∈ l, x ≤ 2000) ∧ ((l = [] ∧ r < Cb (2000 + w' - 1) w') ∨ ∃ p, (∀ x ∈ l, p ≤ x) ∧ p ≤ 2000 ∧ r < Cb (p + (w' - l.length)) (w' - l.length)), ⟨_, same_new nL _, [], n, none, rfl, upd_same, trivial, fun _ h => (nomatch h), Nat.zero_le _, rfl, by rw [Nn_nil]; omega, fun _ h => (nomatch h), .inl ⟨rfl, n2⟩⟩, ?_⟩
  rintro k σ' H' ⟨s1, l, r, y, rfl, hL, hd, hp, hl, rfl, hn, hb, hr'⟩
  refine ⟨_, rfl, _, _, rfl, rfl, _, rfl, ?_⟩
  by_cases c : 0 < r
  · have hlt : l.length < w' := by
      by_cases c2 : l.length < w'
      · exact c2
      · exfalso
        rcases hr' with ⟨e, _⟩ | ⟨p, _, _, h3⟩
        · subst e
          exact c2 (by show 0 < w'; omega)
        · rw [show w' - l.length = 0 by omega, Cb_zero] at h3
          omega
    have hbig : r < Cb (2000 + (w' - l.length) - 1) (w' - l.length) ∨ ∃ p, (∀ x ∈ l, p ≤ x) ∧ p ≤ 2000 ∧ r < Cb (p + (w' - l.length)) (w' - l.length) := by
      rcases hr' with ⟨e, h⟩ | h
      · subst e
        exact .inl h
      · exact .inr h
    have h2001 : r < Cb (2001 + (w' - l.length) - 1) (w' - l.length) := by
      rcases hbig with h | ⟨p, _, hp2, h⟩
      · exact Nat.lt_of_lt_of_le h (Cb_mono_le (by omega) _)
      · exact Nat.lt_of_lt_of_le h (Cb_mono_le (by omega) _)
    have h3000 : r < Cb (3000 + (w' - l.length) - 1) (w' - l.length) := Nat.lt_of_lt_of_le h2001 (Cb_mono_le (by omega) _)
    refine iteTb (dT (by omega)) ⟨_, fun σ2 H2 hN => hN, ?_⟩
    refine ⟨_, rfl, _, rfl, w' - l.length, r, rfl, by omega, by omega, by omega, h3000, fun m g => ?_⟩
    have hn2 := row_next rfl hlt hn g
    obtain ⟨g1, g2, g3⟩ := g
    have hm2 : m ≤ 2000 := by
      by_cases cm : m ≤ 2000
      · exact cm
      · have := Cb_mono_le (show 2001 + (w' - l.length) - 1 ≤ m + (w' - l.length) - 1 by omega) (w' - l.length)
        omega
    have hmin : ∀ x ∈ l, m ≤ x := fun x hx => by
      rcases hr' with ⟨e, _⟩ | ⟨p, h1, _, h3⟩
      · subst e
        cases hx
      · have hpx := h1 x hx
        by_cases cm : m ≤ p
        · omega
        · have := Cb_mono_le (show p + (w' - l.length) ≤ m + (w' - l.length) - 1 by omega) (w' - l.length)
          omega
    refine ⟨_, rfl, .inl ⟨rfl, _, SqL.of hL⟩, _, rfl, L, _, _, rfl, rfl, hL, sz_lt (by rw [nv_len]; omega), ?_⟩
    refine ⟨_, rfl, _, rfl, _, rfl, _, _, rfl, rfl, _, _, rfl, rfl, _, rfl, m + (w' - l.length) - 1, w' - l.length, two_int (by omega) rfl, by omega, _, _, rfl, rfl, ?_⟩
    refine ⟨_, rfl, _, _, rfl, rfl, w' - (l.length + 1), by omega, same_mut s1 nL, l ++ [m], r - Cb (m + (w' - l.length) - 1) (w' - l.length), some (.int (m : Int)), ?_, ?_, dn_snoc hd hmin, ?_, ?_, ?_, hn2, ?_, .inr ⟨m, ?_, hm2, ?_⟩⟩
    · rw [List.length_append]
      rw [show ((r - Cb (m + (w' - l.length) - 1) (w' - l.length) : Nat) : Int) = (r : Int) - ((Cb (m + (w' - l.length) - 1) (w' - l.length) : Nat) : Int) by omega]
      rw [show ((w' - (l.length + [m].length) : Nat) : Int) = ((w' - l.length : Nat) : Int) - 1 by show ((w' - (l.length + 1) : Nat) : Int) = _; omega]
      rfl
    · rw [upd_same, nv_app]
      rfl
    · intro x hx
      rcases List.mem_append.mp hx with h | h
      · exact hp x h
      · rw [List.mem_singleton.mp h]
        exact g1
    · rw [List.length_append]
      show l.length + 1 ≤ w'
      omega
    · rw [List.length_append]
      rfl
    · intro x hx
      rcases List.mem_append.mp hx with h | h
      · exact hb x h
      · rw [List.mem_singleton.mp h]
        exact hm2
    · intro x hx
      rcases List.mem_append.mp hx with h | h
      · exact hmin x h
      · rw [List.mem_singleton.mp h]
        exact Nat.le_refl _
    · rw [List.length_append]
      show _ < Cb (m + (w' - (l.length + 1))) (w' - (l.length + 1))
      have e1 : m + (w' - l.length) = (m + (w' - l.length) - 1) + 1 := by omega
      have e2 : w' - l.length = (w' - (l.length + 1)) + 1 := by omega
      have e3 : Cb (m + (w' - l.length)) (w' - l.length) = Cb (m + (w' - (l.length + 1))) (w' - (l.length + 1)) + Cb (m + (w' - l.length) - 1) (w' - l.length) := by
        rw [e1, Nat.add_sub_cancel]
        have : ∀ a b : Nat, b = w' - (l.length + 1) → Cb (a + 1) (w' - l.length) = Cb a b + Cb a (w' - l.length) := fun a b hb => by
          rw [e2, ← hb, Cb_succ]
        rw [this (m + (w' - l.length) - 1) (w' - (l.length + 1)) rfl]
        congr 2
        omega
      omega
  · have er : r = 0 := by omega
    subst er
    refine iteFb (dF (by omega)) ?_
    refine ⟨_, rfl, L, _, rfl, .inl ⟨SqL.of hL, fun u nu => ?_⟩⟩
    exact q l hd hp hl (by omega) hb u _ (s1.trans (same_new nu _)) upd_same
end K67
set_option maxHeartbeats 1000000
namespace K67
open PySem PySem.Spec PyProof.Rows L2
/-! ### a list of new lists -/
theorem lcNew {lo : Int} {n j : Nat} {vs : List Nat} {σ : L2.St} {H : Hp} {D : Addr} {Qd : Hp → Prop} (hn : H D = none) (hz : n ≤ 60000) (hw : ∀ x, wipe ((wipe σ vs).set j (some x)) vs = wipe σ vs)
    (hd : ∀ H' As, Same H H' → H' D = some (.lst (refs As)) → As.length = n → As.Nodup → (∀ a ∈ As, H a = none ∧ H' a = some (.lst []) ∧ a ≠ D) → Qd H') :
    ∃ W : Nat → Nat → Hp → Prop, (∃ m, W 0 m (upd H D (.lst []))) ∧ ∀ i m H, W i m H → ((Itr lo n).stop i H ∧ Qd H) ∨ ((Itr lo n).go i H ∧ ∃ Nx : Hp → Prop, (∀ H', Nx H' → ∃ m', m' < m ∧ W (i + 1) m' H') ∧
      ∀ x H', (Itr lo n).yld i H x H' → gName j x (wipe σ vs) H' fun σ2 H2 => wipe σ2 vs = wipe σ vs ∧ tYes σ2 H2 fun b H3 => if b = true then tLst tNil σ2 H3 fun y H4 => ∃ acc, H4 D = some (.lst acc) ∧ acc.length < sizeLine ∧ Nx (upd H4 D (.lst (acc ++ [y]))) else Nx H3) := by
  refine lc_range (fun i H' => Same H H' ∧ ∃ As, H' D = some (.lst (refs As)) ∧ As.length = i ∧ As.Nodup ∧ ∀ a ∈ As, H a = none ∧ H' a = some (.lst []) ∧ a ≠ D) ⟨same_new hn _, [], upd_same, rfl, List.Pairwise.nil, fun _ h => (nomatch h)⟩ (fun i H' hi p => ?_) (fun H' p => ?_)
  · obtain ⟨s1, As, h1, h2, h3, h4⟩ := p
    refine ⟨hw _, ?_⟩
    unfold tYes
    dsimp only
    rw [if_pos rfl]
    refine ⟨Nat.zero_le _, fun p np => ⟨refs As, ?_, sz_lt (by rw [refs_len]; omega), same_mut (s1.trans (same_new np _)) hn, As ++ [p], ?_, by rw [List.length_append, h2]; rfl, ?_, ?_⟩⟩
    · rw [upd_ne (ne_of_none h1 np)]
      exact h1
    · rw [upd_same]
      unfold refs
      rw [List.map_append]
      rfl
    · refine List.nodup_append.mpr ⟨h3, List.nodup_cons.mpr ⟨(fun h => nomatch h), List.Pairwise.nil⟩, fun a ha b hb => ?_⟩
      rw [List.mem_singleton.mp hb]
      exact ne_of_none (h4 a ha).2.1 np
    · intro a ha
      have hpD : p ≠ D := fun e => by
        rw [e] at np
        rw [np] at h1
        cases h1
      rcases List.mem_append.mp ha with ha | ha
      · obtain ⟨g1, g2, g3⟩ := h4 a ha
        refine ⟨g1, ?_, g3⟩
        rw [upd_ne g3, upd_ne (ne_of_none g2 np)]
        exact g2
      · rw [List.mem_singleton.mp ha]
        refine ⟨s1.free np, ?_, hpD⟩
        rw [upd_ne hpD]
        exact upd_same
  · obtain ⟨s1, As, h1, h2, h3, h4⟩ := p
    exact hd H' As s1 h1 h2 h3 h4
/-! ### lists of rows, by version -/
theorem RowsAt.updL {H : Hp} {ps : List Addr} {ls : List (List Nat)} {a : Addr} {x : List V} {o : HO} (h : RowsAt H ps ls) (ha : H a = some (.lst x)) : RowsAt (upd H a o) ps ls := ⟨h.1, fun i p l hp hl => by
  have e := h.2 i p l hp hl
  rw [upd_ne (ne_of e ha (fun z => by cases z))]
  exact e⟩
structure BlR (H : Hp) (B : Addr) (As : List Addr) (pd : Nat → List (List Nat)) : Prop where
  at_ : H B = some (.lst (refs As))
  nd : As.Nodup
  it : ∀ (u : Nat) (a : Addr), As[u]? = some a → a ≠ B ∧ ∃ ps, H a = some (.lst (refs ps)) ∧ RowsAt H ps (pd u)
theorem BlR.same {H H' : Hp} {B : Addr} {As : List Addr} {pd : Nat → List (List Nat)} (h : BlR H B As pd) (s : Same H H') : BlR H' B As pd := ⟨s _ _ h.at_, h.nd, fun u a hu => by
  obtain ⟨h1, ps, h2, h3⟩ := h.it u a hu
  exact ⟨h1, ps, s _ _ h2, h3.same s⟩⟩
theorem BlR.other {H : Hp} {B q : Addr} {As : List Addr} {pd : Nat → List (List Nat)} {x : List V} {o : HO} (h : BlR H B As pd) (hq : H q = some (.lst x)) (hB : q ≠ B) (hA : q ∉ As) : BlR (upd H q o) B As pd := ⟨by rw [upd_ne hB.symm]; exact h.at_, h.nd, fun u a hu => by
  obtain ⟨h1, ps, h2, h3⟩ := h.it u a hu
  exact ⟨h1, ps, by rw [upd_ne (fun e => hA (by rw [← e]; exact List.mem_of_getElem? hu))]; exact h2, h3.updL hq⟩⟩
theorem BlR.add {H : Hp} {B a0 p : Addr} {As ps : List Addr} {pd : Nat → List (List Nat)} {u0 : Nat} {l : List Nat} (h : BlR H B As pd) (hu : As[u0]? = some a0) (ha : H a0 = some (.lst (refs ps))) (hp : H p = some (.tup (nv l))) :
    BlR (upd H a0 (.lst (refs ps ++ [.ref p]))) B As (fun u => if u = u0 then pd u ++ [l] else pd u) := by
  obtain ⟨n0, ps0, e0, r0⟩ := h.it u0 a0 hu
  rw [ha] at e0
  have eps : refs ps = refs ps0 := by
    have := Option.some.inj e0
    injection this
  have hpa : p ≠ a0 := ne_of hp ha (fun z => by cases z)
  refine ⟨by rw [upd_ne n0.symm]; exact h.at_, h.nd, fun u a hu' => ?_⟩
  by_cases c : u = u0
  · subst c
    have ea : a = a0 := by
      rw [hu] at hu'
      exact (Option.some.inj hu').symm
    subst ea
    refine ⟨n0, ps0 ++ [p], ?_, ?_⟩
    · rw [upd_same, eps]
      unfold refs
      rw [List.map_append]
      rfl
    · rw [if_pos rfl]
      exact RowsAt.snoc (r0.updL ha) (by rw [upd_ne hpa]; exact hp)
  · obtain ⟨h1, ps', h2, h3⟩ := h.it u a hu'
    have hne : a ≠ a0 := fun e => by
      subst e
      have := nd_ix h.nd hu hu'
      exact c this.symm
    refine ⟨h1, ps', by rw [upd_ne hne]; exact h2, ?_⟩
    rw [if_neg c]
    exact h3.updL ha
theorem RowsAt.rev {H : Hp} {ps : List Addr} {ls : List (List Nat)} (h : RowsAt H ps ls) : RowsAt H ps.reverse ls.reverse := by
  refine ⟨by rw [List.length_reverse, List.length_reverse, h.1], fun i p l hp hl => ?_⟩
  have hi : i < ps.length := by
    have := (List.getElem?_eq_some_iff.mp hp).1
    rw [List.length_reverse] at this
    exact this
  rw [List.getElem?_reverse hi] at hp
  rw [List.getElem?_reverse (by rw [← h.1]; exact hi)] at hl
  rw [← h.1] at hl
  exact h.2 _ p l hp hl
theorem refs_rev (ps : List Addr) : (refs ps).reverse = refs ps.reverse := (List.map_reverse).symm
/-! ### sizes of what is pending -/
theorem pend_rows (hs : List Nat) {w : Nat} (hw : 1 ≤ w) : ∀ i u, (pend hs w i u).length ≤ i ∧ ∀ l ∈ pend hs w i u, Dn l ∧ Pz l ∧ l.length ≤ w
  | 0, _ => ⟨Nat.le_refl _, fun _ h => (nomatch h)⟩
  | i + 1, u => by
    have ih := pend_rows hs hw i u
    have ihv := pend_rows hs hw i (hs.length - i)
    unfold pend
    split
    · refine ⟨by rw [List.length_append]; show _ + 1 ≤ _; omega, fun l hl => ?_⟩
      rcases List.mem_append.mp hl with hl | hl
      · exact ih.2 l hl
      · rw [List.mem_singleton.mp hl]
        refine ⟨stp_dn (srt_dn _), stp_pz (Pz_srt fun x hx => ?_), stp_len (srt_dn _) hw⟩
        obtain ⟨m, hm, hx⟩ := List.mem_flatten.mp hx
        exact (ihv.2 m hm).2.1 x hx
    · exact ⟨by omega, ih.2⟩
theorem flat_len {w : Nat} : ∀ {ls : List (List Nat)}, (∀ l ∈ ls, l.length ≤ w) → ls.flatten.length ≤ ls.length * w
  | [], _ => Nat.zero_le _
  | l :: ls, h => by
    have ih := flat_len (ls := ls) fun m hm => h m (List.mem_cons_of_mem _ hm)
    have h1 := h l List.mem_cons_self
    rw [List.flatten_cons, List.length_append, List.length_cons, Nat.add_mul, Nat.one_mul]
    omega
theorem pend_flen (hs : List Nat) {w : Nat} (hw : 1 ≤ w) (hw2 : w ≤ 1000) {i : Nat} (hi : i ≤ 45) (u : Nat) : (pend hs w i u).flatten.length ≤ 45000 := by
  obtain ⟨h1, h2⟩ := pend_rows hs hw i u
  have h3 := flat_len fun l hl => (h2 l hl).2.2
  have h4 := Nat.mul_le_mul (Nat.le_trans h1 hi) hw2
  omega
theorem pend_pz (hs : List Nat) {w : Nat} (hw : 1 ≤ w) (i u : Nat) : Pz (pend hs w i u).flatten := fun x hx => by
  obtain ⟨m, hm, hx⟩ := List.mem_flatten.mp hx
  exact ((pend_rows hs hw i u).2 m hm).2.1 x hx
def rowsL (hs : List Nat) (w : Nat) : List (List Nat) := ((List.range hs.length).map (rowI hs w)).reverse
def rowT (hs : List Nat) (w : Nat) : List Nat := (srt (pend hs w hs.length 0).flatten).take w
theorem cut_take (l : List Nat) (w : Nat) : cutV (nv l) none (some (w : Int)) = nv (l.take w) := by
  unfold cutV
  rw [HT.sIx_none, HT.sIx_nat, List.drop_zero, Nat.sub_zero, nv_len]
  unfold nv
  rw [← List.map_take]
  congr 1
  by_cases c : w ≤ l.length
  · rw [Nat.min_eq_left c]
  · rw [Nat.min_eq_right (by omega), List.take_of_length_le (Nat.le_refl _), List.take_of_length_le (by omega)]
def spRW : Sp := fun vs H Q _ => ∃ (a : Addr) (hs : List Nat) (w : Nat), vs = [.ref a, .int (w : Int)] ∧ H a = some (.tup (nv hs)) ∧ Hist hs ∧ hs.length ≤ 45 ∧ 1 ≤ w ∧ w ≤ 1000 ∧
  ∀ (p q r : Addr) (ps : List Addr) (H' : Hp), Same H H' → H' p = some (.tup [.ref q, .ref r]) → H' q = some (.tup (refs ps)) → RowsAt H' ps (rowsL hs w) → H' r = some (.tup (nv (rowT hs w))) → Q (.ref p) H'
theorem sc__rows_within : FnScope ["history", "width", "below", "rows", "version", "row", "_"] ["history", "width"] (defScope s__rows_within) := ⟨rfl, rfl, rfl, by decide +kernel, rfl, by decide +kernel, by decide +kernel⟩
theorem ok__rows_within {P : Program} {w : World} {K : PySem.W.Frag} {mg : Str → Option Value} {base : Heap} (D : Dfn K mg "_rows_within" s__rows_within) (B : Bn mg) (c_stepped : Cal P w K mg base 4 "stepped" ["width", "floor", "row"] spStepped) (c_merged : Cal P w K mg base 4 "merged" ["rows"] spMerged)   : Cal P w K mg base 5 "_rows_within" ["history", "width"] spRW := by
  refine D.cal sc__rows_within (fun vs H Q E h => ?_) (fun _ _ _ _ _ _ us hl => match us, hl with | [_, _], _ => rfl) (fun f cdv A outer s H vs Q E hr h => ?_)
  · obtain ⟨_, _, _, rfl, _⟩ := h
    rfl
  obtain ⟨a, hs, w', rfl, ha, hh, hn, w1, w2, q⟩ := h
  refine ⟨_, (pss_cons (ps_setLc (i := 2) (own := [("_", 6)]) (g := (gName 6)) (tt := tYes) rfl sc__rows_within.nd rfl rfl (sw_true rfl rfl rfl (by decide +kernel)) (pi_range1 rfl B.range_ (pa_cons (pe_op op_add (pe_callB call_len_seq rfl B.len_ bo_len (pa_cons (pv 0) pa_nil)) pe_int) pa_nil)) (blkOk_by (own := [("_", 6)]) (N := ["history", "width", "below", "rows", "version", "row", "_"]) (sc := defScope s__rows_within) (by decide +kernel)) (fun _ _ _ _ _ => (pg_name (i := 6) sc__rows_within.nd rfl (.inl rfl))) (fun _ _ _ _ _ => pts_nil) (fun _ _ _ _ _ => (pe_lst pa_nil)))
     (pss_cons (ps_set (i := 3) sc__rows_within.nd rfl (.inl rfl) (pe_lst pa_nil))
     (pss_cons (ps_for PassesOwn.never rfl (pi_range3 rfl B.range_ (pa_cons (pe_callB call_len_seq rfl B.len_ bo_len (pa_cons (pv 0) pa_nil)) (pa_cons pe_int (pa_cons (pe_un un_neg pe_int) pa_nil)))) (pg_name (i := 4) sc__rows_within.nd rfl (.inl rfl))
     (pss_cons (ps_set (i := 5) sc__rows_within.nd rfl (.inl rfl) (pe_cal c_stepped hr (by first | decide | omega) rfl (pa_cons (pv 1) (pa_cons pe_int (pa_cons (pe_cal c_merged hr (by first | decide | omega) rfl (pa_cons (pe_callTy call_tuple_of rfl B.tuple_ bo_tuple (pa_cons (pe_ix ix_list (pv 2) (pv 4) (fun _ _ => rfl)) pa_nil)) pa_nil)) pa_nil)))))
     (pss_cons (ps_expr (pe_bm PySem.F.plainAttrs_list PySem.F.slot_list_append PySem.F.type_list_append mt_append (pv 3) (pa_cons (pv 5) pa_nil)))
     (pss_one (ps_expr (pe_bm PySem.F.plainAttrs_list PySem.F.slot_list_append PySem.F.type_list_append mt_append (pe_ix ix_list (pv 2) (pe_ix ix_tup (pv 0) (pe_op op_sub (pv 4) pe_int) (fun _ _ => rfl)) (fun _ _ => rfl)) (pa_cons (pv 5) pa_nil)))))))
     (pss_one (ps_ret (pe_tup (pa_cons (pe_callTy call_tuple_of rfl B.tuple_ bo_tuple (pa_cons (pe_revL (pv 3)) pa_nil)) (pa_cons (pe_slice sl_tupA (pe_cal c_merged hr (by first | decide | omega) rfl (pa_cons (pe_callTy call_tuple_of rfl B.tuple_ bo_tuple (pa_cons (pe_ix ix_list (pv 2) pe_int (fun _ _ => rfl)) pa_nil)) pa_nil)) po_none (po_some (pv 1))) pa_nil)))))))), ?_⟩
  refine ⟨_, rfl, a, _, rfl, .inr (SqT.of ha), _, _, rfl, rfl, _, rfl, ?_, ?_, ?_⟩
  · rw [nv_len]; omega
  · rw [nv_len]; omega
  have en : (((nv hs).length : Int) + 1).toNat = hs.length + 1 := by rw [nv_len]; omega
  rw [en]
  intro B nB
  refine lcNew nB (by omega) (fun _ => rfl) fun H1 As s1 hB hA nd hA2 => ?_
  refine ⟨Nat.zero_le _, fun Rw nR => ?_⟩
  have hRB : Rw ≠ B := fun e => by
    rw [e] at nR
    rw [nR] at hB
    cases hB
  have hRA : Rw ∉ As := fun e => by
    have := (hA2 _ e).2.1
    rw [nR] at this
    cases this
  have s2 : Same H1 (upd H1 Rw (.lst [])) := same_new nR _
  have b0 : BlR H1 B As (pend hs w' 0) := ⟨hB, nd, fun u b hu => ⟨(hA2 b (List.mem_of_getElem? hu)).2.2, [], (hA2 b (List.mem_of_getElem? hu)).2.1, RowsAt.nil⟩⟩
  have ha2 := (s1.trans s2) _ _ ha
  refine ⟨_, rfl, a, _, rfl, .inr (SqT.of ha2), _, rfl, _, _, _, _, rfl, RgC.neg (by rw [nv_len]; omega) (by rw [nv_len]; omega) (by decide) (by decide), ?_⟩
  have en2 : (((nv hs).length : Int) - 0).toNat = hs.length := by rw [nv_len]; omega
  rw [en2]
  refine for_rangeC (fun i σ' H' => Same H H' ∧ BlR H' B As (pend hs w' i) ∧ ∃ (rs : List Addr) (y4 y5 : Option V), H' Rw = some (.lst (refs rs)) ∧ RowsAt H' rs ((List.range i).map (rowI hs w')) ∧ σ' = [some (.ref a), some (.int (w' : Int)), some (.ref B), some (.ref Rw), y4, y5, none])
    ⟨s1.trans s2, b0.same s2, [], none, none, upd_same, RowsAt.nil, rfl⟩ (fun i σ' H' hi p => ?_) (fun σ' H' p => ?_)
  · obtain ⟨s3, bl, rs, y4, y5, hR, hrs, rfl⟩ := p
    have ev : (((nv hs).length : Int) + ((i : Nat) : Int) * -1) = ((hs.length - i : Nat) : Int) := by rw [nv_len]; omega
    rw [ev]
    have hv : hs.length - i < As.length := by omega
    have hAv := List.getElem?_eq_getElem hv
    obtain ⟨nav, ps, hps, rps⟩ := bl.it _ _ hAv
    refine ⟨_, rfl, _, rfl, _, rfl, B, _, _, _, rfl, rfl, SqL.of bl.at_, atI_nat (by unfold refs; rw [List.getElem?_map, hAv]; rfl), ?_⟩
    refine ⟨_, _, rfl, .inl ⟨SqL.of hps, fun t nt => ?_⟩⟩
    have s4 := same_new nt (.tup (refs ps))
    refine ⟨t, ps, _, rfl, upd_same, rps.same s4, fun l hl => ⟨((pend_rows hs w1 i _).2 l hl).1, ((pend_rows hs w1 i _).2 l hl).2.1⟩, ?_, ?_, fun m H2 s5 hm => ?_⟩
    · have := pend_flen hs w1 w2 (i := i) (by omega) (hs.length - i)
      omega
    · have := (pend_rows hs w1 i (hs.length - i)).1
      omega
    refine ⟨w', m, _, rfl, hm, w1, srt_dn _, Pz_srt (pend_pz hs w1 i _), ?_, fun r H3 s6 hr => ?_⟩
    · rw [(srt_perm _).length_eq]
      have := pend_flen hs w1 w2 (i := i) (by omega) (hs.length - i)
      omega
    have s7 := s4.trans (s5.trans s6)
    have hR3 := s7 _ _ hR
    refine ⟨_, rfl, .inl ⟨rfl, _, SqL.of hR3⟩, _, rfl, Rw, _, _, rfl, rfl, hR3, ?_, ?_⟩
    · rw [refs_len, hrs.1, List.length_map, List.length_range]
      exact sz_lt (by omega)
    have hp3 : par hs (hs.length - i) ≤ hs.length - i - 1 := par_lt hh (by omega)
    have hq : par hs (hs.length - i) < As.length := by omega
    have hAq := List.getElem?_eq_getElem hq
    have bl2 : BlR (upd H3 Rw (.lst (refs rs ++ [.ref r]))) B As (pend hs w' i) := (bl.same s7).other hR3 hRB hRA
    obtain ⟨naq, ps2, hps2, _⟩ := bl2.it _ _ hAq
    have hr2 : upd H3 Rw (.lst (refs rs ++ [.ref r])) r = some (.tup (nv (rowI hs w' i))) := by
      rw [upd_ne (ne_of hr hR3 (fun z => by cases z))]
      exact hr
    have ha3 : upd H3 Rw (.lst (refs rs ++ [.ref r])) a = some (.tup (nv hs)) := by
      have := (s3.trans s7) _ _ ha
      rw [upd_ne (ne_of this hR3 (fun z => by cases z))]
      exact this
    refine ⟨_, rfl, _, rfl, _, rfl, _, _, rfl, rfl, a, _, _, .int ((par hs (hs.length - i) : Nat) : Int), rfl, rfl, SqT.of ha3, ?_, ?_⟩
    · rw [show ((hs.length - i : Nat) : Int) - 1 = ((hs.length - i - 1 : Nat) : Int) by omega]
      exact nv_atI (par_at (hs := hs) (v := hs.length - i) (by omega) (by omega))
    refine ⟨B, _, _, .ref (As[par hs (hs.length - i)]'hq), rfl, rfl, SqL.of bl2.at_, atI_nat (by unfold refs; rw [List.getElem?_map, hAq]; rfl), .inl ⟨rfl, _, SqL.of hps2⟩, _, rfl, _, _, _, rfl, rfl, hps2, ?_, ?_⟩
    · rw [refs_len]
      obtain ⟨_, ps2', e2, r2⟩ := bl2.it _ _ hAq
      rw [hps2] at e2
      have e3 : refs ps2 = refs ps2' := by
        have := Option.some.inj e2
        injection this
      have e4 : ps2.length = ps2'.length := by rw [← refs_len, e3, refs_len]
      rw [e4, r2.1]
      have := (pend_rows hs w1 i (par hs (hs.length - i))).1
      exact sz_lt (by omega)
    have bl3 := bl2.add hAq hps2 hr2
    have hRq : Rw ≠ As[par hs (hs.length - i)] := fun e => hRA (by rw [e]; exact List.getElem_mem hq)
    refine ⟨?_, bl3, rs ++ [r], some (.int ((hs.length - i : Nat) : Int)), some (.ref r), ?_, ?_, rfl⟩
    · refine same_mut (same_mut (s3.trans s7) (s1.free nR)) (hA2 _ (List.getElem_mem hq)).1
    · rw [upd_ne hRq, upd_same]
      unfold refs
      rw [List.map_append]
      rfl
    · rw [List.range_succ, List.map_append]
      have r5 : RowsAt (upd H3 Rw (.lst (refs rs ++ [.ref r]))) (rs ++ [r]) ((List.range i).map (rowI hs w') ++ [rowI hs w' i]) := ((hrs.same s7).updL hR3).snoc hr2
      exact r5.updL hps2
  · obtain ⟨s3, bl, rs, y4, y5, hR, hrs, rfl⟩ := p
    have h0 : 0 < As.length := by omega
    have hA0 := List.getElem?_eq_getElem h0
    obtain ⟨na0, ps, hps, rps⟩ := bl.it _ _ hA0
    refine ⟨_, rfl, Rw, _, rfl, SqL.of hR, fun R2 nR2 => ?_⟩
    have s4 := same_new nR2 (.lst (refs rs).reverse)
    refine ⟨R2, _, rfl, .inl ⟨SqL.of upd_same, fun T nT => ?_⟩⟩
    have s5 := s4.trans (same_new nT (.tup (refs rs).reverse))
    have hT : upd (upd H' R2 (.lst (refs rs).reverse)) T (.tup (refs rs).reverse) T = some (.tup (refs rs.reverse)) := by
      rw [upd_same, refs_rev]
    refine ⟨_, rfl, B, _, _, _, rfl, rfl, SqL.of (s5 _ _ bl.at_), atI_nat (j := 0) (by unfold refs; rw [List.getElem?_map, hA0]; rfl), ?_⟩
    refine ⟨_, _, rfl, .inl ⟨SqL.of (s5 _ _ hps), fun t nt => ?_⟩⟩
    have s6 := s5.trans (same_new nt (.tup (refs ps)))
    refine ⟨t, ps, _, rfl, upd_same, rps.same s6, fun l hl => ⟨((pend_rows hs w1 _ _).2 l hl).1, ((pend_rows hs w1 _ _).2 l hl).2.1⟩, ?_, ?_, fun m H2 s7 hm => ?_⟩
    · have := pend_flen hs w1 w2 hn 0
      omega
    · have := (pend_rows hs w1 hs.length 0).1
      omega
    have fin : ∀ (r : Addr) (H3 : Hp), Same H2 H3 → H3 r = some (.tup (nv (rowT hs w'))) → [V.ref T, V.ref r].length ≤ sizeLine ∧ ∀ p, H3 p = none → Q (.ref p) (upd H3 p (.tup [.ref T, .ref r])) := fun r H3 s8 hr => by
      refine ⟨by show 2 ≤ sizeLine; decide, fun p np => ?_⟩
      have s9 := same_new np (.tup [.ref T, .ref r])
      have sA : Same (upd (upd H' R2 (.lst (refs rs).reverse)) T (.tup (refs rs).reverse)) (upd H3 p (.tup [.ref T, .ref r])) := (same_new nt (.tup (refs ps))).trans (s7.trans (s8.trans s9))
      refine q p T r rs.reverse _ (s3.trans (s5.trans sA)) upd_same (sA _ _ hT) ?_ (s9 _ _ hr)
      have := (hrs.same (s5.trans sA)).rev
      exact this
    refine ⟨_, rfl, _, rfl, m, _, rfl, SqT.of hm, fun hwh => ?_, fun hnw r nr => ?_⟩
    · refine fin m H2 (Same.refl _) ?_
      rw [hm]
      congr 2
      unfold rowT
      have h2 := hwh.2
      rw [HT.sIx_nat, nv_len] at h2
      rw [List.take_of_length_le (by omega)]
    · refine fin r _ (same_new nr _) ?_
      rw [upd_same, cut_take]
      rfl
end K67
set_option maxHeartbeats 1000000
namespace K67
open PySem PySem.Spec PyProof.Rows L2
/-! ### weights -/
/-- the row of the whole, its number -/
theorem rowT_nn (hs : List Nat) (w : Nat) : Nn w (rowT hs w) = Wt w mAll (foAll hs) := by
  unfold rowT
  rw [Nn_take, pend_flat]
  rfl
theorem rowT_dn (hs : List Nat) (w : Nat) : Dn (rowT hs w) := dn_take _ (srt_dn _)
theorem rowT_pz (hs : List Nat) {w : Nat} (hw : 1 ≤ w) : Pz (rowT hs w) := fun x hx => Pz_srt (pend_pz hs hw _ _) x (List.mem_of_mem_take hx)
theorem rowT_len (hs : List Nat) (w : Nat) : (rowT hs w).length ≤ w := by
  unfold rowT
  rw [List.length_take]
  omega
/-- a member is at most the number of the versions -/
theorem mem_le_nn {w x : Nat} : ∀ {l : List Nat}, Dn l → x ∈ l → x ≤ Nn (w + 1) l
  | [], _, h => by cases h
  | a :: l, hd, h => by
    have h1 : x ≤ a := by
      rcases List.mem_cons.mp h with q | q
      · omega
      · exact hd.1 x q
    have h2 := Nn_ge w a l
    have h3 : a ≤ Cb (a + w) (w + 1) := by
      cases a with
      | zero => exact Nat.zero_le _
      | succ a =>
        clear h1 h2 h hd
        induction a with
        | zero => exact Cb_pos _ _ (by omega)
        | succ a ih =>
          have := Cb_lt (a + 1 + w) w (by omega)
          rw [show a + 1 + 1 + w = (a + 1 + w) + 1 by omega]
          omega
    omega
theorem wt_le (hs : List Nat) (hh : Hist hs) (w : Nat) : Wt (w + 1) mAll (foAll hs) ≤ hs.length := by
  have := Wt_le w mAll (foAll hs)
  have h2 := (all_perm hh).length_eq
  rw [List.length_range'] at h2
  have h3 : (ids (foAll hs)).countP mAll ≤ (ids (foAll hs)).length := List.countP_le_length
  omega
theorem rowT_le {hs : List Nat} (hh : Hist hs) {w : Nat} (hw : 1 ≤ w) : ∀ x ∈ rowT hs w, x ≤ hs.length := fun x hx => by
  obtain ⟨k, rfl⟩ : ∃ k, w = k + 1 := ⟨w - 1, by omega⟩
  have h1 := mem_le_nn (w := k) (rowT_dn hs (k + 1)) hx
  rw [rowT_nn] at h1
  exact Nat.le_trans h1 (wt_le hs hh k)
def lrV (hs : List Nat) (w : Nat) : Nat := (rowT hs w).headD 0
def HistAt (H : Hp) (a : Addr) (hs : List Nat) : Prop := H a = some (.tup (nv hs)) ∧ Hist hs ∧ hs.length ≤ 45
theorem HistAt.same {H H' : Hp} {a : Addr} {hs : List Nat} (h : HistAt H a hs) (s : Same H H') : HistAt H' a hs := ⟨s _ _ h.1, h.2⟩
def spHW (r : List Nat → Nat → V) : Sp := fun vs H Q _ => ∃ (a : Addr) (hs : List Nat) (w : Nat), vs = [.ref a, .int (w : Int)] ∧ HistAt H a hs ∧ 1 ≤ w ∧ w ≤ 1000 ∧ ∀ H', Same H H' → Q (r hs w) H'
theorem sc_forest_weight : FnScope ["history", "width", "_", "row"] ["history", "width"] (defScope s_forest_weight) := ⟨rfl, rfl, rfl, by decide +kernel, rfl, by decide +kernel, by decide +kernel⟩
theorem ok_forest_weight {P : Program} {w : World} {K : PySem.W.Frag} {mg : Str → Option Value} {base : Heap} (D : Dfn K mg "forest_weight" s_forest_weight) (B : Bn mg) (c__rows_within : Cal P w K mg base 5 "_rows_within" ["history", "width"] spRW) (c_number_of : Cal P w K mg base 5 "number_of" ["width", "row"] spNum) (c_is_natural : Cal P w K mg base 2 "is_natural" ["thing"] (spI1 (fun n => 1 ≤ n) fun _ => .bl true))   : Cal P w K mg base 6 "forest_weight" ["history", "width"] (spHW fun hs w => .int ((Wt w mAll (foAll hs) : Nat) : Int)) := by
  refine D.cal sc_forest_weight (fun vs H Q E h => ?_) (fun _ _ _ _ _ _ us hl => match us, hl with | [_, _], _ => rfl) (fun f cdv A outer s H vs Q E hr h => ?_)
  · obtain ⟨_, _, _, rfl, _⟩ := h
    rfl
  obtain ⟨a, hs, w', rfl, ⟨ha, hh, hn⟩, w1, w2, q⟩ := h
  refine ⟨_, (pss_cons (ps_if (pt_not (pt_val (pe_cal c_is_natural hr (by first | decide | omega) rfl (pa_cons (pv 1) pa_nil))))
     (pss_one ps_never)
     pss_nil)
     (pss_cons (ps_asg (pe_cal c__rows_within hr (by first | decide | omega) rfl (pa_cons (pv 0) (pa_cons (pv 1) pa_nil))) (pg_tup rfl (pgs_cons (pg_name (i := 2) sc_forest_weight.nd rfl (.inl rfl)) (pgs_cons (pg_name (i := 3) sc_forest_weight.nd rfl (.inl rfl)) pgs_nil))))
     (pss_one (ps_ret (pe_cal c_number_of hr (by first | decide | omega) rfl (pa_cons (pv 1) (pa_cons (pv 3) pa_nil))))))), ?_⟩
  refine ⟨_, rfl, _, rfl, by omega, true, rfl, iteF ?_⟩
  refine ⟨_, rfl, _, rfl, a, hs, w', rfl, ha, hh, hn, w1, w2, fun p q1 r ps H1 s1 hp hq hps hr => ?_⟩
  refine ⟨p, _, rfl, SqT.of hp, rfl, _, _, rfl, _, _, rfl, rfl, ?_⟩
  refine ⟨_, rfl, _, rfl, w', r, rowT hs w', rfl, hr, w1, rowT_dn _ _, rowT_pz _ w1, rowT_len _ _, by omega, fun x hx => by have := rowT_le hh w1 x hx; omega, fun H2 s2 => ?_⟩
  rw [rowT_nn]
  exact q H2 (s1.trans s2)
theorem sc_least_reach : FnScope ["history", "width", "_", "row"] ["history", "width"] (defScope s_least_reach) := ⟨rfl, rfl, rfl, by decide +kernel, rfl, by decide +kernel, by decide +kernel⟩
theorem ok_least_reach {P : Program} {w : World} {K : PySem.W.Frag} {mg : Str → Option Value} {base : Heap} (D : Dfn K mg "least_reach" s_least_reach) (B : Bn mg) (c__rows_within : Cal P w K mg base 5 "_rows_within" ["history", "width"] spRW) (c_is_natural : Cal P w K mg base 2 "is_natural" ["thing"] (spI1 (fun n => 1 ≤ n) fun _ => .bl true))   : Cal P w K mg base 6 "least_reach" ["history", "width"] (spHW fun hs w => .int ((lrV hs w : Nat) : Int)) := by
  refine D.cal sc_least_reach (fun vs H Q E h => ?_) (fun _ _ _ _ _ _ us hl => match us, hl with | [_, _], _ => rfl) (fun f cdv A outer s H vs Q E hr h => ?_)
  · obtain ⟨_, _, _, rfl, _⟩ := h
    rfl
  obtain ⟨a, hs, w', rfl, ⟨ha, hh, hn⟩, w1, w2, q⟩ := h
  refine ⟨_, (pss_cons (ps_if (pt_not (pt_val (pe_cal c_is_natural hr (by first | decide | omega) rfl (pa_cons (pv 1) pa_nil))))
     (pss_one ps_never)
     pss_nil)
     (pss_cons (ps_asg (pe_cal c__rows_within hr (by first | decide | omega) rfl (pa_cons (pv 0) (pa_cons (pv 1) pa_nil))) (pg_tup rfl (pgs_cons (pg_name (i := 2) sc_least_reach.nd rfl (.inl rfl)) (pgs_cons (pg_name (i := 3) sc_least_reach.nd rfl (.inl rfl)) pgs_nil))))
     (pss_one (ps_ret (pe_ifExp (pt_truth (pv 3) (by intro _; rfl)) (pe_ix ix_tup (pv 3) pe_int (fun _ _ => rfl)) pe_int))))), ?_⟩
  refine ⟨_, rfl, _, rfl, by omega, true, rfl, iteF ?_⟩
  refine ⟨_, rfl, _, rfl, a, hs, w', rfl, ha, hh, hn, w1, w2, fun p q1 r ps H1 s1 hp hq hps hr => ?_⟩
  refine ⟨p, _, rfl, SqT.of hp, rfl, _, _, rfl, _, _, rfl, rfl, ?_⟩
  have qq : Q (.int (((rowT hs w').headD 0 : Nat) : Int)) H1 := q H1 s1
  cases e : rowT hs w' with
  | nil =>
    rw [e] at hr qq
    exact ⟨_, rfl, false, .inr (.inl ⟨_, SqT.of hr, rfl⟩), iteF qq⟩
  | cons x m =>
    rw [e] at hr qq
    exact ⟨_, rfl, true, .inr (.inl ⟨_, SqT.of hr, rfl⟩), iteT ⟨_, rfl, r, _, _, _, rfl, rfl, SqT.of hr, nv_atI (i := 0) (l := x :: m) rfl, qq⟩⟩
def spFits : Sp := fun vs H Q _ => ∃ (a : Addr) (hs : List Nat) (w r : Nat), vs = [.ref a, .int (w : Int), .int (r : Int)] ∧ HistAt H a hs ∧ 1 ≤ w ∧ w ≤ 1000 ∧ 1 ≤ r ∧ r ≤ 1000 ∧ ∀ H', Same H H' → Q (.bl (decide (Wt w mAll (foAll hs) < Cb (w + r) r))) H'
theorem sc_fits_level : FnScope ["history", "width", "reach"] ["history", "width", "reach"] (defScope s_fits_level) := ⟨rfl, rfl, rfl, by decide +kernel, rfl, by decide +kernel, by decide +kernel⟩
theorem ok_fits_level {P : Program} {w : World} {K : PySem.W.Frag} {mg : Str → Option Value} {base : Heap} (D : Dfn K mg "fits_level" s_fits_level) (B : Bn mg) (c_is_natural : Cal P w K mg base 2 "is_natural" ["thing"] (spI1 (fun n => 1 ≤ n) fun _ => .bl true)) (c_forest_weight : Cal P w K mg base 6 "forest_weight" ["history", "width"] (spHW fun hs w => .int ((Wt w mAll (foAll hs) : Nat) : Int))) (c_capacity : Cal P w K mg base 3 "capacity" ["width", "reach"] (spC (fun w r => Cb (w + r) r) fun w r => 1 ≤ w ∧ 1 ≤ r ∧ w + r ≤ 18000))   : Cal P w K mg base 7 "fits_level" ["history", "width", "reach"] spFits := by
  refine D.cal sc_fits_level (fun vs H Q E h => ?_) (fun _ _ _ _ _ _ us hl => match us, hl with | [_, _, _], _ => rfl) (fun f cdv A outer s H vs Q E hr h => ?_)
  · obtain ⟨_, _, _, _, rfl, _⟩ := h
    rfl
  obtain ⟨a, hs, w', r, rfl, hA, w1, w2, r1, r2, q⟩ := h
  refine ⟨_, (pss_cons (ps_if (pt_not (pt_val (pe_cal c_is_natural hr (by first | decide | omega) rfl (pa_cons (pv 1) pa_nil))))
     (pss_one ps_never)
     pss_nil)
     (pss_cons (ps_if (pt_not (pt_val (pe_cal c_is_natural hr (by first | decide | omega) rfl (pa_cons (pv 2) pa_nil))))
     (pss_one ps_never)
     pss_nil)
     (pss_one (ps_ret (pe_cmpR op_lt (pe_cal c_forest_weight hr (by first | decide | omega) rfl (pa_cons (pv 0) (pa_cons (pv 1) pa_nil))) (pe_cal c_capacity hr (by first | decide | omega) rfl (pa_cons (pv 1) (pa_cons (pv 2) pa_nil))) (nomark _)))))), ?_⟩
  refine ⟨_, rfl, _, rfl, by omega, true, rfl, iteF ?_⟩
  refine ⟨_, rfl, _, rfl, by omega, true, rfl, iteF ?_⟩
  refine ⟨_, rfl, _, rfl, a, hs, w', rfl, hA, w1, w2, fun H1 s1 => ?_⟩
  refine ⟨_, rfl, _, rfl, w', r, rfl, ⟨w1, r1, by omega⟩, _, _, rfl, rfl, ?_⟩
  have qq := q H1 s1
  by_cases c : Wt w' mAll (foAll hs) < Cb (w' + r) r
  · rw [dT c] at qq
    exact qT (dT (show ((Wt w' mAll (foAll hs) : Nat) : Int) < ((Cb (w' + r) r : Nat) : Int) by omega)) qq
  · rw [dF c] at qq
    exact qF (dF (show ¬ ((Wt w' mAll (foAll hs) : Nat) : Int) < ((Cb (w' + r) r : Nat) : Int) by omega)) qq
/-- the least width from 1 on with which the least reach is at most r -/
def LW (hs : List Nat) (r w : Nat) : Prop := 1 ≤ w ∧ lrV hs w ≤ r ∧ ∀ u, 1 ≤ u → u < w → r < lrV hs u
def spLW : Sp := fun vs H Q _ => ∃ (a : Addr) (hs : List Nat) (r w : Nat), vs = [.ref a, .int (r : Int)] ∧ HistAt H a hs ∧ 1 ≤ r ∧ LW hs r w ∧ w ≤ 900 ∧ ∀ H', Same H H' → Q (.int (w : Int)) H'
theorem sc_least_width : FnScope ["history", "reach", "width"] ["history", "reach"] (defScope s_least_width) := ⟨rfl, rfl, rfl, by decide +kernel, rfl, by decide +kernel, by decide +kernel⟩
theorem ok_least_width {P : Program} {w : World} {K : PySem.W.Frag} {mg : Str → Option Value} {base : Heap} (D : Dfn K mg "least_width" s_least_width) (B : Bn mg) (c_is_natural : Cal P w K mg base 2 "is_natural" ["thing"] (spI1 (fun n => 1 ≤ n) fun _ => .bl true)) (c_least_reach : Cal P w K mg base 6 "least_reach" ["history", "width"] (spHW fun hs w => .int ((lrV hs w : Nat) : Int)))   : Cal P w K mg base 7 "least_width" ["history", "reach"] spLW := by
  refine D.cal sc_least_width (fun vs H Q E h => ?_) (fun _ _ _ _ _ _ us hl => match us, hl with | [_, _], _ => rfl) (fun f cdv A outer s H vs Q E hr h => ?_)
  · obtain ⟨_, _, _, _, rfl, _⟩ := h
    rfl
  obtain ⟨a, hs, r, w', rfl, hA, r1, ⟨w1, w2, w3⟩, w4, q⟩ := h
  refine ⟨_, (pss_cons (ps_if (pt_not (pt_val (pe_cal c_is_natural hr (by first | decide | omega) rfl (pa_cons (pv 1) pa_nil))))
     (pss_one ps_never)
     pss_nil)
     (pss_cons (ps_set (i := 2) sc_least_width.nd rfl (.inl rfl) pe_int)
     (pss_cons (ps_while PassesOwn.never (pt_cmpR op_gt (pe_cal c_least_reach hr (by first | decide | omega) rfl (pa_cons (pv 0) (pa_cons (pv 2) pa_nil))) (pv 1) (nomark _))
     (pss_one (ps_aug (i := 2) sc_least_width.nd rfl (.inl rfl) pe_int ip_add)))
     (pss_one (ps_ret (pv 2)))))), ?_⟩
  refine ⟨_, rfl, _, rfl, by omega, true, rfl, iteF ?_⟩
  refine ⟨fun m σ' H' => Same H H' ∧ ∃ u : Nat, σ' = [some (.ref a), some (.int (r : Int)), some (.int (u : Int))] ∧ 1 ≤ u ∧ u ≤ w' ∧ m = w' - u, ⟨_, Same.refl _, 1, rfl, Nat.le_refl _, w1, rfl⟩, ?_⟩
  rintro m σ' H' ⟨s1, u, rfl, u1, u2, rfl⟩
  refine ⟨_, rfl, _, rfl, a, hs, u, rfl, hA.same s1, u1, by omega, fun H1 s2 => ⟨_, rfl, _, _, rfl, rfl, _, rfl, ?_⟩⟩
  by_cases c : r < lrV hs u
  · have hne : u ≠ w' := fun e => by
      rw [e] at c
      omega
    refine iteTb (dT (by omega)) ⟨_, fun σ2 H2 hN => hN, _, rfl, _, _, rfl, rfl, w' - (u + 1), by omega, s1.trans s2, u + 1, rfl, by omega, by omega, rfl⟩
  · have e : u = w' := by
      by_cases c2 : u < w'
      · exact absurd (w3 u u1 c2) c
      · omega
    subst e
    exact iteFb (dF (by omega)) ⟨_, rfl, q H1 (s1.trans s2)⟩
/-- the numbers of the rows of 1 to n -/
def wtsL (hs : List Nat) (w : Nat) : List Nat := (rowsL hs w).map (Nn w)
def spWts : Sp := fun vs H Q _ => ∃ (a : Addr) (hs : List Nat) (w : Nat), vs = [.ref a, .int (w : Int)] ∧ HistAt H a hs ∧ 1 ≤ w ∧ w ≤ 1000 ∧ (∀ l ∈ rowsL hs w, ∀ x ∈ l, x ≤ 10000) ∧ NT Q H (nv (wtsL hs w))
theorem sc_weights_of : FnScope ["history", "width", "rows", "_", "row"] ["history", "width"] (defScope s_weights_of) := ⟨rfl, rfl, rfl, by decide +kernel, rfl, by decide +kernel, by decide +kernel⟩
theorem ok_weights_of {P : Program} {w : World} {K : PySem.W.Frag} {mg : Str → Option Value} {base : Heap} (D : Dfn K mg "weights_of" s_weights_of) (B : Bn mg) (c__rows_within : Cal P w K mg base 5 "_rows_within" ["history", "width"] spRW) (c_is_natural : Cal P w K mg base 2 "is_natural" ["thing"] (spI1 (fun n => 1 ≤ n) fun _ => .bl true)) (c_number_of : Cal P w K mg base 5 "number_of" ["width", "row"] spNum)   : Cal P w K mg base 6 "weights_of" ["history", "width"] spWts := by
  refine D.cal sc_weights_of (fun vs H Q E h => ?_) (fun _ _ _ _ _ _ us hl => match us, hl with | [_, _], _ => rfl) (fun f cdv A outer s H vs Q E hr h => ?_)
  · obtain ⟨_, _, _, rfl, _⟩ := h
    rfl
  obtain ⟨a, hs, w', rfl, ⟨ha, hh, hn⟩, w1, w2, hb, q⟩ := h
  refine ⟨_, (pss_cons (ps_if (pt_not (pt_val (pe_cal c_is_natural hr (by first | decide | omega) rfl (pa_cons (pv 1) pa_nil))))
     (pss_one ps_never)
     pss_nil)
     (pss_cons (ps_asg (pe_cal c__rows_within hr (by first | decide | omega) rfl (pa_cons (pv 0) (pa_cons (pv 1) pa_nil))) (pg_tup rfl (pgs_cons (pg_name (i := 2) sc_weights_of.nd rfl (.inl rfl)) (pgs_cons (pg_name (i := 3) sc_weights_of.nd rfl (.inl rfl)) pgs_nil))))
     (pss_one (ps_ret (pe_callTy call_tuple_of rfl B.tuple_ bo_tuple (pa_cons (pe_lc (own := [("row", 4)]) (g := (gName 4)) (tt := tYes) rfl sc_weights_of.nd (pi_tup (pv 2)) (blkOk_by (own := [("row", 4)]) (N := ["history", "width", "rows", "_", "row"]) (sc := defScope s_weights_of) (by decide +kernel)) (fun _ _ _ _ _ => (pg_name (i := 4) sc_weights_of.nd rfl (.inl rfl))) (fun _ _ _ _ _ => pts_nil) (fun _ _ _ _ _ => (pe_cal c_number_of hr (by first | decide | omega) rfl (pa_cons (pv 1) (pa_cons (pv 4) pa_nil))))) pa_nil)))))), ?_⟩
  refine ⟨_, rfl, _, rfl, by omega, true, rfl, iteF ?_⟩
  refine ⟨_, rfl, _, rfl, a, hs, w', rfl, ha, hh, hn, w1, w2, fun p q1 r ps H1 s1 hp hq hps hr => ?_⟩
  refine ⟨p, _, rfl, SqT.of hp, rfl, _, _, rfl, _, _, rfl, rfl, ?_⟩
  have hl : (rowsL hs w').length = hs.length := by
    unfold rowsL
    rw [List.length_reverse, List.length_map, List.length_range]
  refine ⟨_, rfl, q1, rfl, ⟨_, SqT.of hq⟩, fun D1 n1 => lcT (nv (wtsL hs w')) hq n1 ?_ ?_ (fun i x y H' hx hy s2 R hR => ?_) fun H2 s2 d2 => ?_⟩
  · rw [nv_len, refs_len, hps.1]
    unfold wtsL
    rw [List.length_map]
  · rw [refs_len, hps.1, hl]
    omega
  · obtain ⟨t, ht, rfl⟩ := refs_get hx
    have hi : i < (rowsL hs w').length := by rw [← hps.1]; exact (List.getElem?_eq_some_iff.mp ht).1
    have hli := List.getElem?_eq_getElem hi
    have hm := List.getElem_mem hi
    have ey : y = .int ((Nn w' (rowsL hs w')[i] : Nat) : Int) := by
      have : (nv (wtsL hs w'))[i]? = some (.int ((Nn w' (rowsL hs w')[i] : Nat) : Int)) := nv_at (by unfold wtsL; rw [List.getElem?_map, hli]; rfl)
      rw [this] at hy
      exact (Option.some.inj hy).symm
    subst ey
    have hrow : Dn (rowsL hs w')[i] ∧ Pz (rowsL hs w')[i] ∧ (rowsL hs w')[i].length ≤ w' := by
      have hm2 : (rowsL hs w')[i] ∈ (List.range hs.length).map (rowI hs w') := List.mem_reverse.mp hm
      obtain ⟨k, _, ek⟩ := List.mem_map.mp hm2
      rw [← ek]
      exact ⟨stp_dn (srt_dn _), stp_pz (Pz_srt (pend_pz hs w1 _ _)), stp_len (srt_dn _) w1⟩
    refine ⟨rfl, _, rfl, _, rfl, w', t, _, rfl, s2 _ _ (hps.2 i t _ ht hli), w1, hrow.1, hrow.2.1, hrow.2.2, by omega, hb _ hm, fun H'' s3 => hR H'' s3⟩
  · exact ⟨D1, _, rfl, .inl ⟨SqL.of d2, fun t nt => q t _ (s1.trans (s2.trans (same_new nt _))) upd_same⟩⟩
def spLvB : Sp := fun vs H Q _ => ∃ (a : Addr) (hs : List Nat) (w r : Nat), vs = [.ref a, .int (w : Int), .int (r : Int)] ∧ HistAt H a hs ∧ 1 ≤ w ∧ w ≤ 999 ∧ 1 ≤ r ∧ r ≤ 999 ∧ ∀ (b : Addr) (H' : Hp), Same H H' → LB H' b hs.length w r → Q (.ref b) H'
theorem sc_level_bounds : FnScope ["history", "width", "reach", "_"] ["history", "width", "reach"] (defScope s_level_bounds) := ⟨rfl, rfl, rfl, by decide +kernel, rfl, by decide +kernel, by decide +kernel⟩
theorem ok_level_bounds {P : Program} {w : World} {K : PySem.W.Frag} {mg : Str → Option Value} {base : Heap} (D : Dfn K mg "level_bounds" s_level_bounds) (B : Bn mg) (c_up_to : Cal P w K mg base 3 "up_to" ["thing", "greatest"] (spI2 (fun n m => 1 ≤ n ∧ n ≤ m) fun _ _ => .bl true))   : Cal P w K mg base 4 "level_bounds" ["history", "width", "reach"] spLvB := by
  refine D.cal sc_level_bounds (fun vs H Q E h => ?_) (fun _ _ _ _ _ _ us hl => match us, hl with | [_, _, _], _ => rfl) (fun f cdv A outer s H vs Q E hr h => ?_)
  · obtain ⟨_, _, _, _, rfl, _⟩ := h
    rfl
  obtain ⟨a, hs, w', r, rfl, ⟨ha, hh, hn⟩, w1, w2, r1, r2, q⟩ := h
  refine ⟨_, (pss_cons (ps_if (pt_not (pt_val (pe_cal c_up_to hr (by first | decide | omega) rfl (pa_cons (pv 1) (pa_cons (pe_glob (v := .int 999) rfl B.gb.choose_spec ⟨_, rfl⟩) pa_nil)))))
     (pss_one ps_never)
     pss_nil)
     (pss_cons (ps_if (pt_not (pt_val (pe_cal c_up_to hr (by first | decide | omega) rfl (pa_cons (pv 2) (pa_cons (pe_glob (v := .int 999) rfl B.gb.choose_spec ⟨_, rfl⟩) pa_nil)))))
     (pss_one ps_never)
     pss_nil)
     (pss_one (ps_ret (pe_tup (pa_cons (pv 2) (pa_cons (pe_callTy call_tuple_of rfl B.tuple_ bo_tuple (pa_cons (pe_lc (own := [("_", 3)]) (g := (gName 3)) (tt := tYes) rfl sc_level_bounds.nd (pi_tup (pv 0)) (blkOk_by (own := [("_", 3)]) (N := ["history", "width", "reach", "_"]) (sc := defScope s_level_bounds) (by decide +kernel)) (fun _ _ _ _ _ => (pg_name (i := 3) sc_level_bounds.nd rfl (.inl rfl))) (fun _ _ _ _ _ => pts_nil) (fun _ _ _ _ _ => (pe_tup (pa_cons (pv 1) (pa_cons (pv 2) pa_nil))))) pa_nil)) pa_nil))))))), ?_⟩
  refine ⟨_, rfl, _, _, rfl, ⟨by omega, by omega⟩, true, rfl, iteF ?_⟩
  refine ⟨_, rfl, _, _, rfl, ⟨by omega, by omega⟩, true, rfl, iteF ?_⟩
  refine ⟨_, rfl, _, rfl, a, rfl, ⟨_, SqT.of ha⟩, fun D1 n1 => lc_tup (xs := nv hs) (fun i H' => Same H H' ∧ ∃ qs : List Addr, H' D1 = some (.lst (refs qs)) ∧ qs.length = i ∧ ∀ q ∈ qs, H' q = some (.tup [.int (w' : Int), .int (r : Int)])) ⟨same_new n1 _, [], upd_same, rfl, fun _ h => (nomatch h)⟩ (fun i H' _ p => SqT.of (p.1 _ _ ha)) (fun i x H' hi p => ?_) fun H' p => ?_⟩
  · obtain ⟨s1, qs, h1, h2, h3⟩ := p
    have hi' := (List.getElem?_eq_some_iff.mp hi).1
    rw [nv_len] at hi'
    refine ⟨rfl, ?_⟩
    unfold tYes
    dsimp only
    rw [if_pos rfl]
    refine ⟨_, rfl, _, rfl, by show 2 ≤ sizeLine; decide, fun t nt => ⟨refs qs, ?_, sz_lt (by rw [refs_len]; omega), same_mut (s1.trans (same_new nt _)) n1, qs ++ [t], ?_, by rw [List.length_append, h2]; rfl, ?_⟩⟩
    · rw [upd_ne (ne_of_none h1 nt)]
      exact h1
    · rw [upd_same]
      unfold refs
      rw [List.map_append]
      rfl
    · intro q hq
      have htD : t ≠ D1 := fun e => by
        rw [e, h1] at nt
        cases nt
      rcases List.mem_append.mp hq with hq | hq
      · have g := h3 q hq
        rw [upd_ne (ne_of g h1 (fun z => by cases z)), upd_ne (ne_of_none g nt)]
        exact g
      · rw [List.mem_singleton.mp hq, upd_ne htD]
        exact upd_same
  · obtain ⟨s1, qs, h1, h2, h3⟩ := p
    rw [nv_len] at h2
    refine ⟨D1, _, rfl, .inl ⟨SqL.of h1, fun t nt => ?_⟩⟩
    have s2 := same_new nt (.tup (refs qs))
    refine ⟨by show 2 ≤ sizeLine; decide, fun b nb => ?_⟩
    have s3 := same_new nb (.tup [.int (r : Int), .ref t])
    exact q b _ (s1.trans (s2.trans s3)) ⟨t, qs, upd_same, s3 _ _ upd_same, h2, fun q hq => s3 _ _ (s2 _ _ (h3 q hq))⟩
end K67
set_option maxHeartbeats 1000000
namespace K67
open PySem PySem.Spec PyProof.Rows L2
/-! ### bits by version -/
theorem iEq {a b : Int} : decide (V.int a = V.int b) = decide (a = b) := by
  by_cases c : a = b
  · subst c
    rw [dT rfl, dT rfl]
  · rw [dF c, dF (fun z => c (by injection z))]
def bv (n : Nat) (m : Nat → Bool) : List V := (List.range n).map fun v => V.bl (m v)
theorem bv_len (n : Nat) (m : Nat → Bool) : (bv n m).length = n := by
  unfold bv
  rw [List.length_map, List.length_range]
theorem bv_at {n : Nat} {m : Nat → Bool} {i : Nat} (h : i < n) : (bv n m)[i]? = some (.bl (m i)) := by
  unfold bv
  rw [List.getElem?_map, List.getElem?_range h]
  rfl
theorem bv_set {n : Nat} {m : Nat → Bool} {i : Nat} (h : i < n) : (bv n m).set i (.bl true) = bv n (fun v => if v = i then true else m v) := by
  refine List.ext_getElem? fun j => ?_
  rw [List.getElem?_set]
  by_cases c : j < n
  · by_cases e : i = j
    · subst e
      rw [if_pos rfl, if_pos (by rw [bv_len]; exact h), bv_at h, if_pos rfl]
    · rw [if_neg e, bv_at c, bv_at c, if_neg (fun z => e z.symm)]
  · rw [List.getElem?_eq_none (l := bv n _) (by rw [bv_len]; omega), List.getElem?_eq_none (by rw [bv_len]; omega)]
    by_cases e : i = j
    · omega
    · rw [if_neg e]
theorem bv_rep (n : Nat) (c : Bool) : (List.replicate n [V.bl c]).flatten = bv n (fun _ => c) := by
  unfold bv
  induction n with
  | zero => rfl
  | succ n ih =>
    rw [List.replicate_succ', List.flatten_append, ih, List.range_succ, List.map_append]
    rfl
theorem bv_eq {n : Nat} {m m' : Nat → Bool} (h : ∀ i, i < n → m i = m' i) : bv n m = bv n m' := by
  unfold bv
  refine List.map_congr_left fun i hi => ?_
  rw [h i (List.mem_range.mp hi)]
/-! ### all versions, bounds looked over -/
def spAllV : Sp := fun vs H Q _ => ∃ (a : Addr) (hs : List Nat), vs = [.ref a] ∧ H a = some (.tup (nv hs)) ∧ hs.length ≤ 50000 ∧ NT Q H (nv (List.range' 1 hs.length))
theorem rgV_nat (n : Nat) : rgV 1 ((n : Int) + 1) = nv (List.range' 1 n) := by
  unfold rgV nv
  rw [show (((n : Int) + 1) - 1).toNat = n by omega, List.range'_eq_map_range, List.map_map]
  refine List.map_congr_left fun i _ => ?_
  show V.int (1 + (i : Int)) = V.int ((1 + i : Nat) : Int)
  exact int_eq (by omega)
theorem sc_all_versions : FnScope ["history"] ["history"] (defScope s_all_versions) := ⟨rfl, rfl, rfl, by decide +kernel, rfl, by decide +kernel, by decide +kernel⟩
theorem ok_all_versions {P : Program} {w : World} {K : PySem.W.Frag} {mg : Str → Option Value} {base : Heap} (D : Dfn K mg "all_versions" s_all_versions) (B : Bn mg)    : Cal P w K mg base 1 "all_versions" ["history"] spAllV := by
  refine D.cal sc_all_versions (fun vs H Q E h => ?_) (fun _ _ _ _ _ _ us hl => match us, hl with | [_], _ => rfl) (fun f cdv A outer s H vs Q E hr h => ?_)
  · obtain ⟨_, _, rfl, _⟩ := h
    rfl
  obtain ⟨a, hs, rfl, ha, hz, q⟩ := h
  refine ⟨_, (pss_one (ps_ret (pe_tupRg rfl rfl B.tuple_ (prg_2 rfl B.range_ pe_int (pe_op op_add (pe_callB call_len_seq rfl B.len_ bo_len (pa_cons (pv 0) pa_nil)) pe_int))))), ?_⟩
  refine ⟨_, rfl, a, _, rfl, .inr (SqT.of ha), _, _, rfl, rfl, 1, _, rfl, rfl, ?_, fun p np => ?_⟩
  · rw [nv_len]
    exact ⟨by decide, by decide, by omega, by omega, by omega⟩
  · rw [nv_len, rgV_nat]
    exact q p _ (same_new np _) upd_same
/-- level bounds made for the history -/
def spBF : Sp := fun vs H Q _ => ∃ (a b : Addr) (hs : List Nat) (w r : Nat), vs = [.ref a, .ref b] ∧ H a = some (.tup (nv hs)) ∧ LB H b hs.length w r ∧ hs.length ≤ 50000 ∧ 1 ≤ w ∧ w ≤ 999 ∧ 1 ≤ r ∧ r ≤ 999 ∧ ∀ H', Same H H' → Q .non H'
theorem sc_bound_fault : FnScope ["history", "thing", "roof", "pairs", "k", "pair"] ["history", "thing"] (defScope s_bound_fault) := ⟨rfl, rfl, rfl, by decide +kernel, rfl, by decide +kernel, by decide +kernel⟩
theorem ok_bound_fault {P : Program} {w : World} {K : PySem.W.Frag} {mg : Str → Option Value} {base : Heap} (D : Dfn K mg "bound_fault" s_bound_fault) (B : Bn mg) (c_is_pair : Cal P w K mg base 1 "is_pair" ["thing"] spPair) (c_up_to : Cal P w K mg base 3 "up_to" ["thing", "greatest"] (spI2 (fun n m => 1 ≤ n ∧ n ≤ m) fun _ _ => .bl true))   : Cal P w K mg base 4 "bound_fault" ["history", "thing"] spBF := by
  refine D.cal sc_bound_fault (fun vs H Q E h => ?_) (fun _ _ _ _ _ _ us hl => match us, hl with | [_, _], _ => rfl) (fun f cdv A outer s H vs Q E hr h => ?_)
  · obtain ⟨_, _, _, _, _, rfl, _⟩ := h
    rfl
  obtain ⟨a, b, hs, w', r, rfl, ha, ⟨p, qs, b1, b2, b3, b4⟩, hz, w1, w2, r1, r2, q⟩ := h
  refine ⟨_, (pss_cons (ps_if (pt_not (pt_val (pe_cal c_is_pair hr (by first | decide | omega) rfl (pa_cons (pv 1) pa_nil))))
     (pss_one (ps_ret (pe_tup (pa_cons pe_str (pa_cons (pe_un un_neg pe_int) pa_nil)))))
     pss_nil)
     (pss_cons (ps_asg (pv 1) (pg_tup rfl (pgs_cons (pg_name (i := 2) sc_bound_fault.nd rfl (.inl rfl)) (pgs_cons (pg_name (i := 3) sc_bound_fault.nd rfl (.inl rfl)) pgs_nil))))
     (pss_cons (ps_if (pt_not (pt_val (pe_cal c_up_to hr (by first | decide | omega) rfl (pa_cons (pv 2) (pa_cons (pe_glob (v := .int 999) rfl B.gb.choose_spec ⟨_, rfl⟩) pa_nil)))))
     (pss_one (ps_ret (pe_tup (pa_cons pe_str (pa_cons pe_int pa_nil)))))
     pss_nil)
     (pss_cons (ps_if (PW.pt (pw_or (pt_not (pt_val (pe_callB call_isi rfl B.isinstance_ bo_isinstance (pa_cons (pv 3) (pa_cons (pe_bltn (v := .ty "tuple") rfl B.tuple_ bo_tuple rfl) pa_nil))))) (pw_or1 (pt_cmpR op_ne (pe_callB call_len_seq rfl B.len_ bo_len (pa_cons (pv 3) pa_nil)) (pe_callB call_len_seq rfl B.len_ bo_len (pa_cons (pv 0) pa_nil)) (nomark _)))))
     (pss_one (ps_ret (pe_tup (pa_cons pe_str (pa_cons pe_int pa_nil)))))
     pss_nil)
     (pss_cons (ps_for PassesOwn.never rfl (pi_enumT rfl B.enumerate_ (pa_cons (pv 3) pa_nil)) (pg_tup rfl (pgs_cons (pg_name (i := 4) sc_bound_fault.nd rfl (.inl rfl)) (pgs_cons (pg_name (i := 5) sc_bound_fault.nd rfl (.inl rfl)) pgs_nil)))
     (pss_cons (ps_if (pt_not (pt_val (pe_cal c_is_pair hr (by first | decide | omega) rfl (pa_cons (pv 5) pa_nil))))
     (pss_one (ps_ret (pe_tup (pa_cons pe_str (pa_cons (pv 4) pa_nil)))))
     pss_nil)
     (pss_cons (ps_if (pt_not (pt_val (pe_cal c_up_to hr (by first | decide | omega) rfl (pa_cons (pe_ix ix_tup (pv 5) pe_int (fun _ _ => rfl)) (pa_cons (pe_glob (v := .int 999) rfl B.gb.choose_spec ⟨_, rfl⟩) pa_nil)))))
     (pss_one (ps_ret (pe_tup (pa_cons pe_str (pa_cons (pv 4) pa_nil)))))
     pss_nil)
     (pss_one (ps_if (pt_not (pt_val (pe_cal c_up_to hr (by first | decide | omega) rfl (pa_cons (pe_ix ix_tup (pv 5) pe_int (fun _ _ => rfl)) (pa_cons (pv 2) pa_nil)))))
     (pss_one (ps_ret (pe_tup (pa_cons pe_str (pa_cons (pv 4) pa_nil)))))
     pss_nil)))))
     (pss_one (ps_ret pe_non))))))), ?_⟩
  refine ⟨_, rfl, b, _, _, rfl, b1, true, rfl, iteF ?_⟩
  refine ⟨_, rfl, b, _, rfl, SqT.of b1, rfl, _, _, rfl, _, _, rfl, rfl, ?_⟩
  refine ⟨_, rfl, _, _, rfl, ⟨by omega, by omega⟩, true, rfl, iteF ?_⟩
  refine ⟨_, rfl, _, _, _, _, _, rfl, cn, tx_t b2, ki_tt, true, rfl, ?_⟩
  dsimp only
  refine iteFb rfl ?_
  refine ⟨_, rfl, p, _, rfl, .inr (SqT.of b2), _, rfl, a, _, rfl, .inr (SqT.of ha), rfl, _, rfl, iteFb (by rw [nv_len, List.length_map, b3, dT rfl]; rfl) ?_⟩
  refine ⟨_, rfl, p, _, rfl, SqT.of b2, for_it (walk_enumT (K := K) (a := p) (xs := qs.map V.ref)) (fun i σ' H' => Same H H' ∧ ∃ y4 y5, σ' = [some (.ref a), some (.ref b), some (.int (r : Int)), some (.ref p), y4, y5]) ⟨Same.refl _, none, none, rfl⟩ (fun i σ' H' _ p => SqT.of (p.1 _ _ b2)) (fun i x σ' H2 H3 hi p y => ?_) (fun σ' H' p => ?_)⟩
  · obtain ⟨s2, y3, y4, rfl⟩ := p
    obtain ⟨T, x1, x2, rfl, nT, rfl, f1, f2⟩ := y
    cases f1
    obtain ⟨t, ht, rfl⟩ := refs_get f2
    have s3 := s2.trans (same_new nT (.tup [.int (i : Nat), .ref t]))
    have g := s3 _ _ (b4 t (List.mem_of_getElem? ht))
    refine ⟨T, _, rfl, SqT.of upd_same, rfl, _, _, rfl, _, _, rfl, rfl, ?_⟩
    refine ⟨_, rfl, t, _, _, rfl, g, true, rfl, iteF ?_⟩
    refine ⟨_, rfl, t, _, _, _, rfl, rfl, SqT.of g, atI_nat (j := 0) rfl, _, _, rfl, ⟨by omega, by omega⟩, true, rfl, iteF ?_⟩
    refine ⟨_, rfl, t, _, _, _, rfl, rfl, SqT.of g, atI_nat (j := 1) rfl, _, rfl, _, _, rfl, ⟨by omega, by omega⟩, true, rfl, iteF ?_⟩
    exact ⟨s3, _, _, rfl⟩
  · obtain ⟨s2, y3, y4, rfl⟩ := p
    exact q _ s2
theorem sc_need_bounds : FnScope ["history", "bounds"] ["history", "bounds"] (defScope s_need_bounds) := ⟨rfl, rfl, rfl, by decide +kernel, rfl, by decide +kernel, by decide +kernel⟩
theorem ok_need_bounds {P : Program} {w : World} {K : PySem.W.Frag} {mg : Str → Option Value} {base : Heap} (D : Dfn K mg "need_bounds" s_need_bounds) (B : Bn mg) (c_bound_fault : Cal P w K mg base 4 "bound_fault" ["history", "thing"] spBF)   : Cal P w K mg base 5 "need_bounds" ["history", "bounds"] spBF := by
  refine D.cal sc_need_bounds (fun vs H Q E h => ?_) (fun _ _ _ _ _ _ us hl => match us, hl with | [_, _], _ => rfl) (fun f cdv A outer s H vs Q E hr h => ?_)
  · obtain ⟨_, _, _, _, _, rfl, _⟩ := h
    rfl
  obtain ⟨a, b, hs, w', r, rfl, ha, hb, hz, w1, w2, r1, r2, q⟩ := h
  refine ⟨_, (pss_one (ps_if (pt_cmpR op_notN (pe_cal c_bound_fault hr (by first | decide | omega) rfl (pa_cons (pv 0) (pa_cons (pv 1) pa_nil))) pe_non (nomark _))
     (pss_one ps_never)
     pss_nil)), ?_⟩
  refine ⟨_, rfl, _, rfl, a, b, hs, w', r, rfl, ha, hb, hz, w1, w2, r1, r2, fun H1 s1 => ⟨rfl, _, rfl, iteFb rfl (q H1 s1)⟩⟩
/-! ### the nearest marked one above -/
def spNear : Sp := fun vs H Q _ => ∃ (a M : Addr) (hs : List Nat) (m : Nat → Bool) (v : Nat), vs = [.ref a, .ref M, .int (v : Int)] ∧ H a = some (.tup (nv hs)) ∧ Hist hs ∧ H M = some (.lst (bv (hs.length + 1) m)) ∧ 1 ≤ v ∧ v ≤ hs.length ∧ Q (.int ((Rs hs m (par hs v) : Nat) : Int)) H
theorem sc_near_elder : FnScope ["history", "marked", "version", "elder"] ["history", "marked", "version"] (defScope s_near_elder) := ⟨rfl, rfl, rfl, by decide +kernel, rfl, by decide +kernel, by decide +kernel⟩
theorem ok_near_elder {P : Program} {w : World} {K : PySem.W.Frag} {mg : Str → Option Value} {base : Heap} (D : Dfn K mg "near_elder" s_near_elder) (B : Bn mg)    : Cal P w K mg base 1 "near_elder" ["history", "marked", "version"] spNear := by
  refine D.cal sc_near_elder (fun vs H Q E h => ?_) (fun _ _ _ _ _ _ us hl => match us, hl with | [_, _, _], _ => rfl) (fun f cdv A outer s H vs Q E hr h => ?_)
  · obtain ⟨_, _, _, _, _, rfl, _⟩ := h
    rfl
  obtain ⟨a, M, hs, m, v, rfl, ha, hh, hM, v1, v2, q⟩ := h
  have at1 : ∀ u : Nat, 1 ≤ u → u ≤ hs.length → atI (nv hs) ((u : Int) - 1) = some (.int ((par hs u : Nat) : Int)) := fun u u1 u2 => by
    rw [show (u : Int) - 1 = ((u - 1 : Nat) : Int) by omega]
    exact nv_atI (par_at u1 u2)
  have pl := par_lt hh v1
  refine ⟨_, (pss_cons (ps_set (i := 3) sc_near_elder.nd rfl (.inl rfl) (pe_ix ix_tup (pv 0) (pe_op op_sub (pv 2) pe_int) (fun _ _ => rfl)))
     (pss_cons (ps_while PassesOwn.never (PW.pt (pw_and (pt_cmpR op_ne (pv 3) pe_int (nomark _)) (pw_and1 (pt_not (pt_val (pe_ix ix_list (pv 1) (pv 3) (fun _ _ => rfl)))))))
     (pss_one (ps_set (i := 3) sc_near_elder.nd rfl (.inl rfl) (pe_ix ix_tup (pv 0) (pe_op op_sub (pv 3) pe_int) (fun _ _ => rfl)))))
     (pss_one (ps_ret (pv 3))))), ?_⟩
  refine ⟨_, rfl, _, rfl, _, _, rfl, rfl, a, _, _, _, rfl, rfl, SqT.of ha, at1 v v1 v2, ?_⟩
  refine ⟨fun k σ' H' => H' = H ∧ ∃ u : Nat, σ' = [some (.ref a), some (.ref M), some (.int (v : Int)), some (.int (u : Int))] ∧ u ≤ hs.length ∧ Rs hs m u = Rs hs m (par hs v) ∧ k = u, ⟨_, rfl, par hs v, rfl, by omega, rfl, rfl⟩, ?_⟩
  rintro k σ' H' ⟨rfl, u, rfl, u2, hu, rfl⟩
  refine ⟨_, rfl, rfl, _, rfl, ?_⟩
  by_cases c : k = 0
  · subst c
    refine iteFb (by rw [iEq]; rfl) (iteF ⟨_, rfl, ?_⟩)
    rw [← hu] at q
    exact q
  · refine iteTb (by rw [iEq, dF (by omega)]; rfl) ?_
    refine ⟨_, rfl, _, rfl, M, _, _, _, rfl, rfl, SqL.of hM, atI_nat (bv_at (by omega)), _, rfl, ?_⟩
    have hR := Rs_up hh m (u := k) (by omega)
    cases hm : m k with
    | true =>
      rw [if_pos hm] at hR
      refine iteF ⟨_, rfl, ?_⟩
      rw [← hu, hR] at q
      exact q
    | false =>
      rw [if_neg (by rw [hm]; decide)] at hR
      have pk := par_lt hh (v := k) (by omega)
      refine iteT ⟨_, fun σ2 H2 hN => hN, ?_⟩
      exact ⟨_, rfl, _, rfl, _, _, rfl, rfl, a, _, _, _, rfl, rfl, SqT.of ha, at1 k (by omega) u2, par hs k, by omega, rfl, par hs k, rfl, by omega, by rw [← hR, hu], rfl⟩
end K67
set_option maxHeartbeats 1000000
namespace K67
open PySem PySem.Spec PyProof.Rows L2
/-! ### the walk: plain part -/
theorem wkI_skip {hs : List Nat} {w : Nat} {M : Nat → Bool} {u c : Nat} (h2 : c ≤ hs.length) : ∀ (d v : Nat), v + d = c → (∀ x, v < x → x ≤ c → M x = false) → wkI hs w M (hs.length - v) u = wkI hs w M (hs.length - c) u
  | 0, v, e, _ => by rw [show v = c by omega]
  | d + 1, v, e, hm => by
    have ih := wkI_skip (hs := hs) (w := w) (M := M) (u := u) h2 d (v + 1) (by omega) fun x h3 h4 => hm x (by omega) h4
    rw [← ih, show hs.length - v = (hs.length - (v + 1)) + 1 by omega]
    show (if M (hs.length - (hs.length - (v + 1))) = true ∧ _ then _ else _) = _
    rw [show hs.length - (hs.length - (v + 1)) = v + 1 by omega, if_neg fun z => by rw [hm (v + 1) (by omega) (by omega)] at z; exact absurd z.1 (by decide)]
theorem wk_good (hs : List Nat) {w : Nat} (hw : 1 ≤ w) (M : Nat → Bool) : ∀ i u, Pz (wkI hs w M i u) ∧ (wkI hs w M i u).length ≤ i * w
  | 0, _ => ⟨fun _ h => (nomatch h), Nat.zero_le _⟩
  | i + 1, u => by
    have ih := wk_good hs hw M i u
    have ihv := wk_good hs hw M i (hs.length - i)
    have e : (i + 1) * w = i * w + w := by rw [Nat.add_mul, Nat.one_mul]
    unfold wkI
    split
    · refine ⟨fun x hx => ?_, ?_⟩
      · rcases List.mem_append.mp hx with h | h
        · exact ih.1 x h
        · exact stp_pz (Pz_srt ihv.1) x h
      · rw [List.length_append]
        have := stp_len (srt_dn (wkI hs w M i (hs.length - i))) hw
        omega
    · exact ⟨ih.1, by omega⟩
def rowM (hs : List Nat) (w : Nat) (m : Nat → Bool) (v : Nat) : List Nat := stp w (srt (wkI hs w m (hs.length - v) v))
theorem rowM_len (hs : List Nat) {w : Nat} (hw : 1 ≤ w) (m : Nat → Bool) (v : Nat) : (rowM hs w m v).length ≤ w := stp_len (srt_dn _) hw
theorem rowM_dn (hs : List Nat) (w : Nat) (m : Nat → Bool) (v : Nat) : Dn (rowM hs w m v) := stp_dn (srt_dn _)
theorem stp_ne (w : Nat) (l : List Nat) : stp w l ≠ [] := by
  unfold stp
  exact fun z => absurd (congrArg List.length z) (by rw [List.length_append]; show _ + 1 ≠ 0; omega)
theorem head_above {r : Nat} : ∀ {l : List Nat}, Dn l → ((∃ x ∈ l, r < x) ↔ r < l.headD 0)
  | [], _ => ⟨fun ⟨_, h, _⟩ => (nomatch h), fun h => absurd h (Nat.not_lt_zero _)⟩
  | a :: l, hd => ⟨fun ⟨x, hx, h⟩ => by
      show r < a
      rcases List.mem_cons.mp hx with e | e
      · omega
      · have := hd.1 x e
        omega, fun h => ⟨a, List.mem_cons_self, h⟩⟩
/-- whether some row of the walk goes above r -/
theorem any_abv {hs : List Nat} (hh : Hist hs) {w : Nat} (hw : 1 ≤ w) (r : Nat) {S : List Nat} (hS : Sub S hs.length) :
    (S.reverse.map fun v => decide (r < (rowM hs w (mks S) v).headD 0)).any id = abv hs w r S := by
  obtain ⟨k, rfl⟩ : ∃ k, w = k + 1 := ⟨w - 1, by omega⟩
  have key := above_iff hh k r (mks S)
  unfold abv
  by_cases c : Cb (r + (k + 1)) (k + 1) ≤ Wt (k + 1) (mks S) (foAll hs)
  · rw [dT c]
    obtain ⟨v, v1, v2, hv, hx⟩ := key.mpr c
    refine List.any_eq_true.mpr ⟨true, ?_, rfl⟩
    refine List.mem_map.mpr ⟨v, List.mem_reverse.mpr (of_decide_eq_true hv), dT ?_⟩
    exact (head_above (rowM_dn _ _ _ _)).mp hx
  · rw [dF c]
    refine List.any_eq_false.mpr fun b hb => ?_
    obtain ⟨v, hv, e⟩ := List.mem_map.mp hb
    have hv := List.mem_reverse.mp hv
    rw [← e]
    refine fun z => c (key.mp ⟨v, (hS.rng v hv).1, (hS.rng v hv).2, dT hv, ?_⟩)
    exact (head_above (rowM_dn _ _ _ _)).mpr (of_decide_eq_true z)
/-! ### the walk: heaps -/
structure BlI (H : Hp) (B : Addr) (As : List Addr) (f : Nat → List Nat) : Prop where
  at_ : H B = some (.lst (refs As))
  nd : As.Nodup
  it : ∀ (u : Nat) (a : Addr), As[u]? = some a → a ≠ B ∧ H a = some (.lst (nv (f u)))
theorem BlI.same {H H' : Hp} {B : Addr} {As : List Addr} {f : Nat → List Nat} (h : BlI H B As f) (s : Same H H') : BlI H' B As f := ⟨s _ _ h.at_, h.nd, fun u a hu => ⟨(h.it u a hu).1, s _ _ (h.it u a hu).2⟩⟩
theorem BlI.other {H : Hp} {B q : Addr} {As : List Addr} {f : Nat → List Nat} {o : HO} (h : BlI H B As f) (hB : q ≠ B) (hA : q ∉ As) : BlI (upd H q o) B As f := ⟨by rw [upd_ne hB.symm]; exact h.at_, h.nd, fun u a hu => by
  obtain ⟨h1, h2⟩ := h.it u a hu
  exact ⟨h1, by rw [upd_ne (fun e => hA (by rw [← e]; exact List.mem_of_getElem? hu))]; exact h2⟩⟩
theorem BlI.add {H : Hp} {B a0 : Addr} {As : List Addr} {f : Nat → List Nat} {u0 : Nat} (l : List Nat) (h : BlI H B As f) (hu : As[u0]? = some a0) :
    BlI (upd H a0 (.lst (nv (f u0) ++ nv l))) B As (fun u => if u = u0 then f u ++ l else f u) := by
  obtain ⟨n0, e0⟩ := h.it u0 a0 hu
  refine ⟨by rw [upd_ne n0.symm]; exact h.at_, h.nd, fun u a hu' => ?_⟩
  by_cases c : u = u0
  · subst c
    have ea : a = a0 := by
      rw [hu] at hu'
      exact (Option.some.inj hu').symm
    subst ea
    refine ⟨n0, ?_⟩
    rw [upd_same, if_pos rfl, nv_app]
  · obtain ⟨h1, h2⟩ := h.it u a hu'
    have hne : a ≠ a0 := fun e => by
      subst e
      exact c (nd_ix h.nd hu hu').symm
    refine ⟨h1, ?_⟩
    rw [upd_ne hne, if_neg c]
    exact h2
theorem BlI.eq {H : Hp} {B : Addr} {As : List Addr} {f g : Nat → List Nat} (h : BlI H B As f) (e : ∀ u, f u = g u) : BlI H B As g := by
  have : f = g := funext e
  rw [← this]
  exact h
def PairsAt (H : Hp) (ts : List Addr) (L : List (Nat × List Nat)) : Prop := ts.length = L.length ∧ ∀ (i : Nat) (t : Addr) (x : Nat × List Nat), ts[i]? = some t → L[i]? = some x → ∃ p, H t = some (.tup [.int (x.1 : Int), .ref p]) ∧ H p = some (.tup (nv x.2))
theorem PairsAt.same {H H' : Hp} {ts : List Addr} {L : List (Nat × List Nat)} (h : PairsAt H ts L) (s : Same H H') : PairsAt H' ts L := ⟨h.1, fun i t x ht hx => by
  obtain ⟨p, h1, h2⟩ := h.2 i t x ht hx
  exact ⟨p, s _ _ h1, s _ _ h2⟩⟩
theorem PairsAt.nil {H : Hp} : PairsAt H [] [] := ⟨rfl, fun i p l h => by cases h⟩
theorem PairsAt.updL {H : Hp} {ts : List Addr} {L : List (Nat × List Nat)} {a : Addr} {x : List V} {o : HO} (h : PairsAt H ts L) (ha : H a = some (.lst x)) : PairsAt (upd H a o) ts L := ⟨h.1, fun i t y ht hy => by
  obtain ⟨p, h1, h2⟩ := h.2 i t y ht hy
  refine ⟨p, ?_, ?_⟩
  · rw [upd_ne (ne_of h1 ha (fun z => by cases z))]
    exact h1
  · rw [upd_ne (ne_of h2 ha (fun z => by cases z))]
    exact h2⟩
theorem PairsAt.snoc {H : Hp} {ts : List Addr} {L : List (Nat × List Nat)} {t p : Addr} {x : Nat × List Nat} (h : PairsAt H ts L) (h1 : H t = some (.tup [.int (x.1 : Int), .ref p])) (h2 : H p = some (.tup (nv x.2))) : PairsAt H (ts ++ [t]) (L ++ [x]) := by
  refine ⟨by rw [List.length_append, List.length_append, h.1]; rfl, fun i q m hq hm => ?_⟩
  by_cases c : i < ts.length
  · rw [List.getElem?_append_left c] at hq
    rw [List.getElem?_append_left (by rw [← h.1]; exact c)] at hm
    exact h.2 i q m hq hm
  · rw [List.getElem?_append_right (by omega)] at hq
    rw [List.getElem?_append_right (by rw [← h.1]; omega)] at hm
    have e : i - ts.length = 0 := by
      have := (List.getElem?_eq_some_iff.mp hq).1
      simp at this
      omega
    rw [e] at hq
    rw [← h.1, e] at hm
    have e1 : t = q := Option.some.inj hq
    have e2 : x = m := Option.some.inj hm
    subst e1 e2
    exact ⟨p, h1, h2⟩
theorem ixN_nat {n i : Nat} (h : i < n) : ixN n (i : Int) = some i := by
  unfold ixN
  rw [if_pos (by omega), if_pos (by omega)]
  rfl
def wkL (hs : List Nat) (w : Nat) (S : List Nat) : List (Nat × List Nat) := S.reverse.map fun v => (v, rowM hs w (mks S) v)
def spWk (R : VK → Hp → List Nat → Nat → Nat → List Nat → Prop) : Sp := fun vs H Q _ => ∃ (a b s : Addr) (hs : List Nat) (w r : Nat) (S : List Nat), vs = [.ref a, .ref b, .ref s] ∧ HistAt H a hs ∧ LB H b hs.length w r ∧ H s = some (.tup (nv S)) ∧ Sub S hs.length ∧ 1 ≤ w ∧ w ≤ 1000 ∧ R Q H hs w r S
def walkedR : VK → Hp → List Nat → Nat → Nat → List Nat → Prop := fun Q H hs w _ S => ∀ (p : Addr) (ts : List Addr) (H' : Hp), Same H H' → H' p = some (.lst (refs ts)) → PairsAt H' ts (wkL hs w S) → Q (.ref p) H'
theorem sub_len {S : List Nat} {n : Nat} (h : Sub S n) : S.length ≤ n := by
  have h' : Sub S (line n).length := by rw [line_len]; exact h
  have e := Sub.count (line_hist n) h'
  have e2 := (all_perm (line_hist n)).length_eq
  rw [List.length_range', line_len] at e2
  have e3 : (ids (foAll (line n))).countP (mks S) ≤ (ids (foAll (line n))).length := List.countP_le_length
  omega
theorem rev_desc {S : List Nat} {n : Nat} (h : Sub S n) : S.reverse.Pairwise (· > ·) := List.pairwise_reverse.mpr h.asc
theorem sc_walked : FnScope ["history", "bounds", "versions", "marked", "version", "below", "pairs", "row", "_"] ["history", "bounds", "versions"] (defScope s_walked) := ⟨rfl, rfl, rfl, by decide +kernel, rfl, by decide +kernel, by decide +kernel⟩
theorem ok_walked {P : Program} {w : World} {K : PySem.W.Frag} {mg : Str → Option Value} {base : Heap} (D : Dfn K mg "walked" s_walked) (B : Bn mg) (c_step_of : Cal P w K mg base 2 "step_of" ["bounds", "version", "members"] spStepOf) (c_near_elder : Cal P w K mg base 1 "near_elder" ["history", "marked", "version"] spNear)   : Cal P w K mg base 3 "walked" ["history", "bounds", "versions"] (spWk walkedR) := by
  refine D.cal sc_walked (fun vs H Q E h => ?_) (fun _ _ _ _ _ _ us hl => match us, hl with | [_, _, _], _ => rfl) (fun f cdv A outer s H vs Q E hr h => ?_)
  · obtain ⟨_, _, _, _, _, _, _, rfl, _⟩ := h
    rfl
  obtain ⟨a, b, s', hs, w', r, S, rfl, ⟨ha, hh, hn⟩, hb, hS, sub, w1, w2, q⟩ := h
  have hSl := sub_len sub
  refine ⟨_, (pss_cons (ps_set (i := 3) sc_walked.nd rfl (.inl rfl) (pe_op op_rep (pe_lst (pa_cons pe_bl pa_nil)) (pe_op op_add (pe_callB call_len_seq rfl B.len_ bo_len (pa_cons (pv 0) pa_nil)) pe_int)))
     (pss_cons (ps_for PassesOwn.never rfl (pi_tup (pv 2)) (pg_name (i := 4) sc_walked.nd rfl (.inl rfl))
     (pss_one (ps_asg pe_bl (pg_sub (pv 3) (pv 4) set_list))))
     (pss_cons (ps_setLc (i := 5) (own := [("_", 8)]) (g := (gName 8)) (tt := tYes) rfl sc_walked.nd rfl rfl (sw_true rfl rfl rfl (by decide +kernel)) (pi_range1 rfl B.range_ (pa_cons (pe_op op_add (pe_callB call_len_seq rfl B.len_ bo_len (pa_cons (pv 0) pa_nil)) pe_int) pa_nil)) (blkOk_by (own := [("_", 8)]) (N := ["history", "bounds", "versions", "marked", "version", "below", "pairs", "row", "_"]) (sc := defScope s_walked) (by decide +kernel)) (fun _ _ _ _ _ => (pg_name (i := 8) sc_walked.nd rfl (.inl rfl))) (fun _ _ _ _ _ => pts_nil) (fun _ _ _ _ _ => (pe_lst pa_nil)))
     (pss_cons (ps_set (i := 6) sc_walked.nd rfl (.inl rfl) (pe_lst pa_nil))
     (pss_cons (ps_for PassesOwn.never rfl (pi_tup (pe_revT (pv 2))) (pg_name (i := 4) sc_walked.nd rfl (.inl rfl))
     (pss_cons (ps_set (i := 7) sc_walked.nd rfl (.inl rfl) (pe_cal c_step_of hr (by first | decide | omega) rfl (pa_cons (pv 1) (pa_cons (pv 4) (pa_cons (pe_ix ix_list (pv 5) (pv 4) (fun _ _ => rfl)) pa_nil)))))
     (pss_cons (ps_expr (pe_bm PySem.F.plainAttrs_list PySem.F.slot_list_append PySem.F.type_list_append mt_append (pv 6) (pa_cons (pe_tup (pa_cons (pv 4) (pa_cons (pv 7) pa_nil))) pa_nil)))
     (pss_one (ps_expr (pe_bm PySem.F.plainAttrs_list PySem.F.slot_list_extend PySem.F.type_list_extend mt_extT (pe_ix ix_list (pv 5) (pe_cal c_near_elder hr (by first | decide | omega) rfl (pa_cons (pv 0) (pa_cons (pv 3) (pa_cons (pv 4) pa_nil)))) (fun _ _ => rfl)) (pa_cons (pv 7) pa_nil)))))))
     (pss_one (ps_ret (pv 6)))))))), ?_⟩
  refine ⟨by show 1 ≤ sizeLine; decide, fun L0 n0 => ⟨_, rfl, a, _, rfl, .inr (SqT.of (same_new n0 _ _ _ ha)), _, _, rfl, rfl, L0, _, _, rfl, rfl, upd_same, by omega, by rw [nv_len]; omega, ?_, fun M nM => ?_⟩⟩
  · rw [nv_len]
    refine sz_ok ?_
    show 1 * _ ≤ _
    omega
  have s1 : Same H (upd H L0 (.lst [.bl false])) := same_new n0 _
  have nM0 : H M = none := s1.free nM
  have eM : (List.replicate (((nv hs).length : Int) + 1).toNat [V.bl false]).flatten = bv (hs.length + 1) (fun v => decide (v ∈ S.take 0)) := by
    rw [nv_len, show (((hs.length : Int)) + 1).toNat = hs.length + 1 by omega, bv_rep]
    refine bv_eq fun i _ => ?_
    rw [List.take_zero]
    rfl
  rw [eM]
  have s2 := s1.trans (same_new nM (.lst (bv (hs.length + 1) (fun v => decide (v ∈ S.take 0)))))
  refine ⟨_, rfl, s', rfl, ⟨_, SqT.of (s2 _ _ hS)⟩, for_tup (xs := nv S) (fun i σ' H' => Same H H' ∧ H' M = some (.lst (bv (hs.length + 1) (fun v => decide (v ∈ S.take i)))) ∧ ∃ y4, σ' = [some (.ref a), some (.ref b), some (.ref s'), some (.ref M), y4, none, none, none, none]) ⟨s2, upd_same, none, rfl⟩ (fun i σ' H' _ p => SqT.of (p.1 _ _ hS)) (fun i x σ' H' hi p => ?_) (fun σ' H' p => ?_)⟩
  · obtain ⟨s3, hM, y4, rfl⟩ := p
    obtain ⟨v, hv, rfl⟩ := nv_get hi
    have hvr := sub.rng v (List.mem_of_getElem? hv)
    refine ⟨_, rfl, _, rfl, M, _, _, v, rfl, rfl, hM, ixN_nat (by rw [bv_len]; omega), ?_⟩
    rw [bv_set (by omega)]
    refine ⟨same_mut s3 nM0, ?_, some (.int (v : Int)), rfl⟩
    rw [upd_same]
    congr 2
    refine bv_eq fun j _ => ?_
    rw [take_more hv]
    by_cases c : j = v
    · subst c
      rw [if_pos rfl, dT (List.mem_append.mpr (.inr List.mem_cons_self))]
    · rw [if_neg c]
      by_cases d : j ∈ S.take i
      · rw [dT d, dT (List.mem_append.mpr (.inl d))]
      · rw [dF d, dF (fun z => by rcases List.mem_append.mp z with z | z; exact d z; exact c (List.mem_singleton.mp z))]
  obtain ⟨s3, hM, y4, rfl⟩ := p
  rw [nv_len, List.take_length] at hM
  have hM : H' M = some (.lst (bv (hs.length + 1) (mks S))) := hM
  have ha3 := s3 _ _ ha
  refine ⟨_, rfl, a, _, rfl, .inr (SqT.of ha3), _, _, rfl, rfl, _, rfl, ?_, ?_, ?_⟩
  · rw [nv_len]; omega
  · rw [nv_len]; omega
  have en : (((nv hs).length : Int) + 1).toNat = hs.length + 1 := by rw [nv_len]; omega
  rw [en]
  intro B nB
  refine lcNew nB (by omega) (fun _ => rfl) fun H1 As s4 hB hA nd hA2 => ?_
  refine ⟨Nat.zero_le _, fun R nR => ?_⟩
  have hRB : R ≠ B := fun e => by
    rw [e] at nR
    rw [nR] at hB
    cases hB
  have hRA : R ∉ As := fun e => by
    have := (hA2 _ e).2.1
    rw [nR] at this
    cases this
  have hMA : ∀ a0 ∈ As, a0 ≠ M := fun a0 h0 e => by
    have := (hA2 a0 h0).1
    rw [e] at this
    rw [this] at hM
    cases hM
  have nR0 : H R = none := (s3.trans s4).free nR
  have s5 := s4.trans (same_new nR (.lst []))
  have hMR : M ≠ R := fun e => by
    have := s4 _ _ hM
    rw [e, nR] at this
    cases this
  have b0 : BlI (upd H1 R (.lst [])) B As (wkI hs w' (mks S) (hs.length - hs.length)) := by
    rw [Nat.sub_self]
    exact (BlI.mk hB nd fun u b hu => ⟨(hA2 b (List.mem_of_getElem? hu)).2.2, (hA2 b (List.mem_of_getElem? hu)).2.1⟩ : BlI H1 B As (wkI hs w' (mks S) 0)).same (same_new nR _)
  refine ⟨_, rfl, s', _, rfl, SqT.of ((s3.trans s5) _ _ hS), fun R2 nR2 => ⟨_, rfl, ⟨_, SqT.of upd_same⟩, ?_⟩⟩
  have s6 := same_new nR2 (.tup (nv S).reverse)
  have erev : (nv S).reverse = nv S.reverse := List.map_reverse.symm
  rw [erev] at s6 ⊢
  have nR20 : H R2 = none := (s3.trans s5).free nR2
  refine for_tup (xs := nv S.reverse) (fun i σ' H2 => Same H H2 ∧ H2 R2 = some (.tup (nv S.reverse)) ∧ H2 M = some (.lst (bv (hs.length + 1) (mks S))) ∧ (∃ ts, H2 R = some (.lst (refs ts)) ∧ PairsAt H2 ts ((S.reverse.take i).map fun v => (v, rowM hs w' (mks S) v))) ∧
      (∃ c, c ≤ hs.length ∧ (∀ x ∈ S.reverse.drop i, x ≤ c) ∧ (∀ x ∈ S, x ≤ c → x ∈ S.reverse.drop i) ∧ BlI H2 B As (wkI hs w' (mks S) (hs.length - c))) ∧ ∃ y4 y7, σ' = [some (.ref a), some (.ref b), some (.ref s'), some (.ref M), y4, some (.ref B), some (.ref R), y7, none])
    ⟨s3.trans (s5.trans s6), upd_same, s6 _ _ (s5 _ _ hM), ⟨[], s6 _ _ upd_same, by rw [List.take_zero]; exact PairsAt.nil⟩, ⟨hs.length, Nat.le_refl _, fun x hx => (sub.rng x (List.mem_reverse.mp hx)).2, fun x hx _ => List.mem_reverse.mpr hx, b0.same s6⟩, y4, none, rfl⟩ (fun i σ' H2 _ p => SqT.of p.2.1) (fun i x σ' H2 hi p => ?_) (fun σ' H2 p => ?_)
  · obtain ⟨s7, hR2, hM2, ⟨ts, hR, hts⟩, ⟨c, c1, c2, c3, bl⟩, y4', y7, rfl⟩ := p
    obtain ⟨v, hv, rfl⟩ := nv_get hi
    have hvS : v ∈ S := List.mem_reverse.mp (List.mem_of_getElem? hv)
    have hvr := sub.rng v hvS
    have hil := (List.getElem?_eq_some_iff.mp hv).1
    have hdrop : S.reverse.drop i = v :: S.reverse.drop (i + 1) := by
      rw [List.drop_eq_getElem_cons hil]
      congr 1
      exact (List.getElem?_eq_some_iff.mp hv).2
    have hdesc : ∀ x ∈ S.reverse.drop (i + 1), x < v := fun x hx => by
      have h1 := (rev_desc sub).drop (i := i)
      rw [hdrop] at h1
      exact (List.pairwise_cons.mp h1).1 x hx
    rw [hdrop] at c2 c3
    have hvc := c2 v List.mem_cons_self
    have bl : BlI H2 B As (wkI hs w' (mks S) (hs.length - v)) := bl.eq fun u => (wkI_skip c1 (c - v) v (by omega) fun x h1 h2 => by
      refine dF fun hx => ?_
      rcases List.mem_cons.mp (c3 x hx h2) with e | e
      · omega
      · have := hdesc x e
        omega).symm
    have hAv := List.getElem?_eq_getElem (show v < As.length by omega)
    obtain ⟨nav, hav⟩ := bl.it _ _ hAv
    have good := wk_good hs w1 (mks S) (hs.length - v) v
    have len1 : ∀ u, (wkI hs w' (mks S) (hs.length - v) u).length ≤ 45000 := fun u => by
      have h1 := (wk_good hs w1 (mks S) (hs.length - v) u).2
      have h2 := Nat.mul_le_mul (show hs.length - v ≤ 45 by omega) w2
      omega
    refine ⟨_, rfl, _, rfl, _, rfl, _, rfl, B, _, _, _, rfl, rfl, SqL.of bl.at_, atI_nat (by unfold refs; rw [List.getElem?_map, hAv]; rfl), ?_⟩
    refine ⟨b, _, v, hs.length, w', r, _, rfl, hb.same s7, hvr.1, hvr.2, hav, w1, good.1, Nat.le_trans (len1 v) (by omega), fun row H3 s8 hrow => ?_⟩
    have hrow : H3 row = some (.tup (nv (rowM hs w' (mks S) v))) := hrow
    have hR3 := s8 _ _ hR
    refine ⟨_, rfl, .inl ⟨rfl, _, SqL.of hR3⟩, _, rfl, _, rfl, by show 2 ≤ sizeLine; decide, fun t nt => ?_⟩
    have s9 := same_new nt (.tup [.int (v : Int), .ref row])
    refine ⟨R, _, _, rfl, rfl, s9 _ _ hR3, ?_, ?_⟩
    · rw [refs_len, hts.1, List.length_map, List.length_take, List.length_reverse]
      exact sz_lt (by omega)
    have s10 := s8.trans s9
    have htR : t ≠ R := fun e => by
      rw [e, hR3] at nt
      cases nt
    have hM4 : upd (upd H3 t (.tup [.int (v : Int), .ref row])) R (.lst (refs ts ++ [.ref t])) M = some (.lst (bv (hs.length + 1) (mks S))) := by
      rw [upd_ne hMR]
      exact s10 _ _ hM2
    have sH : Same H (upd (upd H3 t (.tup [.int (v : Int), .ref row])) R (.lst (refs ts ++ [.ref t]))) := same_mut (s7.trans s10) nR0
    have bl4 : BlI (upd (upd H3 t (.tup [.int (v : Int), .ref row])) R (.lst (refs ts ++ [.ref t]))) B As (wkI hs w' (mks S) (hs.length - v)) := (bl.same s10).other hRB hRA
    have hp3 : par hs v ≤ v - 1 := par_lt hh hvr.1
    have hRs := Rs_le hh (mks S) (par hs v)
    have hAq := List.getElem?_eq_getElem (show Rs hs (mks S) (par hs v) < As.length by omega)
    obtain ⟨naq, haq⟩ := bl4.it _ _ hAq
    have hrow4 : upd (upd H3 t (.tup [.int (v : Int), .ref row])) R (.lst (refs ts ++ [.ref t])) row = some (.tup (nv (rowM hs w' (mks S) v))) := by
      rw [upd_ne (ne_of hrow hR3 (fun z => by cases z))]
      exact s9 _ _ hrow
    refine ⟨_, rfl, _, rfl, _, rfl, _, rfl, a, M, hs, mks S, v, rfl, sH _ _ ha, hh, hM4, hvr.1, hvr.2, B, _, _, .ref (As[Rs hs (mks S) (par hs v)]'(by omega)), rfl, rfl, SqL.of bl4.at_, atI_nat (by unfold refs; rw [List.getElem?_map, hAq]; rfl), .inl ⟨rfl, _, SqL.of haq⟩, _, rfl, _, row, _, _, rfl, rfl, haq, hrow4, ?_, ?_⟩
    · have h1 := len1 (Rs hs (mks S) (par hs v))
      have h2 := rowM_len hs w1 (mks S) v
      rw [nv_len, nv_len]
      exact sz_ok (by omega)
    have hAqm := List.getElem_mem (show Rs hs (mks S) (par hs v) < As.length by omega)
    have nAq : H As[Rs hs (mks S) (par hs v)] = none := s3.free (hA2 _ hAqm).1
    have hRq : R ≠ As[Rs hs (mks S) (par hs v)] := fun e => hRA (by rw [e]; exact hAqm)
    have hR24 : upd (upd H3 t (.tup [.int (v : Int), .ref row])) R (.lst (refs ts ++ [.ref t])) R2 = some (.tup (nv S.reverse)) := by
      rw [upd_ne (ne_of hR2 hR (fun z => by cases z))]
      exact s10 _ _ hR2
    have bl5 := (bl4.add (rowM hs w' (mks S) v) hAq).eq (g := wkI hs w' (mks S) (hs.length - (v - 1))) fun u => by
      rw [show hs.length - (v - 1) = (hs.length - v) + 1 by omega]
      show _ = if mks S (hs.length - (hs.length - v)) = true ∧ u = Rs hs (mks S) (par hs (hs.length - (hs.length - v))) then wkI hs w' (mks S) (hs.length - v) u ++ stp w' (srt (wkI hs w' (mks S) (hs.length - v) (hs.length - (hs.length - v)))) else wkI hs w' (mks S) (hs.length - v) u
      rw [show hs.length - (hs.length - v) = v by omega]
      have hmv : mks S v = true := dT hvS
      by_cases e : u = Rs hs (mks S) (par hs v)
      · rw [if_pos e, if_pos ⟨hmv, e⟩]
        rfl
      · rw [if_neg e, if_neg fun z => e z.2]
    refine ⟨same_mut sH nAq, ?_, ?_, ⟨ts ++ [t], ?_, ?_⟩, ⟨v - 1, by omega, fun x hx => by have := hdesc x hx; omega, fun x hx h1 => ?_, bl5⟩, _, _, rfl⟩
    · rw [upd_ne (ne_of hR24 haq (fun z => by cases z))]
      exact hR24
    · rw [upd_ne (fun e => hMA _ hAqm e.symm)]
      exact hM4
    · rw [upd_ne hRq, upd_same]
      unfold refs
      rw [List.map_append]
      rfl
    · refine PairsAt.updL ?_ haq
      rw [take_more hv, List.map_append]
      refine PairsAt.snoc (p := row) ((hts.same s10).updL (s9 _ _ hR3)) ?_ hrow4
      rw [upd_ne htR]
      exact upd_same
    · rcases List.mem_cons.mp (c3 x hx (by omega)) with e | e
      · omega
      · exact e
  · obtain ⟨s7, hR2, hM2, ⟨ts, hR, hts⟩, _, y4', y7, rfl⟩ := p
    refine ⟨_, rfl, q R ts H2 s7 hR ?_⟩
    rw [nv_len, List.take_length] at hts
    exact hts
def aboveR : VK → Hp → List Nat → Nat → Nat → List Nat → Prop := fun Q H hs w r S => ∀ H', Same H H' → Q (.bl (abv hs w r S)) H'
theorem sc_goes_above : FnScope ["history", "bounds", "versions", "pair"] ["history", "bounds", "versions"] (defScope s_goes_above) := ⟨rfl, rfl, rfl, by decide +kernel, rfl, by decide +kernel, by decide +kernel⟩
theorem ok_goes_above {P : Program} {w : World} {K : PySem.W.Frag} {mg : Str → Option Value} {base : Heap} (D : Dfn K mg "goes_above" s_goes_above) (B : Bn mg) (c_walked : Cal P w K mg base 3 "walked" ["history", "bounds", "versions"] (spWk walkedR))   : Cal P w K mg base 4 "goes_above" ["history", "bounds", "versions"] (spWk aboveR) := by
  refine D.cal sc_goes_above (fun vs H Q E h => ?_) (fun _ _ _ _ _ _ us hl => match us, hl with | [_, _, _], _ => rfl) (fun f cdv A outer s H vs Q E hr h => ?_)
  · obtain ⟨_, _, _, _, _, _, _, rfl, _⟩ := h
    rfl
  obtain ⟨a, b, s', hs, w', r, S, rfl, hA, hb, hS, sub, w1, w2, q⟩ := h
  have hSl := sub_len sub
  refine ⟨_, (pss_one (ps_ret (pe_callB (cr_any rfl) rfl B.any_ bo_any (pa_cons (pe_lc (own := [("pair", 3)]) (g := (gName 3)) (tt := tYes) rfl sc_goes_above.nd (pi_list (pe_cal c_walked hr (by first | decide | omega) rfl (pa_cons (pv 0) (pa_cons (pv 1) (pa_cons (pv 2) pa_nil))))) (blkOk_by (own := [("pair", 3)]) (N := ["history", "bounds", "versions", "pair"]) (sc := defScope s_goes_above) (by decide +kernel)) (fun _ _ _ _ _ => (pg_name (i := 3) sc_goes_above.nd rfl (.inl rfl))) (fun _ _ _ _ _ => pts_nil) (fun _ _ _ _ _ => (pe_cmpR op_gt (pe_ix (r := rIxT K) ix_tup (pe_ix (r := rIxT K) ix_tup (pv 3) pe_int (fun _ _ => rfl)) pe_int (fun _ _ => rfl)) (pe_ix (r := rIxT K) ix_tup (pv 1) pe_int (fun _ _ => rfl)) (nomark _)))) pa_nil)))), ?_⟩
  refine ⟨_, rfl, _, rfl, _, rfl, a, b, s', hs, w', r, S, rfl, hA, hb, hS, sub, w1, w2, fun p ts H1 s1 hp hts => ?_⟩
  obtain ⟨bp, qs, b1, b2, b3, b4⟩ := hb.same s1
  have hL : (wkL hs w' S).length = S.length := by
    unfold wkL
    rw [List.length_map, List.length_reverse]
  have hz : ts.length ≤ 45 := by
    have := hts.1
    have := hA.2.2
    omega
  refine ⟨p, rfl, ⟨_, SqL.of hp⟩, fun D1 n1 => lc_list (xs := refs ts) (fun i H' => Same H1 H' ∧ H' D1 = some (.lst (((S.reverse.take i).map fun v => decide (r < (rowM hs w' (mks S) v).headD 0)).map V.bl))) ⟨same_new n1 _, by rw [List.take_zero]; exact upd_same⟩ (fun i H' _ p => SqL.of (p.1 _ _ hp)) (fun i x H' hi p => ?_) fun H' p => ?_⟩
  · obtain ⟨t, ht, rfl⟩ := refs_get hi
    have hi2 : i < ts.length := (List.getElem?_eq_some_iff.mp ht).1
    have hiL : i < S.reverse.length := by
      rw [List.length_reverse]
      have := hts.1
      omega
    have hv := List.getElem?_eq_getElem hiL
    have hx : (wkL hs w' S)[i]? = some (S.reverse[i], rowM hs w' (mks S) S.reverse[i]) := by
      unfold wkL
      rw [List.getElem?_map, hv]
      rfl
    obtain ⟨pr, g1, g2⟩ := hts.2 i t _ ht hx
    have hhead : ∃ y l, rowM hs w' (mks S) S.reverse[i] = y :: l := by
      cases e : rowM hs w' (mks S) S.reverse[i] with
      | nil => exact absurd e (stp_ne _ _)
      | cons y l => exact ⟨y, l, rfl⟩
    obtain ⟨y, l, hl⟩ := hhead
    refine ⟨rfl, ?_⟩
    unfold tYes
    dsimp only
    rw [if_pos rfl]
    refine ⟨_, rfl, t, _, _, _, rfl, rfl, SqT.of (p.1 _ _ g1), atI_nat (j := 1) rfl, pr, _, _, _, rfl, rfl, SqT.of (p.1 _ _ g2), nv_atI (i := 0) (x := y) (by rw [hl]; rfl), _, rfl, b, _, _, _, rfl, rfl, SqT.of (p.1 _ _ b1), atI_nat (j := 0) rfl, _, _, rfl, rfl, ?_⟩
    refine ⟨_, p.2, ?_, same_mut p.1 n1, ?_⟩
    · rw [List.length_map, List.length_map, List.length_take]
      exact sz_lt (by omega)
    · rw [upd_same, take_more hv, List.map_append, List.map_append]
      congr 3
      show [V.bl (decide ((r : Int) < (y : Int)))] = [V.bl (decide (r < (rowM hs w' (mks S) S.reverse[i]).headD 0))]
      rw [hl]
      show [V.bl (decide ((r : Int) < (y : Int)))] = [V.bl (decide (r < y))]
      congr 2
      exact decide_eq_decide.mpr (by omega)
  · refine ⟨D1, _, rfl, SqL.of p.2, ?_⟩
    have e : (refs ts).length = S.reverse.length := by
      rw [refs_len, List.length_reverse]
      have := hts.1
      omega
    rw [e, List.take_length]
    have e2 := any_abv hA.2.1 w1 r sub
    exact qE (by rw [e2]) (q H' (s1.trans p.1))
end K67
set_option maxHeartbeats 1000000
namespace K67
open PySem PySem.Spec PyProof.Rows L2
/-! ### rows of a whole walk -/
theorem res_eq {hs : List Nat} (h : Hist hs) {M M' : Nat → Bool} {n : Nat} (hm : ∀ u, 1 ≤ u → u ≤ n → M u = M' u) : ∀ (f u : Nat), u ≤ n → res hs M f u = res hs M' f u
  | 0, _, _ => rfl
  | f + 1, u, hu => by
    unfold res
    by_cases e : u = 0
    · rw [if_pos e, if_pos e]
    · rw [if_neg e, if_neg e, hm u (by omega) hu]
      have := par_lt h (v := u) (by omega)
      rw [res_eq h hm f (par hs u) (by omega)]
theorem wkI_eq {hs : List Nat} (h : Hist hs) {w : Nat} {M M' : Nat → Bool} (hm : ∀ u, 1 ≤ u → u ≤ hs.length → M u = M' u) : ∀ i, i ≤ hs.length → ∀ u, wkI hs w M i u = wkI hs w M' i u
  | 0, _, _ => rfl
  | i + 1, hi, u => by
    have hp := par_lt h (v := hs.length - i) (by omega)
    unfold wkI
    unfold Rs
    rw [hm (hs.length - i) (by omega) (by omega), res_eq h hm _ (par hs (hs.length - i)) (by omega), wkI_eq h hm i (by omega) u, wkI_eq h hm i (by omega) (hs.length - i)]
theorem rowM_all {hs : List Nat} (h : Hist hs) (w : Nat) {v : Nat} (h1 : 1 ≤ v) (h2 : v ≤ hs.length) : rowM hs w (mks (List.range' 1 hs.length)) v = rowI hs w (hs.length - v) := by
  unfold rowM rowI
  rw [wkI_eq h (M := mks (List.range' 1 hs.length)) (M' := mAll) (fun u u1 u2 => dT (List.mem_range'_1.mpr (by omega))) _ (by omega), wk_all h, show hs.length - (hs.length - v) = v by omega]
theorem rowsL_len (hs : List Nat) (w : Nat) : (rowsL hs w).length = hs.length := by
  unfold rowsL
  rw [List.length_reverse, List.length_map, List.length_range]
theorem rowsL_at (hs : List Nat) (w : Nat) {i : Nat} (hi : i < hs.length) : (rowsL hs w)[i]? = some (rowI hs w (hs.length - 1 - i)) := by
  unfold rowsL
  rw [List.getElem?_reverse (by rw [List.length_map, List.length_range]; exact hi), List.length_map, List.length_range, List.getElem?_map, List.getElem?_range (by omega)]
  rfl
theorem wkL_rev {hs : List Nat} (h : Hist hs) (w : Nat) : (wkL hs w (List.range' 1 hs.length)).reverse.map (·.2) = rowsL hs w := by
  unfold wkL
  rw [← List.map_reverse, List.reverse_reverse, List.map_map]
  refine List.ext_getElem? fun i => ?_
  by_cases c : i < hs.length
  · rw [rowsL_at hs w c, List.getElem?_map, List.getElem?_range' (by omega)]
    show some (rowM hs w _ (1 + 1 * i)) = _
    rw [rowM_all h w (by omega) (by omega)]
    congr 2
    omega
  · rw [List.getElem?_eq_none (by rw [List.length_map, List.length_range']; omega), List.getElem?_eq_none (by rw [rowsL_len]; omega)]
theorem rowI_ne (hs : List Nat) (w i : Nat) : rowI hs w i ≠ [] := stp_ne _ _
theorem rowI_dn (hs : List Nat) (w i : Nat) : Dn (rowI hs w i) := stp_dn (srt_dn _)
theorem rowI_pz (hs : List Nat) {w : Nat} (hw : 1 ≤ w) (i : Nat) : Pz (rowI hs w i) := stp_pz (Pz_srt (pend_pz hs hw _ _))
theorem rowI_len (hs : List Nat) {w : Nat} (hw : 1 ≤ w) (i : Nat) : (rowI hs w i).length ≤ w := stp_len (srt_dn _) hw
theorem rowsL_mem {hs : List Nat} {w : Nat} {l : List Nat} (h : l ∈ rowsL hs w) : ∃ i, i < hs.length ∧ l = rowI hs w i := by
  unfold rowsL at h
  obtain ⟨k, hk, e⟩ := List.mem_map.mp (List.mem_reverse.mp h)
  exact ⟨k, List.mem_range.mp hk, e.symm⟩
def spBW (R : VK → Hp → List Nat → Nat → Nat → Prop) : Sp := fun vs H Q _ => ∃ (a b : Addr) (hs : List Nat) (w r : Nat), vs = [.ref a, .ref b] ∧ HistAt H a hs ∧ LB H b hs.length w r ∧ 1 ≤ w ∧ w ≤ 999 ∧ 1 ≤ r ∧ r ≤ 999 ∧ R Q H hs w r
def rowsR : VK → Hp → List Nat → Nat → Nat → Prop := fun Q H hs w _ => ∀ (p : Addr) (ps : List Addr) (H' : Hp), Same H H' → H' p = some (.tup (refs ps)) → RowsAt H' ps (rowsL hs w) → Q (.ref p) H'
theorem sc_rows_of : FnScope ["history", "bounds", "pairs", "_", "row"] ["history", "bounds"] (defScope s_rows_of) := ⟨rfl, rfl, rfl, by decide +kernel, rfl, by decide +kernel, by decide +kernel⟩
theorem ok_rows_of {P : Program} {w : World} {K : PySem.W.Frag} {mg : Str → Option Value} {base : Heap} (D : Dfn K mg "rows_of" s_rows_of) (B : Bn mg) (c_need_bounds : Cal P w K mg base 5 "need_bounds" ["history", "bounds"] spBF) (c_walked : Cal P w K mg base 3 "walked" ["history", "bounds", "versions"] (spWk walkedR)) (c_all_versions : Cal P w K mg base 1 "all_versions" ["history"] spAllV)   : Cal P w K mg base 6 "rows_of" ["history", "bounds"] (spBW rowsR) := by
  refine D.cal sc_rows_of (fun vs H Q E h => ?_) (fun _ _ _ _ _ _ us hl => match us, hl with | [_, _], _ => rfl) (fun f cdv A outer s H vs Q E hr h => ?_)
  · obtain ⟨_, _, _, _, _, rfl, _⟩ := h
    rfl
  obtain ⟨a, b, hs, w', r, rfl, hA, hb, w1, w2, r1, r2, q⟩ := h
  refine ⟨_, (pss_cons (ps_expr (pe_cal c_need_bounds hr (by first | decide | omega) rfl (pa_cons (pv 0) (pa_cons (pv 1) pa_nil))))
     (pss_cons (ps_set (i := 2) sc_rows_of.nd rfl (.inl rfl) (pe_cal c_walked hr (by first | decide | omega) rfl (pa_cons (pv 0) (pa_cons (pv 1) (pa_cons (pe_cal c_all_versions hr (by first | decide | omega) rfl (pa_cons (pv 0) pa_nil)) pa_nil)))))
     (pss_one (ps_ret (pe_callTy call_tuple_of rfl B.tuple_ bo_tuple (pa_cons (pe_lc (own := [("_", 3), ("row", 4)]) (g := (gTup K 2 (gCons (gName 3) (gCons (gName 4) gNil)))) (tt := tYes) rfl sc_rows_of.nd (pi_list (pe_revL (pv 2))) (blkOk_by (own := [("_", 3), ("row", 4)]) (N := ["history", "bounds", "pairs", "_", "row"]) (sc := defScope s_rows_of) (by decide +kernel)) (fun _ _ _ _ _ => (pg_tup rfl (pgs_cons (pg_name (i := 3) sc_rows_of.nd rfl (.inl rfl)) (pgs_cons (pg_name (i := 4) sc_rows_of.nd rfl (.inl rfl)) pgs_nil)))) (fun _ _ _ _ _ => pts_nil) (fun _ _ _ _ _ => (pv 4))) pa_nil)))))), ?_⟩
  refine ⟨_, rfl, _, rfl, a, b, hs, w', r, rfl, hA.1, hb, by have := hA.2.2; omega, w1, w2, r1, r2, fun H1 s1 => ?_⟩
  have hA1 := hA.same s1
  refine ⟨_, rfl, _, rfl, _, rfl, a, hs, rfl, hA1.1, by have := hA.2.2; omega, fun sv H2 s2 hsv => ?_⟩
  refine ⟨a, b, sv, hs, w', r, _, rfl, hA1.same s2, hb.same (s1.trans s2), hsv, sub_all _, w1, by omega, fun p ts H3 s3 hp hts => ?_⟩
  have hz : ts.length ≤ 45 := by
    have h1 := hts.1
    have h2 := hA.2.2
    unfold wkL at h1
    rw [List.length_map, List.length_reverse, List.length_range'] at h1
    omega
  refine ⟨_, rfl, p, _, rfl, SqL.of hp, fun R nR => ⟨R, rfl, ⟨_, SqL.of upd_same⟩, fun D1 n1 => ?_⟩⟩
  have s4 := same_new nR (.lst (refs ts).reverse)
  have sA := s1.trans (s2.trans (s3.trans s4))
  refine lc_list (xs := (refs ts).reverse) (fun i H' => Same (upd H3 R (.lst (refs ts).reverse)) H' ∧ ∃ rs, H' D1 = some (.lst (refs rs)) ∧ RowsAt H' rs ((((wkL hs w' (List.range' 1 hs.length)).reverse).take i).map (·.2))) ⟨same_new n1 _, [], upd_same, by rw [List.take_zero]; exact RowsAt.nil⟩ (fun i H' _ p => SqL.of (p.1 _ _ upd_same)) (fun i x H' hi p => ?_) fun H' p => ?_
  · rw [refs_rev] at hi
    obtain ⟨t, ht, rfl⟩ := refs_get hi
    have hi2 : i < ts.length := by
      have := (List.getElem?_eq_some_iff.mp ht).1
      rw [List.length_reverse] at this
      exact this
    rw [List.getElem?_reverse hi2] at ht
    have hk : ts.length = (wkL hs w' (List.range' 1 hs.length)).length := hts.1
    obtain ⟨x0, hx0⟩ : ∃ x0, (wkL hs w' (List.range' 1 hs.length))[ts.length - 1 - i]? = some x0 := ⟨_, List.getElem?_eq_getElem (by omega)⟩
    have hx : (wkL hs w' (List.range' 1 hs.length)).reverse[i]? = some x0 := by
      rw [List.getElem?_reverse (by omega), ← hk]
      exact hx0
    obtain ⟨pr, g1, g2⟩ := hts.2 _ t _ ht hx0
    obtain ⟨s5, rs, d1, d2⟩ := p
    refine ⟨t, _, rfl, SqT.of (s5 _ _ (s4 _ _ g1)), rfl, _, _, rfl, _, _, rfl, rfl, rfl, ?_⟩
    unfold tYes
    dsimp only
    rw [if_pos rfl]
    refine ⟨_, rfl, refs rs, d1, ?_, same_mut s5 n1, rs ++ [pr], ?_, ?_⟩
    · rw [refs_len, d2.1, List.length_map, List.length_take, List.length_reverse, ← hts.1]
      exact sz_lt (by omega)
    · rw [upd_same]
      unfold refs
      rw [List.map_append]
      rfl
    · rw [take_more hx, List.map_append]
      exact (d2.snoc (s5 _ _ (s4 _ _ g2))).updL d1
  · obtain ⟨s5, rs, d1, d2⟩ := p
    refine ⟨D1, _, rfl, .inl ⟨SqL.of d1, fun T nT => ?_⟩⟩
    have s6 := same_new nT (.tup (refs rs))
    refine q T rs _ (sA.trans (s5.trans s6)) upd_same ?_
    have e : (refs ts).reverse.length = (wkL hs w' (List.range' 1 hs.length)).reverse.length := by rw [List.length_reverse, List.length_reverse, refs_len, hts.1]
    rw [e, List.take_length, wkL_rev hA.2.1] at d2
    exact d2.same s6
theorem atI_last {xs : List V} {x : V} : atI (xs ++ [x]) (-1) = some x := by
  unfold atI ixN
  rw [List.length_append]
  show (if 0 ≤ (-1 : Int) then _ else if -((xs.length + 1 : Nat) : Int) ≤ -1 then some (-1 + ((xs.length + 1 : Nat) : Int)).toNat else none).bind _ = _
  rw [if_neg (by decide), if_pos (by omega), show (-1 + ((xs.length + 1 : Nat) : Int)).toNat = xs.length by omega]
  show (xs ++ [x])[xs.length]? = _
  rw [List.getElem?_append_right (Nat.le_refl _), Nat.sub_self]
  rfl
/-- the heights -/
def hgL (hs : List Nat) (w : Nat) : List Nat := (rowsL hs w).map fun l => l.getLastD 0
theorem hgL_len (hs : List Nat) (w : Nat) : (hgL hs w).length = hs.length := by
  unfold hgL
  rw [List.length_map, rowsL_len]
theorem last_at {l : List Nat} (h : l ≠ []) : atI (nv l) (-1) = some (.int ((l.getLastD 0 : Nat) : Int)) := by
  obtain ⟨m, x, rfl⟩ : ∃ m x, l = m ++ [x] := ⟨l.dropLast, l.getLast h, (List.dropLast_concat_getLast h).symm⟩
  rw [nv_app, List.getLastD_concat]
  exact atI_last
def ntR (f : List Nat → Nat → Nat → List V) : VK → Hp → List Nat → Nat → Nat → Prop := fun Q H hs w r => NT Q H (f hs w r)
theorem sc_walk_heights : FnScope ["history", "bounds", "row"] ["history", "bounds"] (defScope s_walk_heights) := ⟨rfl, rfl, rfl, by decide +kernel, rfl, by decide +kernel, by decide +kernel⟩
theorem ok_walk_heights {P : Program} {w : World} {K : PySem.W.Frag} {mg : Str → Option Value} {base : Heap} (D : Dfn K mg "walk_heights" s_walk_heights) (B : Bn mg) (c_rows_of : Cal P w K mg base 6 "rows_of" ["history", "bounds"] (spBW rowsR))   : Cal P w K mg base 7 "walk_heights" ["history", "bounds"] (spBW (ntR fun hs w _ => nv (hgL hs w))) := by
  refine D.cal sc_walk_heights (fun vs H Q E h => ?_) (fun _ _ _ _ _ _ us hl => match us, hl with | [_, _], _ => rfl) (fun f cdv A outer s H vs Q E hr h => ?_)
  · obtain ⟨_, _, _, _, _, rfl, _⟩ := h
    rfl
  obtain ⟨a, b, hs, w', r, rfl, hA, hb, w1, w2, r1, r2, q⟩ := h
  refine ⟨_, (pss_one (ps_ret (pe_callTy call_tuple_of rfl B.tuple_ bo_tuple (pa_cons (pe_lc (own := [("row", 2)]) (g := (gName 2)) (tt := tYes) rfl sc_walk_heights.nd (pi_tup (pe_cal c_rows_of hr (by first | decide | omega) rfl (pa_cons (pv 0) (pa_cons (pv 1) pa_nil)))) (blkOk_by (own := [("row", 2)]) (N := ["history", "bounds", "row"]) (sc := defScope s_walk_heights) (by decide +kernel)) (fun _ _ _ _ _ => (pg_name (i := 2) sc_walk_heights.nd rfl (.inl rfl))) (fun _ _ _ _ _ => pts_nil) (fun _ _ _ _ _ => (pe_ix (r := rIxT K) ix_tup (pv 2) (pe_un un_neg pe_int) (fun _ _ => rfl)))) pa_nil)))), ?_⟩
  refine ⟨_, rfl, _, rfl, a, b, hs, w', r, rfl, hA, hb, w1, w2, r1, r2, fun p ps H1 s1 hp hps => ?_⟩
  refine ⟨p, rfl, ⟨_, SqT.of hp⟩, fun D1 n1 => lcT (nv (hgL hs w')) hp n1 ?_ ?_ (fun i x y H' hx hy s2 R hR => ?_) fun H2 s2 d2 => ?_⟩
  · rw [nv_len, refs_len, hps.1, hgL_len, rowsL_len]
  · rw [refs_len, hps.1, rowsL_len]
    have := hA.2.2
    omega
  · obtain ⟨t, ht, rfl⟩ := refs_get hx
    have hi : i < (rowsL hs w').length := by rw [← hps.1]; exact (List.getElem?_eq_some_iff.mp ht).1
    have hli := List.getElem?_eq_getElem hi
    have ey : y = .int (((rowsL hs w')[i].getLastD 0 : Nat) : Int) := by
      have : (nv (hgL hs w'))[i]? = some (.int (((rowsL hs w')[i].getLastD 0 : Nat) : Int)) := nv_at (by unfold hgL; rw [List.getElem?_map, hli]; rfl)
      rw [this] at hy
      exact (Option.some.inj hy).symm
    subst ey
    obtain ⟨k, _, ek⟩ := rowsL_mem (List.getElem_mem hi)
    exact ⟨rfl, _, rfl, _, rfl, t, _, _, _, rfl, rfl, SqT.of (s2 _ _ (hps.2 i t _ ht hli)), last_at (by rw [ek]; exact rowI_ne _ _ _), hR H' (Same.refl _)⟩
  · exact ⟨D1, _, rfl, .inl ⟨SqL.of d2, fun t nt => q t _ (s1.trans (s2.trans (same_new nt _))) upd_same⟩⟩
def topR : VK → Hp → List Nat → Nat → Nat → Prop := fun Q H hs w _ => 1 ≤ hs.length ∧ ∀ m : Nat, (∃ l ∈ rowsL hs w, l.headD 0 = m) → (∀ l ∈ rowsL hs w, l.headD 0 ≤ m) → ∀ H', Same H H' → Q (.int (m : Int)) H'
def tpL (hs : List Nat) (w : Nat) : List Nat := (rowsL hs w).map fun l => l.headD 0
theorem sc_top_of : FnScope ["history", "bounds", "row"] ["history", "bounds"] (defScope s_top_of) := ⟨rfl, rfl, rfl, by decide +kernel, rfl, by decide +kernel, by decide +kernel⟩
theorem ok_top_of {P : Program} {w : World} {K : PySem.W.Frag} {mg : Str → Option Value} {base : Heap} (D : Dfn K mg "top_of" s_top_of) (B : Bn mg) (c_rows_of : Cal P w K mg base 6 "rows_of" ["history", "bounds"] (spBW rowsR))   : Cal P w K mg base 7 "top_of" ["history", "bounds"] (spBW topR) := by
  refine D.cal sc_top_of (fun vs H Q E h => ?_) (fun _ _ _ _ _ _ us hl => match us, hl with | [_, _], _ => rfl) (fun f cdv A outer s H vs Q E hr h => ?_)
  · obtain ⟨_, _, _, _, _, rfl, _⟩ := h
    rfl
  obtain ⟨a, b, hs, w', r, rfl, hA, hb, w1, w2, r1, r2, hl, q⟩ := h
  refine ⟨_, (pss_one (ps_ret (pe_callBK (cr_maxD rfl) rfl B.max_ bo_max (pa_cons (pe_lc (own := [("row", 2)]) (g := (gName 2)) (tt := tYes) rfl sc_top_of.nd (pi_tup (pe_cal c_rows_of hr (by first | decide | omega) rfl (pa_cons (pv 0) (pa_cons (pv 1) pa_nil)))) (blkOk_by (own := [("row", 2)]) (N := ["history", "bounds", "row"]) (sc := defScope s_top_of) (by decide +kernel)) (fun _ _ _ _ _ => (pg_name (i := 2) sc_top_of.nd rfl (.inl rfl))) (fun _ _ _ _ _ => pts_nil) (fun _ _ _ _ _ => (pe_ix (r := rIxT K) ix_tup (pv 2) pe_int (fun _ _ => rfl)))) pa_nil) (pk_cons pe_int pk_nil)))), ?_⟩
  refine ⟨_, rfl, _, rfl, a, b, hs, w', r, rfl, hA, hb, w1, w2, r1, r2, fun p ps H1 s1 hp hps => ?_⟩
  have hlen : (tpL hs w').length = hs.length := by
    unfold tpL
    rw [List.length_map, rowsL_len]
  refine ⟨p, rfl, ⟨_, SqT.of hp⟩, fun D1 n1 => lcT (nv (tpL hs w')) hp n1 ?_ ?_ (fun i x y H' hx hy s2 R hR => ?_) fun H2 s2 d2 => ?_⟩
  · rw [nv_len, refs_len, hps.1, hlen, rowsL_len]
  · rw [refs_len, hps.1, rowsL_len]
    have := hA.2.2
    omega
  · obtain ⟨t, ht, rfl⟩ := refs_get hx
    have hi : i < (rowsL hs w').length := by rw [← hps.1]; exact (List.getElem?_eq_some_iff.mp ht).1
    have hli := List.getElem?_eq_getElem hi
    have ey : y = .int (((rowsL hs w')[i].headD 0 : Nat) : Int) := by
      have : (nv (tpL hs w'))[i]? = some (.int (((rowsL hs w')[i].headD 0 : Nat) : Int)) := nv_at (by unfold tpL; rw [List.getElem?_map, hli]; rfl)
      rw [this] at hy
      exact (Option.some.inj hy).symm
    subst ey
    obtain ⟨k, _, ek⟩ := rowsL_mem (List.getElem_mem hi)
    have hne := rowI_ne hs w' k
    rw [← ek] at hne
    refine ⟨rfl, _, rfl, t, _, _, _, rfl, rfl, SqT.of (s2 _ _ (hps.2 i t _ ht hli)), nv_atI (i := 0) (x := (rowsL hs w')[i].headD 0) ?_, hR H' (Same.refl _)⟩
    cases e : (rowsL hs w')[i] with
    | nil => exact absurd e hne
    | cons z l => rfl
  · refine ⟨D1, iv (tpL hs w'), rfl, rfl, by rw [nv_iv]; exact SqL.of d2, by unfold iv; rw [List.length_map, hlen]; exact hl, fun m hm hle => ?_⟩
    obtain ⟨e, hm2⟩ := iv_nat hm
    obtain ⟨l, hl1, hl2⟩ := List.mem_map.mp hm2
    rw [← e]
    refine q m.toNat ⟨l, hl1, hl2⟩ (fun l' hl' => ?_) H2 (s1.trans s2)
    have := hle ((l'.headD 0 : Nat) : Int) (List.mem_map.mpr ⟨l'.headD 0, List.mem_map.mpr ⟨l', hl', rfl⟩, rfl⟩)
    omega
theorem abv_all {hs : List Nat} (hh : Hist hs) (w r : Nat) : abv hs w r (List.range' 1 hs.length) = decide (Cb (r + w) w ≤ Wt w mAll (foAll hs)) := by
  unfold abv
  rw [mks_all hh]
def keepR : VK → Hp → List Nat → Nat → Nat → Prop := fun Q H hs w r => ∀ H', Same H H' → Q (.bl (!abv hs w r (List.range' 1 hs.length))) H'
theorem sc_can_keep : FnScope ["history", "bounds"] ["history", "bounds"] (defScope s_can_keep) := ⟨rfl, rfl, rfl, by decide +kernel, rfl, by decide +kernel, by decide +kernel⟩
theorem ok_can_keep {P : Program} {w : World} {K : PySem.W.Frag} {mg : Str → Option Value} {base : Heap} (D : Dfn K mg "can_keep" s_can_keep) (B : Bn mg) (c_need_bounds : Cal P w K mg base 5 "need_bounds" ["history", "bounds"] spBF) (c_goes_above : Cal P w K mg base 4 "goes_above" ["history", "bounds", "versions"] (spWk aboveR)) (c_all_versions : Cal P w K mg base 1 "all_versions" ["history"] spAllV)   : Cal P w K mg base 6 "can_keep" ["history", "bounds"] (spBW keepR) := by
  refine D.cal sc_can_keep (fun vs H Q E h => ?_) (fun _ _ _ _ _ _ us hl => match us, hl with | [_, _], _ => rfl) (fun f cdv A outer s H vs Q E hr h => ?_)
  · obtain ⟨_, _, _, _, _, rfl, _⟩ := h
    rfl
  obtain ⟨a, b, hs, w', r, rfl, hA, hb, w1, w2, r1, r2, q⟩ := h
  refine ⟨_, (pss_cons (ps_expr (pe_cal c_need_bounds hr (by first | decide | omega) rfl (pa_cons (pv 0) (pa_cons (pv 1) pa_nil))))
     (pss_one (ps_ret (pe_not (pe_cal c_goes_above hr (by first | decide | omega) rfl (pa_cons (pv 0) (pa_cons (pv 1) (pa_cons (pe_cal c_all_versions hr (by first | decide | omega) rfl (pa_cons (pv 0) pa_nil)) pa_nil)))))))), ?_⟩
  refine ⟨_, rfl, _, rfl, a, b, hs, w', r, rfl, hA.1, hb, by have := hA.2.2; omega, w1, w2, r1, r2, fun H1 s1 => ?_⟩
  have hA1 := hA.same s1
  refine ⟨_, rfl, _, rfl, _, rfl, a, hs, rfl, hA1.1, by have := hA.2.2; omega, fun sv H2 s2 hsv => ?_⟩
  exact ⟨a, b, sv, hs, w', r, _, rfl, hA1.same s2, hb.same (s1.trans s2), hsv, sub_all _, w1, by omega, fun H3 s3 => ⟨_, rfl, q H3 (s1.trans (s2.trans s3))⟩⟩
/-! ### the wall -/
def wallL (hs : List Nat) (w r : Nat) : List Nat := strike hs w r (List.range' 1 hs.length).reverse (List.range' 1 hs.length)
def wallR : VK → Hp → List Nat → Nat → Nat → Prop := fun Q H hs w r => (abv hs w r (List.range' 1 hs.length) = false → ∀ H', Same H H' → Q .non H') ∧ (abv hs w r (List.range' 1 hs.length) = true → NT Q H (nv (wallL hs w r)))
theorem sc_wall_in : FnScope ["history", "bounds", "left", "version", "others", "other"] ["history", "bounds"] (defScope s_wall_in) := ⟨rfl, rfl, rfl, by decide +kernel, rfl, by decide +kernel, by decide +kernel⟩
theorem ok_wall_in {P : Program} {w : World} {K : PySem.W.Frag} {mg : Str → Option Value} {base : Heap} (D : Dfn K mg "wall_in" s_wall_in) (B : Bn mg) (c_need_bounds : Cal P w K mg base 5 "need_bounds" ["history", "bounds"] spBF) (c_all_versions : Cal P w K mg base 1 "all_versions" ["history"] spAllV) (c_goes_above : Cal P w K mg base 4 "goes_above" ["history", "bounds", "versions"] (spWk aboveR))   : Cal P w K mg base 6 "wall_in" ["history", "bounds"] (spBW wallR) := by
  refine D.cal sc_wall_in (fun vs H Q E h => ?_) (fun _ _ _ _ _ _ us hl => match us, hl with | [_, _], _ => rfl) (fun f cdv A outer s H vs Q E hr h => ?_)
  · obtain ⟨_, _, _, _, _, rfl, _⟩ := h
    rfl
  obtain ⟨a, b, hs, w', r, rfl, hA, hb, w1, w2, r1, r2, q1, q2⟩ := h
  refine ⟨_, (pss_cons (ps_expr (pe_cal c_need_bounds hr (by first | decide | omega) rfl (pa_cons (pv 0) (pa_cons (pv 1) pa_nil))))
     (pss_cons (ps_set (i := 2) sc_wall_in.nd rfl (.inl rfl) (pe_cal c_all_versions hr (by first | decide | omega) rfl (pa_cons (pv 0) pa_nil)))
     (pss_cons (ps_if (pt_not (pt_val (pe_cal c_goes_above hr (by first | decide | omega) rfl (pa_cons (pv 0) (pa_cons (pv 1) (pa_cons (pv 2) pa_nil))))))
     (pss_one (ps_ret pe_non))
     pss_nil)
     (pss_cons (ps_for PassesOwn.never rfl (pi_tup (pe_revT (pv 2))) (pg_name (i := 3) sc_wall_in.nd rfl (.inr rfl))
     (pss_cons (ps_set (i := 4) sc_wall_in.nd rfl (.inl rfl) (pe_callTy call_tuple_of rfl B.tuple_ bo_tuple (pa_cons (pe_lc (own := [("other", 5)]) (g := (gName 5)) rfl sc_wall_in.nd (pi_tup (pv 2)) (blkOk_by (own := [("other", 5)]) (N := ["history", "bounds", "left", "version", "others", "other"]) (sc := defScope s_wall_in) (by decide +kernel)) (fun _ _ _ _ _ => (pg_name (i := 5) sc_wall_in.nd rfl (.inl rfl))) (fun _ _ _ _ _ => (pts_one (pt_cmpR op_ne (pv 5) (pv 3) (nomark _)))) (fun _ _ _ _ _ => (pv 5))) pa_nil)))
     (pss_one (ps_if (pt_val (pe_cal c_goes_above hr (by first | decide | omega) rfl (pa_cons (pv 0) (pa_cons (pv 1) (pa_cons (pv 4) pa_nil)))))
     (pss_one (ps_set (i := 2) sc_wall_in.nd rfl (.inl rfl) (pv 4)))
     pss_nil))))
     (pss_one (ps_ret (pv 2))))))), ?_⟩
  refine ⟨_, rfl, _, rfl, a, b, hs, w', r, rfl, hA.1, hb, by have := hA.2.2; omega, w1, w2, r1, r2, fun H1 s1 => ?_⟩
  have hA1 := hA.same s1
  refine ⟨_, rfl, a, hs, rfl, hA1.1, by have := hA.2.2; omega, fun sv H2 s2 hsv => ?_⟩
  refine ⟨_, rfl, _, rfl, _, rfl, a, b, sv, hs, w', r, _, rfl, hA1.same s2, hb.same (s1.trans s2), hsv, sub_all _, w1, by omega, fun H3 s3 => ⟨_, rfl, ?_⟩⟩
  have sA := s1.trans (s2.trans s3)
  cases hc : abv hs w' r (List.range' 1 hs.length) with
  | false => exact iteT (q1 hc H3 sA)
  | true =>
    refine iteF ?_
    have hsv3 := s3 _ _ hsv
    refine ⟨_, rfl, sv, _, rfl, SqT.of hsv3, fun R nR => ⟨_, rfl, ⟨_, SqT.of upd_same⟩, ?_⟩⟩
    have s4 := same_new nR (.tup (nv (List.range' 1 hs.length)).reverse)
    rw [show (nv (List.range' 1 hs.length)).reverse = nv (List.range' 1 hs.length).reverse from List.map_reverse.symm] at s4 ⊢
    refine for_tup (xs := nv (List.range' 1 hs.length).reverse) (fun i σ' H' => Same H H' ∧ H' R = some (.tup (nv (List.range' 1 hs.length).reverse)) ∧ ∃ (L : Addr) (left : List Nat) (y3 y4 : Option V), σ' = [some (.ref a), some (.ref b), some (.ref L), y3, y4, none] ∧ H' L = some (.tup (nv left)) ∧ Sub left hs.length ∧ strike hs w' r ((List.range' 1 hs.length).reverse.drop i) left = wallL hs w' r)
      ⟨sA.trans s4, upd_same, sv, _, none, none, rfl, s4 _ _ hsv3, sub_all _, rfl⟩ (fun i σ' H' _ p => SqT.of p.2.1) (fun i x σ' H' hi p => ?_) (fun σ' H' p => ?_)
    · obtain ⟨s5, hR, L, left, y3, y4, rfl, hL, sub, st⟩ := p
      obtain ⟨v, hv, rfl⟩ := nv_get hi
      have hil := (List.getElem?_eq_some_iff.mp hv).1
      have hdrop : (List.range' 1 hs.length).reverse.drop i = v :: (List.range' 1 hs.length).reverse.drop (i + 1) := by
        rw [List.drop_eq_getElem_cons hil]
        congr 1
        exact (List.getElem?_eq_some_iff.mp hv).2
      rw [hdrop] at st
      have st : strike hs w' r ((List.range' 1 hs.length).reverse.drop (i + 1)) (if abv hs w' r (left.filter fun o => decide (o ≠ v)) = true then left.filter (fun o => decide (o ≠ v)) else left) = wallL hs w' r := st
      have hl2 := sub_len sub
      refine ⟨_, rfl, L, rfl, ⟨_, SqT.of hL⟩, fun D1 n1 => lc_tup (xs := nv left) (fun j H2 => Same H' H2 ∧ H2 D1 = some (.lst (nv ((left.take j).filter fun o => decide (o ≠ v))))) ⟨same_new n1 _, upd_same⟩ (fun j H2 _ p => SqT.of (p.1 _ _ hL)) (fun j x H2 hj p => ?_) fun H2 p => ?_⟩
      · obtain ⟨y, hy, rfl⟩ := nv_get hj
        refine ⟨rfl, _, rfl, _, rfl, rfl, _, rfl, ?_⟩
        have ef := filter_snoc (p := fun o => decide (o ≠ v)) hy
        by_cases c : y = v
        · refine iteFb (by rw [iEq, dT (by omega)]; rfl) ⟨p.1, ?_⟩
          rw [ef, if_neg (by rw [dF (by simpa using c)]; decide), List.append_nil]
          exact p.2
        · refine iteTb (by rw [iEq, dF (by omega)]; rfl) ⟨_, rfl, _, p.2, ?_, same_mut p.1 n1, ?_⟩
          · rw [nv_len]
            have := List.length_filter_le (fun o => decide (o ≠ v)) (left.take j)
            rw [List.length_take] at this
            have := hA.2.2
            exact sz_lt (by omega)
          · rw [ef, if_pos (dT c), nv_app]
            exact upd_same
      · obtain ⟨s6, d1⟩ := p
        rw [nv_len, List.take_length] at d1
        refine ⟨D1, _, rfl, .inl ⟨SqL.of d1, fun T nT => ?_⟩⟩
        have s7 := s5.trans (s6.trans (same_new nT (.tup (nv (left.filter fun o => decide (o ≠ v))))))
        have s8 := s6.trans (same_new nT (.tup (nv (left.filter fun o => decide (o ≠ v)))))
        refine ⟨_, rfl, _, rfl, _, rfl, a, b, T, hs, w', r, _, rfl, hA.same s7, hb.same s7, upd_same, sub.filter _, w1, by omega, fun H4 s9 => ⟨_, rfl, ?_⟩⟩
        cases hc2 : abv hs w' r (left.filter fun o => decide (o ≠ v)) with
        | true =>
          rw [hc2, if_pos rfl] at st
          exact iteT ⟨_, rfl, s7.trans s9, (s8.trans s9) _ _ hR, T, _, _, _, rfl, s9 _ _ upd_same, sub.filter _, st⟩
        | false =>
          rw [hc2, if_neg (by decide)] at st
          exact iteF ⟨s7.trans s9, (s8.trans s9) _ _ hR, L, left, _, _, rfl, (s8.trans s9) _ _ hL, sub, st⟩
    · obtain ⟨s5, hR, L, left, y3, y4, rfl, hL, sub, st⟩ := p
      rw [nv_len, List.drop_of_length_le (Nat.le_refl _)] at st
      have st : left = wallL hs w' r := st
      rw [st] at hL
      exact ⟨_, rfl, q2 hc L H' s5 hL⟩
end K67
set_option maxHeartbeats 1000000
namespace K67
open PySem PySem.Spec PyProof.Rows L2
/-! ### bases -/
def eld (hs ht : List Nat) (h : Nat) : Nat → Nat → Nat
  | 0, _ => 0
  | f + 1, u => if u = 0 then 0 else if ht.getD (u - 1) 0 ≤ h then eld hs ht h f (par hs u) else u
theorem eld_zero (hs ht : List Nat) (h : Nat) : ∀ f, eld hs ht h f 0 = 0
  | 0 => rfl
  | _ + 1 => rfl
def basL (hs ht : List Nat) : List Nat := (List.range hs.length).map fun k => eld hs ht (ht.getD k 0) hs.length (hs.getD k 0)
theorem basL_len (hs ht : List Nat) : (basL hs ht).length = hs.length := by
  unfold basL
  rw [List.length_map, List.length_range]
theorem getD_at {l : List Nat} {i : Nat} (h : i < l.length) : l[i]? = some (l.getD i 0) := by
  rw [List.getD_eq_getElem?_getD, List.getElem?_eq_getElem h]
  rfl
def spIsH : Sp := fun vs H Q _ => ∃ (a t : Addr) (hs ht : List Nat), vs = [.ref a, .ref t] ∧ H a = some (.tup (nv hs)) ∧ H t = some (.tup (nv ht)) ∧ ht.length = hs.length ∧ Pz ht ∧ hs.length ≤ 50000 ∧ ∀ H', Same H H' → Q (.bl true) H'
theorem sc_is_heights : FnScope ["history", "thing", "height"] ["history", "thing"] (defScope s_is_heights) := ⟨rfl, rfl, rfl, by decide +kernel, rfl, by decide +kernel, by decide +kernel⟩
theorem ok_is_heights {P : Program} {w : World} {K : PySem.W.Frag} {mg : Str → Option Value} {base : Heap} (D : Dfn K mg "is_heights" s_is_heights) (B : Bn mg) (c_is_natural : Cal P w K mg base 2 "is_natural" ["thing"] (spI1 (fun n => 1 ≤ n) fun _ => .bl true))   : Cal P w K mg base 3 "is_heights" ["history", "thing"] spIsH := by
  refine D.cal sc_is_heights (fun vs H Q E h => ?_) (fun _ _ _ _ _ _ us hl => match us, hl with | [_, _], _ => rfl) (fun f cdv A outer s H vs Q E hr h => ?_)
  · obtain ⟨_, _, _, _, rfl, _⟩ := h
    rfl
  obtain ⟨a, t, hs, ht, rfl, ha, hT, hl, hp, hz, q⟩ := h
  refine ⟨_, (pss_cons (ps_if (PW.pt (pw_or (pt_not (pt_val (pe_callB call_isi rfl B.isinstance_ bo_isinstance (pa_cons (pv 1) (pa_cons (pe_bltn (v := .ty "tuple") rfl B.tuple_ bo_tuple rfl) pa_nil))))) (pw_or1 (pt_cmpR op_ne (pe_callB call_len_seq rfl B.len_ bo_len (pa_cons (pv 1) pa_nil)) (pe_callB call_len_seq rfl B.len_ bo_len (pa_cons (pv 0) pa_nil)) (nomark _)))))
     (pss_one (ps_ret pe_bl))
     pss_nil)
     (pss_one (ps_ret (pe_callB (cr_all rfl) rfl B.all_ bo_all (pa_cons (pe_lc (own := [("height", 2)]) (g := (gName 2)) (tt := tYes) rfl sc_is_heights.nd (pi_tup (pv 1)) (blkOk_by (own := [("height", 2)]) (N := ["history", "thing", "height"]) (sc := defScope s_is_heights) (by decide +kernel)) (fun _ _ _ _ _ => (pg_name (i := 2) sc_is_heights.nd rfl (.inl rfl))) (fun _ _ _ _ _ => pts_nil) (fun _ _ _ _ _ => (pe_cal c_is_natural hr (by first | decide | omega) rfl (pa_cons (pv 2) pa_nil)))) pa_nil))))), ?_⟩
  refine ⟨_, rfl, _, _, _, _, _, rfl, cn, tx_t hT, ki_tt, true, rfl, ?_⟩
  dsimp only
  refine iteFb rfl ⟨_, rfl, t, _, rfl, .inr (SqT.of hT), _, rfl, a, _, rfl, .inr (SqT.of ha), rfl, _, rfl, iteFb (by rw [nv_len, nv_len, hl, iEq, dT rfl]; rfl) ?_⟩
  refine ⟨_, rfl, t, rfl, ⟨_, SqT.of hT⟩, fun D1 n1 => lcT (List.replicate (nv ht).length (.bl true)) hT n1 (by simp) (by rw [nv_len]; omega) (fun i x y H' hx hy s1 R hR => ?_) fun H1 s1 d1 => ?_⟩
  · obtain ⟨z, hz', rfl⟩ := nv_get hx
    have ey : y = .bl true := (List.mem_replicate.mp (List.mem_of_getElem? hy)).2
    subst ey
    exact ⟨rfl, _, rfl, _, rfl, by have := hp z (List.mem_of_getElem? hz'); omega, hR H' (Same.refl _)⟩
  · exact ⟨D1, List.replicate (nv ht).length true, rfl, by rw [rep_bl]; exact SqL.of d1, qT (all_true _) (q H1 s1)⟩
def spBas : Sp := fun vs H Q _ => ∃ (a t : Addr) (hs ht : List Nat), vs = [.ref a, .ref t] ∧ HistAt H a hs ∧ H t = some (.tup (nv ht)) ∧ ht.length = hs.length ∧ Pz ht ∧ NT Q H (nv (basL hs ht))
theorem sc_bases_by : FnScope ["history", "heights", "bases", "height", "parent", "elder"] ["history", "heights"] (defScope s_bases_by) := ⟨rfl, rfl, rfl, by decide +kernel, rfl, by decide +kernel, by decide +kernel⟩
theorem ok_bases_by {P : Program} {w : World} {K : PySem.W.Frag} {mg : Str → Option Value} {base : Heap} (D : Dfn K mg "bases_by" s_bases_by) (B : Bn mg) (c_is_heights : Cal P w K mg base 3 "is_heights" ["history", "thing"] spIsH)   : Cal P w K mg base 4 "bases_by" ["history", "heights"] spBas := by
  refine D.cal sc_bases_by (fun vs H Q E h => ?_) (fun _ _ _ _ _ _ us hl => match us, hl with | [_, _], _ => rfl) (fun f cdv A outer s H vs Q E hr h => ?_)
  · obtain ⟨_, _, _, _, rfl, _⟩ := h
    rfl
  obtain ⟨a, t, hs, ht, rfl, hA, hT, hl, hp, q⟩ := h
  have hn := hA.2.2
  have hh := hA.2.1
  refine ⟨_, (pss_cons (ps_if (pt_not (pt_val (pe_cal c_is_heights hr (by first | decide | omega) rfl (pa_cons (pv 0) (pa_cons (pv 1) pa_nil)))))
     (pss_one ps_never)
     pss_nil)
     (pss_cons (ps_set (i := 2) sc_bases_by.nd rfl (.inl rfl) (pe_lst pa_nil))
     (pss_cons (ps_for PassesOwn.never rfl (RZ.pi_zipA rfl B.zip_ (pa_cons (pv 1) (pa_cons (pv 0) pa_nil))) (pg_tup rfl (pgs_cons (pg_name (i := 3) sc_bases_by.nd rfl (.inl rfl)) (pgs_cons (pg_name (i := 4) sc_bases_by.nd rfl (.inl rfl)) pgs_nil)))
     (pss_cons (ps_set (i := 5) sc_bases_by.nd rfl (.inl rfl) (pv 4))
     (pss_cons (ps_while PassesOwn.never (PW.pt (pw_and (pt_cmpR op_ne (pv 5) pe_int (nomark _)) (pw_and1 (pt_cmpR op_le (pe_ix ix_tup (pv 1) (pe_op op_sub (pv 5) pe_int) (fun _ _ => rfl)) (pv 3) (nomark _)))))
     (pss_one (ps_set (i := 5) sc_bases_by.nd rfl (.inl rfl) (pe_ix ix_tup (pv 0) (pe_op op_sub (pv 5) pe_int) (fun _ _ => rfl)))))
     (pss_one (ps_expr (pe_bm PySem.F.plainAttrs_list PySem.F.slot_list_append PySem.F.type_list_append mt_append (pv 2) (pa_cons (pv 5) pa_nil)))))))
     (pss_one (ps_ret (pe_callTy call_tuple_of rfl B.tuple_ bo_tuple (pa_cons (pv 2) pa_nil))))))), ?_⟩
  refine ⟨_, rfl, _, rfl, a, t, hs, ht, rfl, hA.1, hT, hl, hp, by omega, fun H1 s1 => ⟨true, rfl, iteF ?_⟩⟩
  refine ⟨Nat.zero_le _, fun R nR => ?_⟩
  have nR0 := s1.free nR
  have s2 := s1.trans (same_new nR (.lst []))
  refine ⟨_, rfl, _, rfl, t, a, nv ht, nv hs, rfl, .inr ⟨SqT.of (s2 _ _ hT), SqT.of (s2 _ _ hA.1), ?_⟩⟩
  refine RZ.for_zipT (xs := nv ht) (ys := nv hs) (by rw [nv_len, nv_len, hl]) (fun i σ' H' => Same H H' ∧ H' R = some (.lst (nv ((basL hs ht).take i))) ∧ ∃ y3 y4 y5 : Option V, σ' = [some (.ref a), some (.ref t), some (.ref R), y3, y4, y5]) ⟨s2, upd_same, none, none, none, rfl⟩ (fun i σ' H' p => ⟨SqT.of (p.1 _ _ hT), SqT.of (p.1 _ _ hA.1)⟩) (fun i x y T σ' H' hx hy p nT => ?_) (fun σ' H' p => ?_)
  · obtain ⟨s3, hR, y3, y4, y5, rfl⟩ := p
    obtain ⟨hg, hhg, rfl⟩ := nv_get hx
    obtain ⟨pa, hpa, rfl⟩ := nv_get hy
    have hi : i < hs.length := (List.getElem?_eq_some_iff.mp hpa).1
    have hpi := hh i pa hpa
    have s4 := s3.trans (same_new nT (.tup [.int (hg : Int), .int (pa : Int)]))
    have hR4 := (same_new nT (.tup [.int (hg : Int), .int (pa : Int)])) _ _ hR
    have hT4 := s4 _ _ hT
    have ha4 := s4 _ _ hA.1
    refine ⟨T, _, rfl, SqT.of upd_same, rfl, _, _, rfl, _, _, rfl, rfl, ?_⟩
    have tgt : (basL hs ht)[i]? = some (eld hs ht hg hs.length pa) := by
      unfold basL
      rw [List.getElem?_map, List.getElem?_range hi]
      show some (eld hs ht (ht.getD i 0) hs.length (hs.getD i 0)) = _
      have e1 : hs.getD i 0 = pa := by rw [List.getD_eq_getElem?_getD, hpa]; rfl
      have e2 : ht.getD i 0 = hg := by rw [List.getD_eq_getElem?_getD, hhg]; rfl
      rw [e1, e2]
    refine ⟨_, rfl, fun k σ' H2 => H2 = upd H' T (.tup [.int (hg : Int), .int (pa : Int)]) ∧ ∃ u f : Nat, σ' = [some (.ref a), some (.ref t), some (.ref R), some (.int (hg : Int)), some (.int (pa : Int)), some (.int (u : Int))] ∧ u ≤ f ∧ u ≤ hs.length ∧ eld hs ht hg f u = eld hs ht hg hs.length pa ∧ k = u, ⟨_, rfl, pa, hs.length, rfl, by omega, by omega, rfl, rfl⟩, ?_⟩
    rintro k σ2 H2 ⟨rfl, u, f', rfl, uf, un, he, rfl⟩
    have fin : ∀ u : Nat, eld hs ht hg hs.length pa = u → nv (List.take (i + 1) (basL hs ht)) = nv (List.take i (basL hs ht)) ++ [V.int (u : Int)] := fun u e => by
      rw [take_more tgt, nv_app, e]
      rfl
    have sz : (nv ((basL hs ht).take i)).length < sizeLine := by
      rw [nv_len, List.length_take, basL_len]
      exact sz_lt (by omega)
    refine ⟨_, rfl, rfl, _, rfl, ?_⟩
    by_cases c : k = 0
    · subst c
      rw [eld_zero] at he
      refine iteFb (by rw [iEq]; rfl) (iteF ?_)
      refine ⟨_, rfl, .inl ⟨rfl, _, SqL.of hR4⟩, _, rfl, R, _, _, rfl, rfl, hR4, sz, ?_⟩
      exact ⟨same_mut s4 nR0, by rw [upd_same, fin 0 he.symm], _, _, _, rfl⟩
    · cases f' with
      | zero => omega
      | succ f' =>
        have pk := par_lt hh (v := k) (by omega)
        have hat : atI (nv ht) ((k : Int) - 1) = some (.int ((ht.getD (k - 1) 0 : Nat) : Int)) := by
          rw [show (k : Int) - 1 = ((k - 1 : Nat) : Int) by omega]
          exact nv_atI (getD_at (by omega))
        have hat2 : atI (nv hs) ((k : Int) - 1) = some (.int ((par hs k : Nat) : Int)) := by
          rw [show (k : Int) - 1 = ((k - 1 : Nat) : Int) by omega]
          exact nv_atI (par_at (by omega) un)
        have he : (if k = 0 then 0 else if ht.getD (k - 1) 0 ≤ hg then eld hs ht hg f' (par hs k) else k) = eld hs ht hg hs.length pa := he
        rw [if_neg c] at he
        refine iteTb (by rw [iEq, dF (by omega)]; rfl) ?_
        refine ⟨_, rfl, _, rfl, _, _, rfl, rfl, t, _, _, _, rfl, rfl, SqT.of hT4, hat, _, rfl, _, _, rfl, rfl, _, rfl, ?_⟩
        by_cases d : ht.getD (k - 1) 0 ≤ hg
        · rw [if_pos d] at he
          refine iteTb (dT (by omega)) ⟨_, fun σ2 H2 hN => hN, ?_⟩
          exact ⟨_, rfl, _, rfl, _, _, rfl, rfl, a, _, _, _, rfl, rfl, SqT.of ha4, hat2, par hs k, by omega, rfl, par hs k, f', rfl, by omega, by omega, he, rfl⟩
        · rw [if_neg d] at he
          refine iteFb (dF (by omega)) ?_
          refine ⟨_, rfl, .inl ⟨rfl, _, SqL.of hR4⟩, _, rfl, R, _, _, rfl, rfl, hR4, sz, ?_⟩
          exact ⟨same_mut s4 nR0, by rw [upd_same, fin k he.symm], _, _, _, rfl⟩
  · obtain ⟨s3, hR, y3, y4, y5, rfl⟩ := p
    rw [nv_len, hl, List.take_of_length_le (by rw [basL_len]; omega)] at hR
    exact ⟨_, rfl, R, _, rfl, .inl ⟨SqL.of hR, fun u nu => q.new s3 nu⟩⟩
/-! ### plans of kept histories -/
theorem hgL_pz (hs : List Nat) {w : Nat} (hw : 1 ≤ w) : Pz (hgL hs w) := fun x hx => by
  obtain ⟨l, hl, e⟩ := List.mem_map.mp hx
  obtain ⟨i, _, el⟩ := rowsL_mem hl
  have hne := rowI_ne hs w i
  have hp := rowI_pz hs hw i
  rw [← el] at hne hp
  obtain ⟨m, y, rfl⟩ : ∃ m x, l = m ++ [x] := ⟨l.dropLast, l.getLast hne, (List.dropLast_concat_getLast hne).symm⟩
  rw [List.getLastD_concat] at e
  rw [← e]
  exact hp y (List.mem_append.mpr (.inr List.mem_cons_self))
def planL (hs : List Nat) (w : Nat) : List Nat := basL hs (hgL hs w)
def planR : VK → Hp → List Nat → Nat → Nat → Prop := fun Q H hs w r => abv hs w r (List.range' 1 hs.length) = false ∧ NT Q H (nv (planL hs w))
theorem sc_plan_for : FnScope ["history", "bounds", "heights", "wall"] ["history", "bounds"] (defScope s_plan_for) := ⟨rfl, rfl, rfl, by decide +kernel, rfl, by decide +kernel, by decide +kernel⟩
theorem ok_plan_for {P : Program} {w : World} {K : PySem.W.Frag} {mg : Str → Option Value} {base : Heap} (D : Dfn K mg "plan_for" s_plan_for) (B : Bn mg) (c_walk_heights : Cal P w K mg base 7 "walk_heights" ["history", "bounds"] (spBW (ntR fun hs w _ => nv (hgL hs w)))) (c_wall_in : Cal P w K mg base 6 "wall_in" ["history", "bounds"] (spBW wallR)) (c_bases_by : Cal P w K mg base 4 "bases_by" ["history", "heights"] spBas)   : Cal P w K mg base 8 "plan_for" ["history", "bounds"] (spBW planR) := by
  refine D.cal sc_plan_for (fun vs H Q E h => ?_) (fun _ _ _ _ _ _ us hl => match us, hl with | [_, _], _ => rfl) (fun f cdv A outer s H vs Q E hr h => ?_)
  · obtain ⟨_, _, _, _, _, rfl, _⟩ := h
    rfl
  obtain ⟨a, b, hs, w', r, rfl, hA, hb, w1, w2, r1, r2, hk, q⟩ := h
  refine ⟨_, (pss_cons (ps_set (i := 2) sc_plan_for.nd rfl (.inl rfl) (pe_cal c_walk_heights hr (by first | decide | omega) rfl (pa_cons (pv 0) (pa_cons (pv 1) pa_nil))))
     (pss_cons (ps_set (i := 3) sc_plan_for.nd rfl (.inl rfl) (pe_cal c_wall_in hr (by first | decide | omega) rfl (pa_cons (pv 0) (pa_cons (pv 1) pa_nil))))
     (pss_cons (ps_if (pt_cmpR op_notN (pv 3) pe_non (nomark _))
     (pss_one ps_never)
     pss_nil)
     (pss_one (ps_ret (pe_cal c_bases_by hr (by first | decide | omega) rfl (pa_cons (pv 0) (pa_cons (pv 2) pa_nil)))))))), ?_⟩
  refine ⟨_, rfl, _, rfl, a, b, hs, w', r, rfl, hA, hb, w1, w2, r1, r2, fun t H1 s1 ht => ?_⟩
  refine ⟨_, rfl, _, rfl, a, b, hs, w', r, rfl, hA.same s1, hb.same s1, w1, w2, r1, r2, fun _ H2 s2 => ?_, fun z => by rw [hk] at z; cases z⟩
  refine ⟨_, rfl, rfl, _, rfl, iteFb rfl ?_⟩
  exact ⟨_, rfl, _, rfl, a, t, hs, _, rfl, hA.same (s1.trans s2), s2 _ _ ht, hgL_len _ _, hgL_pz _ w1, fun p H3 s3 hp => q p H3 (s1.trans (s2.trans s3)) hp⟩
end K67
set_option maxHeartbeats 1000000
namespace K67
open PySem PySem.Spec PyProof.Rows L2
/-! ### sameness -/
def SameI (H : Hp) (g d : V) : Prop := (∃ i : Int, g = .int i ∧ d = .int i) ∨ ∃ b : Bool, g = .bl b ∧ d = .bl b
def SameV (H : Hp) (g d : V) : Prop := SameI H g d ∨ ∃ (p q : Addr) (l : List Nat), g = .ref p ∧ d = .ref q ∧ H p = some (.tup (nv l)) ∧ H q = some (.tup (nv l)) ∧ l.length ≤ 50000
def spSameI : Sp := fun vs H Q _ => ∃ g d, vs = [g, d] ∧ SameI H g d ∧ Q (.bl true) H
def spSame : Sp := fun vs H Q _ => ∃ g d, vs = [g, d] ∧ SameV H g d ∧ Q (.bl true) H
theorem sc__law_same : FnScope ["_law_got", "_law_due", "_law_k"] ["_law_got", "_law_due"] (defScope s__law_same) := ⟨rfl, rfl, rfl, by decide +kernel, rfl, by decide +kernel, by decide +kernel⟩
theorem ok__law_sameI {P : Program} {w : World} {K : PySem.W.Frag} {mg : Str → Option Value} {base : Heap} (D : Dfn K mg "_law_same" s__law_same) (B : Bn mg)    : Cal P w K mg base 1 "_law_same" ["_law_got", "_law_due"] spSameI := by
  refine D.cal sc__law_same (fun vs H Q E h => ?_) (fun _ _ _ _ _ _ us hl => match us, hl with | [_, _], _ => rfl) (fun f cdv A outer s H vs Q E hr h => ?_)
  · obtain ⟨_, _, rfl, _⟩ := h
    rfl
  obtain ⟨g, d, rfl, hs, q⟩ := h
  refine ⟨_, (pss_cons (ps_if (pt_cmpR op_isN (pv 1) pe_non (nomark _))
     (pss_one (ps_ret (pe_cmpR op_isN (pv 0) pe_non (nomark _))))
     pss_nil)
     (pss_cons (ps_if (pt_val (pe_callB call_isi rfl B.isinstance_ bo_isinstance (pa_cons (pv 1) (pa_cons (pe_bltn (v := .ty "tuple") rfl B.tuple_ bo_tuple rfl) pa_nil))))
     (pss_cons (ps_if (PW.pt (pw_or (pt_not (pt_val (pe_callB call_isi rfl B.isinstance_ bo_isinstance (pa_cons (pv 0) (pa_cons (pe_bltn (v := .ty "tuple") rfl B.tuple_ bo_tuple rfl) pa_nil))))) (pw_or1 (pt_cmpR op_ne (pe_callB call_len_seq rfl B.len_ bo_len (pa_cons (pv 0) pa_nil)) (pe_callB call_len_seq rfl B.len_ bo_len (pa_cons (pv 1) pa_nil)) (nomark _)))))
     (pss_one (ps_ret pe_bl))
     pss_nil)
     (pss_cons ps_never
     (pss_one (ps_ret pe_bl))))
     pss_nil)
     (pss_cons (ps_if (PW.pt (pw_or (pt_val (pe_callB call_isi rfl B.isinstance_ bo_isinstance (pa_cons (pv 1) (pa_cons (pe_bltn (v := .ty "bool") rfl B.bool_ bo_bool rfl) pa_nil)))) (pw_or1 (pt_val (pe_callB call_isi rfl B.isinstance_ bo_isinstance (pa_cons (pv 0) (pa_cons (pe_bltn (v := .ty "bool") rfl B.bool_ bo_bool rfl) pa_nil)))))))
     (pss_one (ps_ret (pe_and (pe_callB call_isi rfl B.isinstance_ bo_isinstance (pa_cons (pv 1) (pa_cons (pe_bltn (v := .ty "bool") rfl B.bool_ bo_bool rfl) pa_nil))) (pe_and (pe_callB call_isi rfl B.isinstance_ bo_isinstance (pa_cons (pv 0) (pa_cons (pe_bltn (v := .ty "bool") rfl B.bool_ bo_bool rfl) pa_nil))) (pe_one (pe_cmpR op_eq (pv 0) (pv 1) (nomark _)))))))
     pss_nil)
     (pss_cons (ps_if (pt_val (pe_callB call_isi rfl B.isinstance_ bo_isinstance (pa_cons (pv 1) (pa_cons (pe_bltn (v := .ty "str") rfl B.str_ bo_str rfl) pa_nil))))
     (pss_one (ps_ret (pe_and (pe_callB call_isi rfl B.isinstance_ bo_isinstance (pa_cons (pv 0) (pa_cons (pe_bltn (v := .ty "str") rfl B.str_ bo_str rfl) pa_nil))) (pe_one (pe_cmpR op_eq (pv 0) (pv 1) (nomark _))))))
     pss_nil)
     (pss_one (ps_ret (pe_and (pe_callB call_isi rfl B.isinstance_ bo_isinstance (pa_cons (pv 0) (pa_cons (pe_bltn (v := .ty "int") rfl B.int_ bo_int rfl) pa_nil))) (pe_one (pe_cmpR op_eq (pv 0) (pv 1) (nomark _)))))))))), ?_⟩
  rcases hs with ⟨i, rfl, rfl⟩ | ⟨b, rfl, rfl⟩
  · refine ⟨_, rfl, rfl, _, rfl, iteF ?_⟩
    refine ⟨_, rfl, _, _, _, _, _, rfl, cn, tx_i, ki_it, false, rfl, iteF ?_⟩
    refine ⟨_, rfl, _, _, _, _, _, rfl, cn, tx_i, ki_ib, false, rfl, ?_⟩
    dsimp only
    refine iteF ⟨_, rfl, _, _, _, _, _, rfl, cn, tx_i, ki_ib, false, rfl, iteF ?_⟩
    refine ⟨_, rfl, _, _, _, _, _, rfl, cn, tx_i, ki_is, false, rfl, iteF ?_⟩
    exact ⟨_, rfl, _, _, _, _, _, rfl, cn, tx_i, ki_ii, true, rfl, iteT ⟨_, rfl, _, rfl, rfl, qT (dT rfl) q⟩⟩
  · refine ⟨_, rfl, rfl, _, rfl, iteF ?_⟩
    refine ⟨_, rfl, _, _, _, _, _, rfl, cn, tx_b, ki_bt, false, rfl, iteF ?_⟩
    refine ⟨_, rfl, _, _, _, _, _, rfl, cn, tx_b, ki_bb, true, rfl, ?_⟩
    dsimp only
    refine iteT (iteT ?_)
    exact ⟨_, rfl, _, _, _, _, _, rfl, cn, tx_b, ki_bb, true, rfl, iteT ⟨_, rfl, _, _, _, _, _, rfl, cn, tx_b, ki_bb, true, rfl, iteT ⟨_, rfl, _, rfl, rfl, qT (dT rfl) q⟩⟩⟩
theorem ok__law_same {P : Program} {w : World} {K : PySem.W.Frag} {mg : Str → Option Value} {base : Heap} (D : Dfn K mg "_law_same" s__law_same) (B : Bn mg)   (c__law_same : Cal P w K mg base 1 "_law_same" ["_law_got", "_law_due"] spSameI) : Cal P w K mg base 2 "_law_same" ["_law_got", "_law_due"] spSame := by
  refine D.cal sc__law_same (fun vs H Q E h => ?_) (fun _ _ _ _ _ _ us hl => match us, hl with | [_, _], _ => rfl) (fun f cdv A outer s H vs Q E hr h => ?_)
  · obtain ⟨_, _, rfl, _⟩ := h
    rfl
  obtain ⟨g, d, rfl, hs, q⟩ := h
  refine ⟨_, (pss_cons (ps_if (pt_cmpR op_isN (pv 1) pe_non (nomark _))
     (pss_one (ps_ret (pe_cmpR op_isN (pv 0) pe_non (nomark _))))
     pss_nil)
     (pss_cons (ps_if (pt_val (pe_callB call_isi rfl B.isinstance_ bo_isinstance (pa_cons (pv 1) (pa_cons (pe_bltn (v := .ty "tuple") rfl B.tuple_ bo_tuple rfl) pa_nil))))
     (pss_cons (ps_if (PW.pt (pw_or (pt_not (pt_val (pe_callB call_isi rfl B.isinstance_ bo_isinstance (pa_cons (pv 0) (pa_cons (pe_bltn (v := .ty "tuple") rfl B.tuple_ bo_tuple rfl) pa_nil))))) (pw_or1 (pt_cmpR op_ne (pe_callB call_len_seq rfl B.len_ bo_len (pa_cons (pv 0) pa_nil)) (pe_callB call_len_seq rfl B.len_ bo_len (pa_cons (pv 1) pa_nil)) (nomark _)))))
     (pss_one (ps_ret pe_bl))
     pss_nil)
     (pss_cons (ps_for PassesOwn.never rfl (pi_range1 rfl B.range_ (pa_cons (pe_callB call_len_seq rfl B.len_ bo_len (pa_cons (pv 1) pa_nil)) pa_nil)) (pg_name (i := 2) sc__law_same.nd rfl (.inl rfl))
     (pss_one (ps_if (pt_not (pt_val (pe_cal c__law_same hr (by first | decide | omega) rfl (pa_cons (pe_ix ix_tup (pv 0) (pv 2) (fun _ _ => rfl)) (pa_cons (pe_ix ix_tup (pv 1) (pv 2) (fun _ _ => rfl)) pa_nil)))))
     (pss_one (ps_ret pe_bl))
     pss_nil)))
     (pss_one (ps_ret pe_bl))))
     pss_nil)
     (pss_cons (ps_if (PW.pt (pw_or (pt_val (pe_callB call_isi rfl B.isinstance_ bo_isinstance (pa_cons (pv 1) (pa_cons (pe_bltn (v := .ty "bool") rfl B.bool_ bo_bool rfl) pa_nil)))) (pw_or1 (pt_val (pe_callB call_isi rfl B.isinstance_ bo_isinstance (pa_cons (pv 0) (pa_cons (pe_bltn (v := .ty "bool") rfl B.bool_ bo_bool rfl) pa_nil)))))))
     (pss_one (ps_ret (pe_and (pe_callB call_isi rfl B.isinstance_ bo_isinstance (pa_cons (pv 1) (pa_cons (pe_bltn (v := .ty "bool") rfl B.bool_ bo_bool rfl) pa_nil))) (pe_and (pe_callB call_isi rfl B.isinstance_ bo_isinstance (pa_cons (pv 0) (pa_cons (pe_bltn (v := .ty "bool") rfl B.bool_ bo_bool rfl) pa_nil))) (pe_one (pe_cmpR op_eq (pv 0) (pv 1) (nomark _)))))))
     pss_nil)
     (pss_cons (ps_if (pt_val (pe_callB call_isi rfl B.isinstance_ bo_isinstance (pa_cons (pv 1) (pa_cons (pe_bltn (v := .ty "str") rfl B.str_ bo_str rfl) pa_nil))))
     (pss_one (ps_ret (pe_and (pe_callB call_isi rfl B.isinstance_ bo_isinstance (pa_cons (pv 0) (pa_cons (pe_bltn (v := .ty "str") rfl B.str_ bo_str rfl) pa_nil))) (pe_one (pe_cmpR op_eq (pv 0) (pv 1) (nomark _))))))
     pss_nil)
     (pss_one (ps_ret (pe_and (pe_callB call_isi rfl B.isinstance_ bo_isinstance (pa_cons (pv 0) (pa_cons (pe_bltn (v := .ty "int") rfl B.int_ bo_int rfl) pa_nil))) (pe_one (pe_cmpR op_eq (pv 0) (pv 1) (nomark _)))))))))), ?_⟩
  rcases hs with (⟨i, rfl, rfl⟩ | ⟨b, rfl, rfl⟩) | ⟨p, r, l, rfl, rfl, hp, hr', hz⟩
  · refine ⟨_, rfl, rfl, _, rfl, iteF ?_⟩
    refine ⟨_, rfl, _, _, _, _, _, rfl, cn, tx_i, ki_it, false, rfl, iteF ?_⟩
    refine ⟨_, rfl, _, _, _, _, _, rfl, cn, tx_i, ki_ib, false, rfl, ?_⟩
    dsimp only
    refine iteF ⟨_, rfl, _, _, _, _, _, rfl, cn, tx_i, ki_ib, false, rfl, iteF ?_⟩
    refine ⟨_, rfl, _, _, _, _, _, rfl, cn, tx_i, ki_is, false, rfl, iteF ?_⟩
    exact ⟨_, rfl, _, _, _, _, _, rfl, cn, tx_i, ki_ii, true, rfl, iteT ⟨_, rfl, _, rfl, rfl, qT (dT rfl) q⟩⟩
  · refine ⟨_, rfl, rfl, _, rfl, iteF ?_⟩
    refine ⟨_, rfl, _, _, _, _, _, rfl, cn, tx_b, ki_bt, false, rfl, iteF ?_⟩
    refine ⟨_, rfl, _, _, _, _, _, rfl, cn, tx_b, ki_bb, true, rfl, ?_⟩
    dsimp only
    refine iteT (iteT ?_)
    exact ⟨_, rfl, _, _, _, _, _, rfl, cn, tx_b, ki_bb, true, rfl, iteT ⟨_, rfl, _, _, _, _, _, rfl, cn, tx_b, ki_bb, true, rfl, iteT ⟨_, rfl, _, rfl, rfl, qT (dT rfl) q⟩⟩⟩
  · refine ⟨_, rfl, rfl, _, rfl, iteF ?_⟩
    refine ⟨_, rfl, _, _, _, _, _, rfl, cn, tx_t hr', ki_tt, true, rfl, iteT ?_⟩
    refine ⟨_, rfl, _, _, _, _, _, rfl, cn, tx_t hp, ki_tt, true, rfl, ?_⟩
    dsimp only
    refine iteFb rfl ⟨_, rfl, p, _, rfl, .inr (SqT.of hp), _, rfl, r, _, rfl, .inr (SqT.of hr'), rfl, _, rfl, iteFb (by rw [iEq, dT rfl]; rfl) ?_⟩
    refine ⟨_, rfl, r, _, rfl, .inr (SqT.of hr'), _, rfl, by omega, by rw [nv_len]; omega, ?_⟩
    rw [show (((nv l).length : Nat) : Int).toNat = l.length by rw [nv_len]; omega]
    refine for_range (fun i σ' H' => H' = H ∧ ∃ y : Option V, σ' = [some (.ref p), some (.ref r), y]) ⟨rfl, none, rfl⟩ (fun i σ' H' hi z => ?_) (fun σ' H' z => ?_)
    · obtain ⟨rfl, y, rfl⟩ := z
      have hx := List.getElem?_eq_getElem hi
      have e0 : (0 : Int) + ((i : Nat) : Int) = (i : Int) := Int.zero_add _
      refine ⟨_, rfl, _, rfl, p, _, _, _, rfl, rfl, SqT.of hp, by rw [e0]; exact nv_atI hx, ?_⟩
      refine ⟨_, rfl, _, rfl, r, _, _, _, rfl, rfl, SqT.of hr', by rw [e0]; exact nv_atI hx, ?_⟩
      exact ⟨_, _, rfl, .inl ⟨_, rfl, rfl⟩, true, rfl, iteF ⟨rfl, _, rfl⟩⟩
    · obtain ⟨rfl, y, rfl⟩ := z
      exact q
theorem ok__law_sameIH {P : Program} {w : World} {K : PySem.W.Frag} {mg : Str → Option Value} {base : Heap} (D : Dfn K mg "_law_same" s__law_same) (B : Bn mg)    : CalH P w K mg base 1 "_law_same" ["_law_got", "_law_due"] spSameI := by
  refine D.calH sc__law_same (fun vs H Q E h => ?_) (fun _ _ _ _ _ _ us hl => match us, hl with | [_, _], _ => rfl) (fun f cdv A outer s H vs Q E hp hot hr h => ?_)
  · obtain ⟨_, _, rfl, _⟩ := h
    rfl
  obtain ⟨g, d, rfl, hs, q⟩ := h
  refine ⟨_, (pss_cons (ps_if (pt_cmpR op_isN (pv 1) pe_non (nomark _))
     (pss_one (ps_ret (pe_cmpR op_isN (pv 0) pe_non (nomark _))))
     pss_nil)
     (pss_cons (ps_if (pt_val (pe_callB call_isi rfl B.isinstance_ bo_isinstance (pa_cons (pv 1) (pa_cons (pe_bltn (v := .ty "tuple") rfl B.tuple_ bo_tuple rfl) pa_nil))))
     (pss_cons (ps_if (PW.pt (pw_or (pt_not (pt_val (pe_callB call_isi rfl B.isinstance_ bo_isinstance (pa_cons (pv 0) (pa_cons (pe_bltn (v := .ty "tuple") rfl B.tuple_ bo_tuple rfl) pa_nil))))) (pw_or1 (pt_cmpR op_ne (pe_callB call_len_seq rfl B.len_ bo_len (pa_cons (pv 0) pa_nil)) (pe_callB call_len_seq rfl B.len_ bo_len (pa_cons (pv 1) pa_nil)) (nomark _)))))
     (pss_one (ps_ret pe_bl))
     pss_nil)
     (pss_cons ps_never
     (pss_one (ps_ret pe_bl))))
     pss_nil)
     (pss_cons (ps_if (PW.pt (pw_or (pt_val (pe_callB call_isi rfl B.isinstance_ bo_isinstance (pa_cons (pv 1) (pa_cons (pe_bltn (v := .ty "bool") rfl B.bool_ bo_bool rfl) pa_nil)))) (pw_or1 (pt_val (pe_callB call_isi rfl B.isinstance_ bo_isinstance (pa_cons (pv 0) (pa_cons (pe_bltn (v := .ty "bool") rfl B.bool_ bo_bool rfl) pa_nil)))))))
     (pss_one (ps_ret (pe_and (pe_callB call_isi rfl B.isinstance_ bo_isinstance (pa_cons (pv 1) (pa_cons (pe_bltn (v := .ty "bool") rfl B.bool_ bo_bool rfl) pa_nil))) (pe_and (pe_callB call_isi rfl B.isinstance_ bo_isinstance (pa_cons (pv 0) (pa_cons (pe_bltn (v := .ty "bool") rfl B.bool_ bo_bool rfl) pa_nil))) (pe_one (pe_cmpR op_eq (pv 0) (pv 1) (nomark _)))))))
     pss_nil)
     (pss_cons (ps_if (pt_val (pe_callB call_isi rfl B.isinstance_ bo_isinstance (pa_cons (pv 1) (pa_cons (pe_bltn (v := .ty "str") rfl B.str_ bo_str rfl) pa_nil))))
     (pss_one (ps_ret (pe_and (pe_callB call_isi rfl B.isinstance_ bo_isinstance (pa_cons (pv 0) (pa_cons (pe_bltn (v := .ty "str") rfl B.str_ bo_str rfl) pa_nil))) (pe_one (pe_cmpR op_eq (pv 0) (pv 1) (nomark _))))))
     pss_nil)
     (pss_one (ps_ret (pe_and (pe_callB call_isi rfl B.isinstance_ bo_isinstance (pa_cons (pv 0) (pa_cons (pe_bltn (v := .ty "int") rfl B.int_ bo_int rfl) pa_nil))) (pe_one (pe_cmpR op_eq (pv 0) (pv 1) (nomark _)))))))))), ?_⟩
  rcases hs with ⟨i, rfl, rfl⟩ | ⟨b, rfl, rfl⟩
  · refine ⟨_, rfl, rfl, _, rfl, iteF ?_⟩
    refine ⟨_, rfl, _, _, _, _, _, rfl, cn, tx_i, ki_it, false, rfl, iteF ?_⟩
    refine ⟨_, rfl, _, _, _, _, _, rfl, cn, tx_i, ki_ib, false, rfl, ?_⟩
    dsimp only
    refine iteF ⟨_, rfl, _, _, _, _, _, rfl, cn, tx_i, ki_ib, false, rfl, iteF ?_⟩
    refine ⟨_, rfl, _, _, _, _, _, rfl, cn, tx_i, ki_is, false, rfl, iteF ?_⟩
    exact ⟨_, rfl, _, _, _, _, _, rfl, cn, tx_i, ki_ii, true, rfl, iteT ⟨_, rfl, _, rfl, rfl, qT (dT rfl) q⟩⟩
  · refine ⟨_, rfl, rfl, _, rfl, iteF ?_⟩
    refine ⟨_, rfl, _, _, _, _, _, rfl, cn, tx_b, ki_bt, false, rfl, iteF ?_⟩
    refine ⟨_, rfl, _, _, _, _, _, rfl, cn, tx_b, ki_bb, true, rfl, ?_⟩
    dsimp only
    refine iteT (iteT ?_)
    exact ⟨_, rfl, _, _, _, _, _, rfl, cn, tx_b, ki_bb, true, rfl, iteT ⟨_, rfl, _, _, _, _, _, rfl, cn, tx_b, ki_bb, true, rfl, iteT ⟨_, rfl, _, rfl, rfl, qT (dT rfl) q⟩⟩⟩
def spSameT : Sp := fun vs H Q _ => ∃ (p q : Addr) (l : List Nat), vs = [.ref p, .ref q] ∧ H p = some (.tup (nv l)) ∧ H q = some (.tup (nv l)) ∧ l.length ≤ 50000 ∧ Q (.bl true) H
theorem ok__law_sameH {P : Program} {w : World} {K : PySem.W.Frag} {mg : Str → Option Value} {base : Heap} (D : Dfn K mg "_law_same" s__law_same) (B : Bn mg)   (c__law_same : CalH P w K mg base 1 "_law_same" ["_law_got", "_law_due"] spSameI) : CalH P w K mg base 2 "_law_same" ["_law_got", "_law_due"] spSameT := by
  refine D.calH sc__law_same (fun vs H Q E h => ?_) (fun _ _ _ _ _ _ us hl => match us, hl with | [_, _], _ => rfl) (fun f cdv A outer s H vs Q E hp hot hr h => ?_)
  · obtain ⟨_, _, _, rfl, _⟩ := h
    rfl
  obtain ⟨p, r, l, rfl, hp', hr', hz, q⟩ := h
  refine ⟨_, (pss_cons (ps_if (pt_cmpR op_isN (pv 1) pe_non (nomark _))
     (pss_one (ps_ret (pe_cmpR op_isN (pv 0) pe_non (nomark _))))
     pss_nil)
     (pss_cons (ps_if (pt_val (pe_callB call_isi rfl B.isinstance_ bo_isinstance (pa_cons (pv 1) (pa_cons (pe_bltn (v := .ty "tuple") rfl B.tuple_ bo_tuple rfl) pa_nil))))
     (pss_cons (ps_if (PW.pt (pw_or (pt_not (pt_val (pe_callB call_isi rfl B.isinstance_ bo_isinstance (pa_cons (pv 0) (pa_cons (pe_bltn (v := .ty "tuple") rfl B.tuple_ bo_tuple rfl) pa_nil))))) (pw_or1 (pt_cmpR op_ne (pe_callB call_len_seq rfl B.len_ bo_len (pa_cons (pv 0) pa_nil)) (pe_callB call_len_seq rfl B.len_ bo_len (pa_cons (pv 1) pa_nil)) (nomark _)))))
     (pss_one (ps_ret pe_bl))
     pss_nil)
     (pss_cons (L2H.ps_forH PassesOwn.never ⟨hp, hot, List.mem_cons_self⟩ (L2H.pi_range1H rfl B.range_ (pa_cons (pe_callB call_len_seq rfl B.len_ bo_len (pa_cons (pv 1) pa_nil)) pa_nil)) (pg_name (i := 2) sc__law_same.nd rfl (.inl rfl))
     (pss_one (ps_if (pt_not (pt_val (pe_calH c__law_same hr ⟨hp, hot, List.mem_cons_self⟩ (by decide) rfl (pa_cons (pe_ix ix_tup (pv 0) (pv 2) (fun _ _ => rfl)) (pa_cons (pe_ix ix_tup (pv 1) (pv 2) (fun _ _ => rfl)) pa_nil)))))
     (pss_one (ps_ret pe_bl))
     pss_nil)))
     (pss_one (ps_ret pe_bl))))
     pss_nil)
     (pss_cons (ps_if (PW.pt (pw_or (pt_val (pe_callB call_isi rfl B.isinstance_ bo_isinstance (pa_cons (pv 1) (pa_cons (pe_bltn (v := .ty "bool") rfl B.bool_ bo_bool rfl) pa_nil)))) (pw_or1 (pt_val (pe_callB call_isi rfl B.isinstance_ bo_isinstance (pa_cons (pv 0) (pa_cons (pe_bltn (v := .ty "bool") rfl B.bool_ bo_bool rfl) pa_nil)))))))
     (pss_one (ps_ret (pe_and (pe_callB call_isi rfl B.isinstance_ bo_isinstance (pa_cons (pv 1) (pa_cons (pe_bltn (v := .ty "bool") rfl B.bool_ bo_bool rfl) pa_nil))) (pe_and (pe_callB call_isi rfl B.isinstance_ bo_isinstance (pa_cons (pv 0) (pa_cons (pe_bltn (v := .ty "bool") rfl B.bool_ bo_bool rfl) pa_nil))) (pe_one (pe_cmpR op_eq (pv 0) (pv 1) (nomark _)))))))
     pss_nil)
     (pss_cons (ps_if (pt_val (pe_callB call_isi rfl B.isinstance_ bo_isinstance (pa_cons (pv 1) (pa_cons (pe_bltn (v := .ty "str") rfl B.str_ bo_str rfl) pa_nil))))
     (pss_one (ps_ret (pe_and (pe_callB call_isi rfl B.isinstance_ bo_isinstance (pa_cons (pv 0) (pa_cons (pe_bltn (v := .ty "str") rfl B.str_ bo_str rfl) pa_nil))) (pe_one (pe_cmpR op_eq (pv 0) (pv 1) (nomark _))))))
     pss_nil)
     (pss_one (ps_ret (pe_and (pe_callB call_isi rfl B.isinstance_ bo_isinstance (pa_cons (pv 0) (pa_cons (pe_bltn (v := .ty "int") rfl B.int_ bo_int rfl) pa_nil))) (pe_one (pe_cmpR op_eq (pv 0) (pv 1) (nomark _)))))))))), ?_⟩
  refine ⟨_, rfl, rfl, _, rfl, iteF ?_⟩
  refine ⟨_, rfl, _, _, _, _, _, rfl, cn, tx_t hr', ki_tt, true, rfl, iteT ?_⟩
  refine ⟨_, rfl, _, _, _, _, _, rfl, cn, tx_t hp', ki_tt, true, rfl, ?_⟩
  dsimp only
  refine iteFb rfl ⟨_, rfl, p, _, rfl, .inr (SqT.of hp'), _, rfl, r, _, rfl, .inr (SqT.of hr'), rfl, _, rfl, iteFb (by rw [iEq, dT rfl]; rfl) ?_⟩
  refine ⟨_, rfl, r, _, rfl, .inr (SqT.of hr'), _, rfl, by omega, by rw [nv_len]; omega, ?_⟩
  rw [show (((nv l).length : Nat) : Int).toNat = l.length by rw [nv_len]; omega]
  refine for_range (fun i σ' H' => H' = H ∧ ∃ y : Option V, σ' = [some (.ref p), some (.ref r), y]) ⟨rfl, none, rfl⟩ (fun i σ' H' hi z => ?_) (fun σ' H' z => ?_)
  · obtain ⟨rfl, y, rfl⟩ := z
    have hx := List.getElem?_eq_getElem hi
    have e0 : (0 : Int) + ((i : Nat) : Int) = (i : Int) := Int.zero_add _
    refine ⟨_, rfl, _, rfl, p, _, _, _, rfl, rfl, SqT.of hp', by rw [e0]; exact nv_atI hx, ?_⟩
    refine ⟨_, rfl, _, rfl, r, _, _, _, rfl, rfl, SqT.of hr', by rw [e0]; exact nv_atI hx, ?_⟩
    exact ⟨_, _, rfl, .inl ⟨_, rfl, rfl⟩, true, rfl, iteF ⟨rfl, _, rfl⟩⟩
  · obtain ⟨rfl, y, rfl⟩ := z
    exact q
/-! ### the error -/
structure CalX (P : Program) (w : World) (K : PySem.W.Frag) (mg : Str → Option Value) (base : Heap) (k : Nat) (x : Str) (ps : List Str) (sp : Sp) : Prop where
  ex : ∃ (f : Addr) (fd : FuncData), mg x = some (.ref f) ∧ FnOk P w K mg base (L2N.CX P w) k f fd ps sp ∧ L2.Binds K fd ps [] ∧ PySem.W.keepIn K (.ref f) = true
section
variable {P : Program} {w : World} {K : PySem.W.Frag} {mg : Str → Option Value} {base : Heap}
theorem Dfn.calX {x : Str} {st : Stmt} {N ps : List Str} {k : Nat} {sp : Sp} (D : Dfn K mg x st) (S : FnScope N ps (defScope st)) (len : ∀ vs H Q E, sp vs H Q E → vs.length = ps.length)
    (hb : ∀ (kV doc pm : Value) (an : Option Addr) (cdv ct : Value) (us : List Value), us.length = ps.length → bindArgs (PySem.W.fnOf x x (defArgs st) (defBody st) (defScope st) .none kV doc pm an cdv ct) ⟨us, []⟩ = pure (ps.zip us))
    (hbody : ∀ (f : Addr) (cdv : Value) (A : Around) (outer : List Env) (s : Shared) (H : Hp) (vs : List V) (Q : VK) (E : XK), Room k (A.deeper (envOfC x (defScope st) s.heap.objs.size f cdv)) → sp vs H Q E →
      ∃ t, PSs (cxOf (L2N.CX P w) P w K mg base N x (defScope st) f cdv A outer s H E) (defBody st) t ∧ t { nx := fun _ H' => Q .non H', rt := Q } (start N vs) H) : CalX P w K mg base (k + 1) x ps sp := by
  obtain ⟨f, fd, g, F⟩ := D.ex
  exact ⟨f, fd, g, F.ok S len fun cdv A outer s H vs Q E hr h => hbody f cdv A outer s H vs Q E hr h, F.bindsN hb, F.kp⟩
end
structure Unk (K : PySem.W.Frag) (mg : Str → Option Value) (C fI : Addr) (fd : FuncData) : Prop where
  gC : mg "Unkept" = some (.ref C)
  oex : OexC K C
  xf : XfC K C
  nw : PySem.W.findIn K (.ref C) "wall" = some none
  ini : PySem.W.findIn K (.ref C) "__init__" = some (some (.ref fI))
  tI : PySem.W.typeIn K (.ref fI) = some (.type "function")
  te : PySem.W.exmOne K (.ref C) (.ref C) = some true
  fn : FunD K "__init__" "Unkept.__init__" (defArgs sUnkI) (defBody sUnkI) (defScope sUnkI) [] [] fI fd
def spUI (C : Addr) : Sp := fun vs H Q _ => ∃ (x : Addr) (v : V), vs = [.ref x, v] ∧ H x = some (exo x C none) ∧ ∀ d, H d = none → d ≠ x → Q .non (upd (upd H d (exd d [(("wall" : Str), v)])) x (exo x C (some d)))
theorem sc_init : FnScope ["self", "wall"] ["self", "wall"] (defScope sUnkI) := ⟨rfl, rfl, rfl, by decide +kernel, rfl, by decide +kernel, by decide +kernel⟩
theorem ok_init {P : Program} {w : World} {K : PySem.W.Frag} {mg : Str → Option Value} {base : Heap} {C fI : Addr} {fd : FuncData} (U : Unk K mg C fI fd) : FnOk P w K mg base CX0 1 fI fd ["self", "wall"] (spUI C) ∧ L2.Binds K fd ["self", "wall"] [] := by
  refine ⟨U.fn.ok sc_init (fun vs H Q E h => ?_) (fun cdv A outer s H vs Q E hr h => ?_), U.fn.bindsN (fun _ _ _ _ _ _ us hl => match us, hl with | [_, _], _ => rfl)⟩
  · obtain ⟨_, _, rfl, _⟩ := h
    rfl
  · obtain ⟨x, v, rfl, hx, q⟩ := h
    refine ⟨_, PSs.nox (pss_one (ps_ost (pv 0) (pv 1))), ?_⟩
    exact ⟨_, rfl, _, rfl, x, C, rfl, U.oex, U.nw, .inl ⟨hx, fun dx n1 n2 => q dx n1 n2⟩⟩
/-- Unkept comes out, with the wall -/
def wallX : VK → XK → Hp → List Nat → Nat → Nat → Addr → Prop := fun _ E H hs w r C => abv hs w r (List.range' 1 hs.length) = true ∧ ∀ (H' : Hp) (d t : Addr), Same H H' → H' d = some (.xd [(("wall" : Str), .ref t)]) → H' t = some (.tup (nv (wallL hs w r))) → E (.ref C) (some d) H'
def spPX (C : Addr) : Sp := fun vs H Q E => ∃ (a b : Addr) (hs : List Nat) (w r : Nat), vs = [.ref a, .ref b] ∧ HistAt H a hs ∧ LB H b hs.length w r ∧ 1 ≤ w ∧ w ≤ 999 ∧ 1 ≤ r ∧ r ≤ 999 ∧ wallX Q E H hs w r C
theorem ok_plan_forX {P : Program} {w : World} {K : PySem.W.Frag} {mg : Str → Option Value} {base : Heap} (D : Dfn K mg "plan_for" s_plan_for) (B : Bn mg) (c_walk_heights : Cal P w K mg base 7 "walk_heights" ["history", "bounds"] (spBW (ntR fun hs w _ => nv (hgL hs w)))) (c_wall_in : Cal P w K mg base 6 "wall_in" ["history", "bounds"] (spBW wallR)) (c_bases_by : Cal P w K mg base 4 "bases_by" ["history", "heights"] spBas)  {C fI : Addr} {fdI : FuncData} (U : Unk K mg C fI fdI) : CalX P w K mg base 8 "plan_for" ["history", "bounds"] (spPX C) := by
  refine D.calX sc_plan_for (fun vs H Q E h => ?_) (fun _ _ _ _ _ _ us hl => match us, hl with | [_, _], _ => rfl) (fun f cdv A outer s H vs Q E hr h => ?_)
  · obtain ⟨_, _, _, _, _, rfl, _⟩ := h
    rfl
  obtain ⟨a, b, hs, w', r, rfl, hA, hb, w1, w2, r1, r2, hk, q⟩ := h
  refine ⟨_, (pss_cons (ps_set (i := 2) sc_plan_for.nd rfl (.inl rfl) (pe_cal c_walk_heights hr (by first | decide | omega) rfl (pa_cons (pv 0) (pa_cons (pv 1) pa_nil))))
     (pss_cons (ps_set (i := 3) sc_plan_for.nd rfl (.inl rfl) (pe_cal c_wall_in hr (by first | decide | omega) rfl (pa_cons (pv 0) (pa_cons (pv 1) pa_nil))))
     (pss_cons (ps_if (pt_cmpR op_notN (pv 3) pe_non (nomark _))
     (pss_one (L2N.ps_raise rfl (L2N.takes_of rfl rfl rfl rfl) (pmk_oexN U.oex U.ini U.tI (ok_init (P := P) (w := w) (base := base) U).1 (hr.mono (by decide)) (ok_init (P := P) (w := w) (base := base) U).2 rfl U.gC (pa_cons (pv 3) pa_nil))))
     pss_nil)
     (pss_one ps_never)))), ?_⟩
  refine ⟨_, rfl, _, rfl, a, b, hs, w', r, rfl, hA, hb, w1, w2, r1, r2, fun t H1 s1 ht => ?_⟩
  refine ⟨_, rfl, _, rfl, a, b, hs, w', r, rfl, hA.same s1, hb.same s1, w1, w2, r1, r2, fun z => (by rw [hk] at z; cases z), fun _ u H2 s2 hu => ?_⟩
  refine ⟨_, rfl, rfl, _, rfl, iteTb rfl ?_⟩
  refine ⟨_, rfl, by show 1 ≤ 1000; decide, fun x nx => ⟨x, _, rfl, upd_same, fun d nd ndx => ⟨rfl, d, [(("wall" : Str), .ref u)], upd_same, ?_, ?_, ?_⟩⟩⟩
  · rw [upd_ne ndx, upd_same]
  · rw [upd_ne ndx] at nd
    exact nd
  · have nd2 : H2 d = none := by
      rw [upd_ne ndx] at nd
      exact nd
    have sx : Same H2 (upd (del (upd (upd (upd H2 x (exo x C none)) d (exd d [(("wall" : Str), .ref u)])) x (exo x C (some d))) x) d (.xd [(("wall" : Str), .ref u)])) := fun b o hbo => by
      have n1 : b ≠ d := ne_of_none hbo nd2
      have n2 : b ≠ x := ne_of_none hbo nx
      rw [upd_ne n1, del_ne n2, upd_ne n2, upd_ne n1, upd_ne n2]
      exact hbo
    exact q _ d u (s1.trans (s2.trans sx)) upd_same (sx _ _ hu)
end K67
set_option maxHeartbeats 1000000
namespace K67
open PySem PySem.Spec PyProof.Rows L2
/-! ### plans counted: plain part -/
def sm (f : Nat → Nat) : Nat → Nat
  | 0 => 0
  | n + 1 => sm f n + f n
theorem sm_eq {f g : Nat → Nat} : ∀ {n : Nat}, (∀ i, i < n → f i = g i) → sm f n = sm g n
  | 0, _ => rfl
  | n + 1, h => by
    unfold sm
    rw [sm_eq fun i hi => h i (by omega), h n (by omega)]
theorem sm_le {f : Nat → Nat} {B : Nat} : ∀ {n : Nat}, (∀ i, i < n → f i ≤ B) → sm f n ≤ n * B
  | 0, _ => Nat.zero_le _
  | n + 1, h => by
    have h1 := sm_le fun i (hi : i < n) => h i (by omega)
    have h2 := h n (by omega)
    unfold sm
    rw [Nat.add_mul, Nat.one_mul]
    omega
theorem sm_zero {f : Nat → Nat} : ∀ {n : Nat}, (∀ i, i < n → f i = 0) → sm f n = 0
  | 0, _ => rfl
  | n + 1, h => by
    unfold sm
    rw [sm_zero fun i hi => h i (by omega), h n (by omega)]
theorem sm_one {f : Nat → Nat} {a : Nat} (ha : f a = 1) : ∀ {n : Nat}, a < n → (∀ i, i < n → i ≠ a → f i = 0) → sm f n = 1
  | 0, h, _ => absurd h (Nat.not_lt_zero _)
  | n + 1, hn, h => by
    unfold sm
    by_cases e : a = n
    · subst e
      rw [sm_zero fun i hi => h i (by omega) (by omega), ha]
    · rw [sm_one ha (by omega) fun i hi hne => h i (by omega) hne, h n (by omega) (fun z => e z.symm)]
def cnt : Nat → Nat → Nat → Nat → Nat
  | 0, m, _, _ => if m = 0 then 1 else 0
  | k + 1, m, w, r => if m = 0 then 1 else if w = 0 ∨ r = 0 then 0 else sm (fun i => cnt k i (w - 1) r * cnt k (m - 1 - i) w (r - 1)) m
theorem cn_nil (k w r : Nat) : cnt k 0 w r = 1 := by
  cases k <;> exact if_pos rfl
theorem cn_cap : ∀ (k j m w w' r r' : Nat), m ≤ k → m ≤ j → (w = w' ∨ (m ≤ w ∧ m ≤ w')) → (r = r' ∨ (m ≤ r ∧ m ≤ r')) → cnt k m w r = cnt j m w' r'
  | 0, j, m, w, w', r, r', hk, hj, _, _ => by
    have e : m = 0 := by omega
    subst e
    rw [cn_nil, cn_nil]
  | k + 1, 0, m, w, w', r, r', hk, hj, _, _ => by
    have e : m = 0 := by omega
    subst e
    rw [cn_nil, cn_nil]
  | k + 1, j + 1, m, w, w', r, r', hk, hj, hw, hr => by
    unfold cnt
    by_cases e : m = 0
    · rw [if_pos e, if_pos e]
    · rw [if_neg e, if_neg e]
      by_cases z : w = 0 ∨ r = 0
      · rw [if_pos z, if_pos (by omega)]
      · rw [if_neg z, if_neg (by omega)]
        refine sm_eq fun i hi => ?_
        rw [cn_cap k j i (w - 1) (w' - 1) r r' (by omega) (by omega) (by omega) (by omega), cn_cap k j (m - 1 - i) w w' (r - 1) (r' - 1) (by omega) (by omega) (by omega) (by omega)]
def ct (m w r : Nat) : Nat := cnt m m w r
theorem ct_nil (w r : Nat) : ct 0 w r = 1 := cn_nil _ _ _
theorem ct_flat {m w r : Nat} (hm : m ≠ 0) (h : w = 0 ∨ r = 0) : ct m w r = 0 := by
  obtain ⟨k, rfl⟩ : ∃ k, m = k + 1 := ⟨m - 1, by omega⟩
  show (if k + 1 = 0 then 1 else if w = 0 ∨ r = 0 then 0 else _) = 0
  rw [if_neg hm, if_pos h]
theorem ct_step {m w r : Nat} (hm : m ≠ 0) (hw : w ≠ 0) (hr : r ≠ 0) : ct m w r = sm (fun i => ct i (w - 1) r * ct (m - 1 - i) w (r - 1)) m := by
  obtain ⟨k, rfl⟩ : ∃ k, m = k + 1 := ⟨m - 1, by omega⟩
  show (if k + 1 = 0 then 1 else if w = 0 ∨ r = 0 then 0 else sm (fun i => cnt k i (w - 1) r * cnt k (k + 1 - 1 - i) w (r - 1)) (k + 1)) = _
  rw [if_neg hm, if_neg (by omega)]
  refine sm_eq fun i hi => ?_
  unfold ct
  rw [cn_cap k i i _ _ _ _ (by omega) (by omega) (.inl rfl) (.inl rfl), cn_cap k (k + 1 - 1 - i) (k + 1 - 1 - i) _ _ _ _ (by omega) (by omega) (.inl rfl) (.inl rfl)]
theorem ct_min (m w r : Nat) : ct m (min w m) (min r m) = ct m w r := cn_cap m m m _ _ _ _ (Nat.le_refl _) (Nat.le_refl _) (by omega) (by omega)
theorem Cb_wr {w r : Nat} (hw : w ≠ 0) (hr : r ≠ 0) : Cb (w + r) w = Cb (w - 1 + r) (w - 1) + Cb (w + (r - 1)) w := by
  obtain ⟨a, rfl⟩ : ∃ a, w = a + 1 := ⟨w - 1, by omega⟩
  obtain ⟨b, rfl⟩ : ∃ b, r = b + 1 := ⟨r - 1, by omega⟩
  rw [show a + 1 + (b + 1) = (a + 1 + b) + 1 by omega, Cb_succ, show a + 1 - 1 + (b + 1) = a + 1 + b by omega]
  rfl
theorem Cb_flat {w r : Nat} (h : w = 0 ∨ r = 0) : Cb (w + r) w = 1 := by
  rcases h with e | e
  · subst e
    exact Cb_zero _
  · subst e
    exact Cb_self _
theorem ct_zero : ∀ (k m w r : Nat), m ≤ k → Cb (w + r) w ≤ m → ct m w r = 0
  | 0, m, w, r, hk, h => by
    have := Cb_pos (w + r) w (by omega)
    omega
  | k + 1, m, w, r, hk, h => by
    have hp := Cb_pos (w + r) w (by omega)
    by_cases z : w = 0 ∨ r = 0
    · exact ct_flat (by omega) z
    · rw [ct_step (by omega) (by omega) (by omega)]
      have e := Cb_wr (w := w) (r := r) (by omega) (by omega)
      refine sm_zero fun i hi => ?_
      by_cases c : Cb (w - 1 + r) (w - 1) ≤ i
      · rw [ct_zero k i (w - 1) r (by omega) c, Nat.zero_mul]
      · rw [ct_zero k (m - 1 - i) w (r - 1) (by omega) (by omega), Nat.mul_zero]
theorem ct_one : ∀ (k m w r : Nat), m ≤ k → m + 1 = Cb (w + r) w → ct m w r = 1
  | 0, m, w, r, hk, h => by
    have e : m = 0 := by omega
    subst e
    exact ct_nil _ _
  | k + 1, m, w, r, hk, h => by
    by_cases e0 : m = 0
    · subst e0
      exact ct_nil _ _
    · by_cases z : w = 0 ∨ r = 0
      · rw [Cb_flat z] at h
        omega
      · rw [ct_step (by omega) (by omega) (by omega)]
        have e := Cb_wr (w := w) (r := r) (by omega) (by omega)
        have p1 := Cb_pos (w - 1 + r) (w - 1) (by omega)
        have p2 := Cb_pos (w + (r - 1)) w (by omega)
        refine sm_one (a := Cb (w - 1 + r) (w - 1) - 1) ?_ (by omega) fun i hi hne => ?_
        · show ct (Cb (w - 1 + r) (w - 1) - 1) (w - 1) r * ct (m - 1 - (Cb (w - 1 + r) (w - 1) - 1)) w (r - 1) = 1
          rw [ct_one k _ (w - 1) r (by omega) (by omega), ct_one k _ w (r - 1) (by omega) (by omega)]
        · by_cases c : Cb (w - 1 + r) (w - 1) ≤ i
          · rw [ct_zero i i (w - 1) r (Nat.le_refl _) c, Nat.zero_mul]
          · rw [ct_zero _ (m - 1 - i) w (r - 1) (Nat.le_refl _) (by omega), Nat.mul_zero]
theorem ct_le : ∀ (k m w r : Nat), m ≤ k → m ≤ 21 → ct m w r ≤ 21 ^ m
  | 0, m, w, r, hk, h => by
    have e : m = 0 := by omega
    subst e
    rw [ct_nil]
    exact Nat.le_refl _
  | k + 1, m, w, r, hk, h => by
    by_cases e0 : m = 0
    · subst e0
      rw [ct_nil]
      exact Nat.le_refl _
    · by_cases z : w = 0 ∨ r = 0
      · rw [ct_flat e0 z]
        exact Nat.zero_le _
      · rw [ct_step e0 (by omega) (by omega)]
        refine Nat.le_trans (sm_le (B := 21 ^ (m - 1)) fun i hi => ?_) ?_
        · have h1 := ct_le k i (w - 1) r (by omega) (by omega)
          have h2 := ct_le k (m - 1 - i) w (r - 1) (by omega) (by omega)
          have h3 := Nat.mul_le_mul h1 h2
          rw [← Nat.pow_add, show i + (m - 1 - i) = m - 1 by omega] at h3
          exact h3
        · have e1 : 21 ^ m = 21 * 21 ^ (m - 1) := by
            rw [Nat.mul_comm, ← Nat.pow_succ, show (m - 1).succ = m by omega]
          rw [e1]
          exact Nat.mul_le_mul h (Nat.le_refl _)
theorem log_lt {x : Nat} (h : x < 2 ^ 400) : Nat.log2 x < 400 := by
  by_cases e : x = 0
  · subst e
    decide
  · exact (Nat.log2_lt e).mpr h
theorem ct_log {m w r : Nat} (h : m ≤ 21) : Nat.log2 (ct m w r) < 400 := by
  refine log_lt (Nat.lt_of_le_of_lt (ct_le m m w r (Nat.le_refl _) h) ?_)
  exact Nat.lt_of_le_of_lt (Nat.pow_le_pow_right (by decide) h) (by decide +kernel)
/-! ### the memory -/
def k3 (m w r : Nat) : List Key := [.inl (m : Int), .inl (w : Int), .inl (r : Int)]
theorem k3_inj {m w r m' w' r' : Nat} (h : k3 m w r = k3 m' w' r') : m = m' ∧ w = w' ∧ r = r' := by
  unfold k3 at h
  simp only [List.cons.injEq, Sum.inl.injEq, and_true] at h
  omega
def box : List (List Key) := (List.range 22).flatMap fun m => (List.range 22).flatMap fun w => (List.range 22).map fun r => k3 m w r
theorem box_len : box.length = 10648 := by decide +kernel
structure Mem (kvs : List (List Key × V)) : Prop where
  nd : (kvs.map (·.1)).Nodup
  ok : ∀ p ∈ kvs, ∃ m w r : Nat, m ≤ 21 ∧ w ≤ 21 ∧ r ≤ 21 ∧ p = (k3 m w r, .int ((ct m w r : Nat) : Int))
theorem Mem.nil : Mem [] := ⟨List.Pairwise.nil, fun _ h => (nomatch h)⟩
theorem Mem.len {kvs : List (List Key × V)} (h : Mem kvs) : kvs.length ≤ 10648 := by
  have e := List.Nodup.length_le_of_subset h.nd (l₂ := box) fun k hk => by
    obtain ⟨p, hp, ek⟩ := List.mem_map.mp hk
    obtain ⟨m, w, r, h1, h2, h3, e⟩ := h.ok p hp
    subst e
    rw [← ek]
    exact List.mem_flatMap.mpr ⟨m, List.mem_range.mpr (by omega), List.mem_flatMap.mpr ⟨w, List.mem_range.mpr (by omega), List.mem_map.mpr ⟨r, List.mem_range.mpr (by omega), rfl⟩⟩⟩
  rw [List.length_map, box_len] at e
  exact e
theorem Mem.get {kvs : List (List Key × V)} (h : Mem kvs) {m w r : Nat} {v : V} (g : valV kvs (k3 m w r) = some v) : v = .int ((ct m w r : Nat) : Int) := by
  unfold valV at g
  cases e : kvs.find? (fun kv => decide (kv.1 = k3 m w r)) with
  | none => rw [e] at g; cases g
  | some p =>
    rw [e] at g
    have g : p.2 = v := Option.some.inj g
    obtain ⟨m', w', r', _, _, _, ep⟩ := h.ok p (List.mem_of_find?_eq_some e)
    have hk0 : decide (p.1 = k3 m w r) = true := List.find?_some (p := fun kv : List Key × V => decide (kv.1 = k3 m w r)) e
    have hk : p.1 = k3 m w r := of_decide_eq_true hk0
    subst ep
    obtain ⟨e1, e2, e3⟩ := k3_inj hk
    subst e1 e2 e3
    exact g.symm
theorem Mem.put {kvs : List (List Key × V)} (h : Mem kvs) {m w r : Nat} (h1 : m ≤ 21) (h2 : w ≤ 21) (h3 : r ≤ 21) : Mem (putK kvs (k3 m w r) (.int ((ct m w r : Nat) : Int))) := by
  refine ⟨?_, fun p hp => ?_⟩
  · unfold putK
    split
    · rw [List.map_map]
      have e : (kvs.map ((fun x => x.1) ∘ fun kv : List Key × V => if kv.1 = k3 m w r then (kv.1, V.int ((ct m w r : Nat) : Int)) else kv)) = kvs.map (·.1) := List.map_congr_left fun kv _ => by
        show (if kv.1 = k3 m w r then (kv.1, V.int ((ct m w r : Nat) : Int)) else kv).1 = kv.1
        split <;> rfl
      rw [e]
      exact h.nd
    · rename_i c
      rw [List.map_append]
      refine List.nodup_append.mpr ⟨h.nd, List.nodup_cons.mpr ⟨(fun h => nomatch h), List.Pairwise.nil⟩, fun a ha b hb => ?_⟩
      obtain ⟨p, hp, e⟩ := List.mem_map.mp ha
      rw [List.mem_singleton.mp hb]
      intro z
      exact c (List.any_eq_true.mpr ⟨p, hp, decide_eq_true (e.trans z)⟩)
  unfold putK at hp
  split at hp
  · obtain ⟨q, hq, e⟩ := List.mem_map.mp hp
    split at e
    · rename_i c
      exact ⟨m, w, r, h1, h2, h3, by rw [← e, c]⟩
    · rw [← e]
      exact h.ok q hq
  · rcases List.mem_append.mp hp with hp | hp
    · exact h.ok p hp
    · exact ⟨m, w, r, h1, h2, h3, List.mem_singleton.mp hp⟩
/-- all but D as it was -/
def SameX (D : Addr) (H H' : Hp) : Prop := ∀ b u, b ≠ D → H b = some u → H' b = some u
theorem SameX.trans {D : Addr} {H H1 H2 : Hp} (h : SameX D H H1) (g : SameX D H1 H2) : SameX D H H2 := fun b u n e => g b u n (h b u n e)
theorem Same.x {D : Addr} {H H1 : Hp} (h : Same H H1) : SameX D H H1 := fun b u _ e => h b u e
theorem min_nat {a b : Nat} : (if (b : Int) < (a : Int) then (b : Int) else (a : Int)) = ((min a b : Nat) : Int) := by
  split <;> omega
def spCnt (d : Nat) : Sp := fun vs H Q _ => ∃ (m w r : Nat) (D : Addr) (kvs : List (List Key × V)), vs = [.int (m : Int), .int (w : Int), .int (r : Int), .ref D] ∧ m ≤ d ∧ m ≤ 21 ∧ H D = some (.dT kvs) ∧ Mem kvs ∧
  ∀ H' kvs', SameX D H H' → H' D = some (.dT kvs') → Mem kvs' → Q (.int ((ct m w r : Nat) : Int)) H'
theorem sc__counted : FnScope ["many", "width", "reach", "known", "key", "total", "cut", "ahead"] ["many", "width", "reach", "known"] (defScope s__counted) := ⟨rfl, rfl, rfl, by decide +kernel, rfl, by decide +kernel, by decide +kernel⟩
theorem ok__countedZ {P : Program} {w : World} {K : PySem.W.Frag} {mg : Str → Option Value} {base : Heap} (D : Dfn K mg "_counted" s__counted) (B : Bn mg)    : Cal P w K mg base 1 "_counted" ["many", "width", "reach", "known"] (spCnt 0) := by
  refine D.cal sc__counted (fun vs H Q E h => ?_) (fun _ _ _ _ _ _ us hl => match us, hl with | [_, _, _, _], _ => rfl) (fun f cdv A outer s H vs Q E hr h => ?_)
  · obtain ⟨_, _, _, _, _, rfl, _⟩ := h
    rfl
  obtain ⟨m, w', r, D, kvs, rfl, hm, _, hD, hM, q⟩ := h
  have e : m = 0 := by omega
  subst e
  refine ⟨_, (pss_cons (ps_if (pt_cmpR op_eq (pv 0) pe_int (nomark _))
     (pss_one (ps_ret pe_int))
     pss_nil)
     (pss_cons ps_never
     (pss_cons (ps_set (i := 2) sc__counted.nd rfl (.inl rfl) (pe_callB (call_min2 rfl) rfl B.min_ bo_min (pa_cons (pv 2) (pa_cons (pv 0) pa_nil))))
     (pss_cons (ps_if (PW.pt (pw_or (pt_cmpR op_eq (pv 1) pe_int (nomark _)) (pw_or1 (pt_cmpR op_eq (pv 2) pe_int (nomark _)))))
     (pss_one (ps_ret pe_int))
     pss_nil)
     (pss_cons (ps_set (i := 4) sc__counted.nd rfl (.inl rfl) (pe_tup (pa_cons (pv 0) (pa_cons (pv 1) (pa_cons (pv 2) pa_nil)))))
     (C8.pss_cut ps_never
     (pss_one (ps_ret (pe_dget (hu_of hr) (pv 3) (pv 4) (fun _ _ => rfl)))))))))), ?_⟩
  refine ⟨_, rfl, rfl, _, rfl, iteTb (by rw [iEq]; rfl) ?_⟩
  have := q H kvs (fun _ _ _ z => z) hD hM
  rw [ct_nil] at this
  exact this
theorem ok__countedS {P : Program} {w : World} {K : PySem.W.Frag} {mg : Str → Option Value} {base : Heap} (D : Dfn K mg "_counted" s__counted) (B : Bn mg)   {d : Nat} (c__counted : Cal P w K mg base (d+1) "_counted" ["many", "width", "reach", "known"] (spCnt d)) : Cal P w K mg base (d+2) "_counted" ["many", "width", "reach", "known"] (spCnt (d + 1)) := by
  refine D.cal sc__counted (fun vs H Q E h => ?_) (fun _ _ _ _ _ _ us hl => match us, hl with | [_, _, _, _], _ => rfl) (fun f cdv A outer s H vs Q E hr h => ?_)
  · obtain ⟨_, _, _, _, _, rfl, _⟩ := h
    rfl
  obtain ⟨m, w', r, D, kvs, rfl, hm, hm2, hD, hM, q⟩ := h
  refine ⟨_, (pss_cons (ps_if (pt_cmpR op_eq (pv 0) pe_int (nomark _))
     (pss_one (ps_ret pe_int))
     pss_nil)
     (pss_cons (ps_set (i := 1) sc__counted.nd rfl (.inl rfl) (pe_callB (call_min2 rfl) rfl B.min_ bo_min (pa_cons (pv 1) (pa_cons (pv 0) pa_nil))))
     (pss_cons (ps_set (i := 2) sc__counted.nd rfl (.inl rfl) (pe_callB (call_min2 rfl) rfl B.min_ bo_min (pa_cons (pv 2) (pa_cons (pv 0) pa_nil))))
     (pss_cons (ps_if (PW.pt (pw_or (pt_cmpR op_eq (pv 1) pe_int (nomark _)) (pw_or1 (pt_cmpR op_eq (pv 2) pe_int (nomark _)))))
     (pss_one (ps_ret pe_int))
     pss_nil)
     (pss_cons (ps_set (i := 4) sc__counted.nd rfl (.inl rfl) (pe_tup (pa_cons (pv 0) (pa_cons (pv 1) (pa_cons (pv 2) pa_nil)))))
     (C8.pss_cut (ps_if (pt_cmp (pc_dnotin (hu_of hr) (pv 4) (pv 3)) rfl)
     (pss_cons (ps_set (i := 5) sc__counted.nd rfl (.inl rfl) pe_int)
     (pss_cons (ps_for PassesOwn.never rfl (pi_range2 rfl B.range_ (pa_cons pe_int (pa_cons (pe_op op_add (pv 0) pe_int) pa_nil))) (pg_name (i := 6) sc__counted.nd rfl (.inl rfl))
     (pss_cons (ps_set (i := 7) sc__counted.nd rfl (.inl rfl) (pe_cal c__counted hr (by first | decide | omega) rfl (pa_cons (pe_op op_sub (pv 6) pe_int) (pa_cons (pe_op op_sub (pv 1) pe_int) (pa_cons (pv 2) (pa_cons (pv 3) pa_nil))))))
     (pss_one (ps_if (pt_cmpR op_gt (pv 7) pe_int (nomark _))
     (pss_one (ps_aug (i := 5) sc__counted.nd rfl (.inl rfl) (pe_op op_mulW (pv 7) (pe_cal c__counted hr (by first | decide | omega) rfl (pa_cons (pe_op op_sub (pv 0) (pv 6)) (pa_cons (pv 1) (pa_cons (pe_op op_sub (pv 2) pe_int) (pa_cons (pv 3) pa_nil)))))) ip_add))
     pss_nil))))
     (pss_one (ps_dput (hu_of hr) (pv 3) (pv 4) (pv 5) rfl))))
     pss_nil)
     (pss_one (ps_ret (pe_dget (hu_of hr) (pv 3) (pv 4) (fun _ _ => rfl)))))))))), ?_⟩
  by_cases e0 : m = 0
  · subst e0
    refine ⟨_, rfl, rfl, _, rfl, iteTb (by rw [iEq]; rfl) ?_⟩
    have := q H kvs (fun _ _ _ z => z) hD hM
    rw [ct_nil] at this
    exact this
  refine ⟨_, rfl, rfl, _, rfl, iteFb (by rw [iEq, dF (by omega)]) ?_⟩
  refine ⟨_, rfl, _, rfl, _, _, rfl, _, rfl, _, rfl, _, _, rfl, ?_⟩
  rw [min_nat, min_nat]
  rw [← ct_min m w' r] at q
  generalize hw0 : min w' m = w0 at *
  generalize hr0 : min r m = r0 at *
  by_cases ew : w0 = 0
  · subst ew
    refine ⟨_, rfl, rfl, _, rfl, iteTb (by rw [iEq]; rfl) ?_⟩
    have := q H kvs (fun _ _ _ z => z) hD hM
    rw [ct_flat e0 (.inl rfl)] at this
    exact this
  refine ⟨_, rfl, rfl, _, rfl, iteFb (by rw [iEq, dF (by omega)]) ⟨_, rfl, rfl, _, rfl, ?_⟩⟩
  by_cases er : r0 = 0
  · subst er
    refine iteTb (by rw [iEq]; rfl) ?_
    have := q H kvs (fun _ _ _ z => z) hD hM
    rw [ct_flat e0 (.inr rfl)] at this
    exact this
  refine iteFb (by rw [iEq, dF (by omega)]) ?_
  refine ⟨_, rfl, _, rfl, _, rfl, by show 3 ≤ sizeLine; decide, fun Kk nK => ?_⟩
  have hKD : Kk ≠ D := fun e => by
    rw [e, hD] at nK
    cases nK
  have s1 := same_new nK (.tup [.int (m : Int), .int (w0 : Int), .int (r0 : Int)])
  have hD1 := s1 _ _ hD
  have ek : [V.int (m : Int), .int (w0 : Int), .int (r0 : Int)] = (k3 m w0 r0).map kV := rfl
  have bnd : m ≤ 21 ∧ w0 ≤ 21 ∧ r0 ≤ 21 := by omega
  refine ⟨fun σ' H' => ∃ (kvs' : List (List Key × V)) (y5 y6 y7 : Option V), σ' = [some (.int (m : Int)), some (.int (w0 : Int)), some (.int (r0 : Int)), some (.ref D), some (.ref Kk), y5, y6, y7] ∧ SameX D H H' ∧ H' D = some (.dT kvs') ∧ Mem kvs' ∧ H' Kk = some (.tup ((k3 m w0 r0).map kV)) ∧ (valV kvs' (k3 m w0 r0)).isSome = true, ?_, ?_⟩
  · refine ⟨_, rfl, _, rfl, D, valV kvs (k3 m w0 r0), rfl, .inr ⟨kvs, k3 m w0 r0, Kk, .inl hD1, rfl, upd_same, rfl⟩, _, rfl, ?_⟩
    cases hv : valV kvs (k3 m w0 r0) with
    | some v => exact iteF ⟨kvs, _, _, _, rfl, (Same.x s1), hD1, hM, upd_same, by rw [hv]; rfl⟩
    | none =>
      refine iteT ⟨_, rfl, _, _, rfl, rfl, _, _, rfl, ⟨by omega, by omega, by omega, by omega⟩, ?_⟩
      have en : (((m : Int) + 1) - 1).toNat = m := by omega
      rw [en]
      refine for_range (fun i σ' H' => ∃ (kvs' : List (List Key × V)) (y6 y7 : Option V), σ' = [some (.int (m : Int)), some (.int (w0 : Int)), some (.int (r0 : Int)), some (.ref D), some (.ref Kk), some (.int ((sm (fun i => ct i (w0 - 1) r0 * ct (m - 1 - i) w0 (r0 - 1)) i : Nat) : Int)), y6, y7] ∧ SameX D H H' ∧ H' D = some (.dT kvs') ∧ Mem kvs' ∧ H' Kk = some (.tup ((k3 m w0 r0).map kV)))
        ⟨kvs, none, none, rfl, (Same.x s1), hD1, hM, upd_same⟩ (fun i σ' H' hi p => ?_) (fun σ' H' p => ?_)
      · obtain ⟨kvs1, y6, y7, rfl, s2, hD2, hM2, hK2⟩ := p
        refine ⟨_, rfl, _, _, rfl, rfl, _, rfl, _, _, rfl, rfl, _, rfl, _, rfl, i, w0 - 1, r0, D, kvs1, ?_, by omega, by omega, hD2, hM2, fun H3 kvs3 s3 hD3 hM3 => ?_⟩
        · show [V.int _, V.int _, _, _] = _
          rw [show (1 : Int) + (i : Nat) - 1 = (i : Int) by omega, show (w0 : Int) - 1 = ((w0 - 1 : Nat) : Int) by omega]
        have hK3 := s3 _ _ hKD hK2
        refine ⟨_, rfl, _, _, rfl, rfl, _, rfl, ?_⟩
        by_cases ca : ct i (w0 - 1) r0 = 0
        · refine iteFb (dF (by omega)) ⟨kvs3, some (.int (1 + (i : Int))), some (.int ((ct i (w0 - 1) r0 : Nat) : Int)), ?_, s2.trans s3, hD3, hM3, hK3⟩
          show _ = [_, _, _, _, _, some (V.int ((sm (fun i => ct i (w0 - 1) r0 * ct (m - 1 - i) w0 (r0 - 1)) i + ct i (w0 - 1) r0 * ct (m - 1 - i) w0 (r0 - 1) : Nat) : Int)), _, _]
          rw [show ct i (w0 - 1) r0 * ct (m - 1 - i) w0 (r0 - 1) = 0 by rw [ca, Nat.zero_mul], Nat.add_zero]
          rfl
        · refine iteTb (dT (by omega)) ⟨_, rfl, _, rfl, _, rfl, _, rfl, _, _, rfl, rfl, _, rfl, _, rfl, _, _, rfl, rfl, _, rfl, m - 1 - i, w0, r0 - 1, D, kvs3, ?_, by omega, by omega, hD3, hM3, fun H4 kvs4 s4 hD4 hM4 => ?_⟩
          · show [V.int _, V.int _, V.int _, _] = _
            rw [show (m : Int) - (1 + (i : Nat)) = ((m - 1 - i : Nat) : Int) by omega, show (r0 : Int) - 1 = ((r0 - 1 : Nat) : Int) by omega]
          · refine ⟨_, _, rfl, rfl, ?_, _, _, rfl, rfl, ?_⟩
            · have h1 := ct_log (m := i) (w := w0 - 1) (r := r0) (by omega)
              have h2 := ct_log (m := m - 1 - i) (w := w0) (r := r0 - 1) (by omega)
              show Nat.log2 (Int.natAbs ((_ : Nat) : Int)) + Nat.log2 (Int.natAbs ((_ : Nat) : Int)) < 1000000
              rw [Int.natAbs_natCast, Int.natAbs_natCast]
              omega
            · refine ⟨kvs4, some (.int (1 + (i : Int))), some (.int ((ct i (w0 - 1) r0 : Nat) : Int)), ?_, (s2.trans s3).trans s4, hD4, hM4, s4 _ _ hKD hK3⟩
              show _ = [_, _, _, _, _, some (V.int ((sm (fun i => ct i (w0 - 1) r0 * ct (m - 1 - i) w0 (r0 - 1)) i + ct i (w0 - 1) r0 * ct (m - 1 - i) w0 (r0 - 1) : Nat) : Int)), _, _]
              rw [Int.natCast_add, Int.natCast_mul]
              rfl
      · obtain ⟨kvs1, y6, y7, rfl, s2, hD2, hM2, hK2⟩ := p
        rw [← ct_step e0 ew er]
        refine ⟨_, rfl, _, rfl, _, rfl, D, _, rfl, .inr ⟨kvs1, k3 m w0 r0, Kk, hD2, rfl, hK2, sz_lt (by have := hM2.len; omega), rfl⟩, ?_⟩
        refine ⟨_, _, _, _, rfl, fun b u hb hu => ?_, upd_same, hM2.put bnd.1 bnd.2.1 bnd.2.2, ?_, ?_⟩
        · rw [upd_ne hb]
          exact s2 b u hb hu
        · rw [upd_ne hKD]
          exact hK2
        · rw [valV_put, if_pos rfl]
          rfl
  · rintro σ' H' ⟨kvs1, y5, y6, y7, rfl, s2, hD2, hM2, hK2, hv⟩
    obtain ⟨v, hv⟩ := Option.isSome_iff_exists.mp hv
    have ev := hM2.get hv
    subst ev
    exact ⟨_, rfl, _, rfl, D, _, rfl, .inr ⟨kvs1, k3 m w0 r0, Kk, .inl hD2, rfl, hK2, hv.symm⟩, q H' kvs1 s2 hD2 hM2⟩
theorem counted_all {P : Program} {w : World} {K : PySem.W.Frag} {mg : Str → Option Value} {base : Heap} (D : Dfn K mg "_counted" s__counted) (B : Bn mg) : ∀ d : Nat, Cal P w K mg base (d + 1) "_counted" ["many", "width", "reach", "known"] (spCnt d)
  | 0 => ok__countedZ D B
  | d + 1 => ok__countedS D B (counted_all D B d)
def spPw : Sp := fun vs H Q _ => ∃ m w r : Nat, vs = [.int (m : Int), .int (w : Int), .int (r : Int)] ∧ m ≤ 21 ∧ ∀ H', Same H H' → Q (.int ((ct m w r : Nat) : Int)) H'
theorem sc_plans_within : FnScope ["many", "width", "reach"] ["many", "width", "reach"] (defScope s_plans_within) := ⟨rfl, rfl, rfl, by decide +kernel, rfl, by decide +kernel, by decide +kernel⟩
theorem ok_plans_within {P : Program} {w : World} {K : PySem.W.Frag} {mg : Str → Option Value} {base : Heap} (D : Dfn K mg "plans_within" s_plans_within) (B : Bn mg) (c_need_number : Cal P w K mg base 3 "need_number" ["word", "thing"] (spNeed fun n => 0 ≤ n))  (c__counted : Cal P w K mg base 22 "_counted" ["many", "width", "reach", "known"] (spCnt 21)) : Cal P w K mg base 23 "plans_within" ["many", "width", "reach"] spPw := by
  refine D.cal sc_plans_within (fun vs H Q E h => ?_) (fun _ _ _ _ _ _ us hl => match us, hl with | [_, _, _], _ => rfl) (fun f cdv A outer s H vs Q E hr h => ?_)
  · obtain ⟨_, _, _, rfl, _⟩ := h
    rfl
  obtain ⟨m, w', r, rfl, hm, q⟩ := h
  refine ⟨_, (pss_cons (ps_expr (pe_cal c_need_number hr (by first | decide | omega) rfl (pa_cons pe_str (pa_cons (pv 0) pa_nil))))
     (pss_cons (ps_expr (pe_cal c_need_number hr (by first | decide | omega) rfl (pa_cons pe_str (pa_cons (pv 1) pa_nil))))
     (pss_cons (ps_expr (pe_cal c_need_number hr (by first | decide | omega) rfl (pa_cons pe_str (pa_cons (pv 2) pa_nil))))
     (pss_one (ps_ret (pe_cal c__counted hr (by first | decide | omega) rfl (pa_cons (pv 0) (pa_cons (pv 1) (pa_cons (pv 2) (pa_cons pe_dnewT pa_nil)))))))))), ?_⟩
  refine ⟨_, rfl, _, _, rfl, by omega, ?_⟩
  refine ⟨_, rfl, _, _, rfl, by omega, ?_⟩
  refine ⟨_, rfl, _, _, rfl, by omega, ?_⟩
  refine ⟨_, rfl, _, rfl, _, rfl, fun D nD => ⟨m, w', r, D, [], rfl, hm, hm, upd_same, Mem.nil, fun H' kvs' s h1 h2 => ?_⟩⟩
  refine q H' fun b u hb => ?_
  have hbD : b ≠ D := ne_of_none hb nD
  refine s b u hbD ?_
  rw [upd_ne hbD]
  exact hb
end K67
set_option maxHeartbeats 1000000
namespace K67
open PySem PySem.Spec PyProof.Rows L2
/-! ### the least greatest member -/
def spLG : Sp := fun vs H Q _ => ∃ n k : Nat, vs = [.int (n : Int), .int (k : Int)] ∧ 1 ≤ k ∧ k ≤ 2000 ∧ n < Cb (3000 + k) k ∧ ∀ v : Nat, n < Cb (v + k) k → (∀ u, u < v → Cb (u + k) k ≤ n) → Q (.int (v : Int)) H
theorem sc_least_greatest : FnScope ["many", "reach", "high", "low", "middle"] ["many", "reach"] (defScope s_least_greatest) := ⟨rfl, rfl, rfl, by decide +kernel, rfl, by decide +kernel, by decide +kernel⟩
theorem ok_least_greatest {P : Program} {w : World} {K : PySem.W.Frag} {mg : Str → Option Value} {base : Heap} (D : Dfn K mg "least_greatest" s_least_greatest) (B : Bn mg) (c_need_number : Cal P w K mg base 3 "need_number" ["word", "thing"] (spNeed fun n => 0 ≤ n)) (c_need_natural : Cal P w K mg base 3 "need_natural" ["word", "thing"] (spNeed fun n => 1 ≤ n)) (c_choose : Cal P w K mg base 3 "choose" ["top", "few"] (spC Cb fun n _ => n ≤ 18000))   : Cal P w K mg base 4 "least_greatest" ["many", "reach"] spLG := by
  refine D.cal sc_least_greatest (fun vs H Q E h => ?_) (fun _ _ _ _ _ _ us hl => match us, hl with | [_, _], _ => rfl) (fun f cdv A outer s H vs Q E hr h => ?_)
  · obtain ⟨_, _, rfl, _⟩ := h
    rfl
  obtain ⟨n, k, rfl, k1, k2, hn, q⟩ := h
  refine ⟨_, (pss_cons (ps_expr (pe_cal c_need_number hr (by first | decide | omega) rfl (pa_cons pe_str (pa_cons (pv 0) pa_nil))))
     (pss_cons (ps_expr (pe_cal c_need_natural hr (by first | decide | omega) rfl (pa_cons pe_str (pa_cons (pv 1) pa_nil))))
     (pss_cons (ps_if (PW.pt (pw_or (pt_cmpR op_eq (pv 0) pe_int (nomark _)) (pw_or1 (pt_cmpR op_eq (pv 1) pe_int (nomark _)))))
     (pss_one (ps_ret (pv 0)))
     pss_nil)
     (pss_cons (ps_set (i := 2) sc_least_greatest.nd rfl (.inl rfl) pe_int)
     (pss_cons (ps_while PassesOwn.never (pt_cmpR op_le (pe_cal c_choose hr (by first | decide | omega) rfl (pa_cons (pe_op op_add (pv 2) (pv 1)) (pa_cons (pv 1) pa_nil))) (pv 0) (nomark _))
     (pss_one (ps_set (i := 2) sc_least_greatest.nd rfl (.inl rfl) (pe_op op_mul pe_int (pv 2)))))
     (pss_cons (ps_set (i := 3) sc_least_greatest.nd rfl (.inl rfl) (pe_op op_fdiv (pv 2) pe_int))
     (pss_cons (ps_while PassesOwn.never (pt_cmpR op_gt (pe_op op_sub (pv 2) (pv 3)) pe_int (nomark _))
     (pss_cons (ps_set (i := 4) sc_least_greatest.nd rfl (.inl rfl) (pe_op op_fdiv (pe_op op_add (pv 3) (pv 2)) pe_int))
     (pss_one (ps_if (pt_cmpR op_le (pe_cal c_choose hr (by first | decide | omega) rfl (pa_cons (pe_op op_add (pv 4) (pv 1)) (pa_cons (pv 1) pa_nil))) (pv 0) (nomark _))
     (pss_one (ps_set (i := 3) sc_least_greatest.nd rfl (.inl rfl) (pv 4)))
     (pss_one (ps_set (i := 2) sc_least_greatest.nd rfl (.inl rfl) (pv 4)))))))
     (pss_one (ps_ret (pv 2)))))))))), ?_⟩
  refine ⟨_, rfl, _, _, rfl, by omega, ?_⟩
  refine ⟨_, rfl, _, _, rfl, by omega, ?_⟩
  by_cases n0 : n = 0
  · subst n0
    refine ⟨_, rfl, rfl, _, rfl, iteTb (by rw [iEq]; rfl) (iteT ⟨_, rfl, q 0 (Cb_pos _ _ (by omega)) fun u hu => absurd hu (Nat.not_lt_zero _)⟩)⟩
  refine ⟨_, rfl, rfl, _, rfl, iteFb (by rw [iEq, dF (by omega)]) ⟨_, rfl, rfl, _, rfl, ?_⟩⟩
  by_cases k0 : k = 1
  · subst k0
    refine iteTb (by rw [iEq]; rfl) ⟨_, rfl, q n ?_ fun u hu => ?_⟩
    · rw [Cb_one]
      omega
    · rw [Cb_one]
      omega
  refine iteFb (by rw [iEq, dF (by omega)]) ?_
  have big : ∀ h : Nat, Cb (h + k) k ≤ n → h < 3000 := fun h hh => by
    by_cases c : h < 3000
    · exact c
    · have := Cb_mono_le (show 3000 + k ≤ h + k by omega) k
      omega
  refine ⟨fun m σ' H' => H' = H ∧ ∃ h : Nat, σ' = [some (.int (n : Int)), some (.int (k : Int)), some (.int (h : Int)), none, none] ∧ 1 ≤ h ∧ h ≤ 6000 ∧ Cb (h / 2 + k) k ≤ n ∧ m = 7000 - h, ⟨_, rfl, 1, rfl, by omega, by omega, ?_, rfl⟩, ?_⟩
  · rw [show 1 / 2 + k = k by omega, Cb_self]
    omega
  rintro m σ' H' ⟨rfl, h, rfl, h1, h2, h3, rfl⟩
  refine ⟨_, rfl, _, rfl, _, _, rfl, rfl, _, rfl, h + k, k, two_int (by omega) rfl, by omega, _, rfl, _, _, rfl, rfl, _, rfl, ?_⟩
  by_cases c : Cb (h + k) k ≤ n
  · have hb := big h c
    refine iteTb (dT (by omega)) ⟨_, fun σ2 H2 hN => hN, ?_⟩
    refine ⟨_, rfl, _, _, rfl, rfl, .inl ⟨by decide, by decide⟩, 7000 - 2 * h, by omega, rfl, 2 * h, ?_, by omega, by omega, ?_, rfl⟩
    · rw [show ((2 * h : Nat) : Int) = 2 * (h : Int) by omega]
      rfl
    · rw [show 2 * h / 2 = h by omega]
      exact c
  · refine iteFb (dF (by omega)) ?_
    refine ⟨_, rfl, _, _, rfl, rfl, ⟨by decide, by decide⟩, ?_⟩
    have eh : (h : Int) / 2 = ((h / 2 : Nat) : Int) := by omega
    refine ⟨fun m σ' H2 => H2 = H' ∧ ∃ (lo hi : Nat) (y : Option V), σ' = [some (.int (n : Int)), some (.int (k : Int)), some (.int (hi : Int)), some (.int (lo : Int)), y] ∧ lo < hi ∧ hi ≤ 6000 ∧ Cb (lo + k) k ≤ n ∧ n < Cb (hi + k) k ∧ m = hi - lo, ⟨_, rfl, h / 2, h, none, by rw [← eh]; rfl, by omega, h2, h3, by omega, rfl⟩, ?_⟩
    rintro m σ' H2 ⟨rfl, lo, hi, y, rfl, l1, l2, l3, l4, rfl⟩
    refine ⟨_, rfl, _, rfl, _, _, rfl, rfl, _, _, rfl, rfl, _, rfl, ?_⟩
    by_cases c2 : 1 < hi - lo
    · refine iteTb (dT (by omega)) ⟨_, fun σ2 H2 hN => hN, ?_⟩
      refine ⟨_, rfl, _, rfl, _, _, rfl, rfl, _, _, rfl, rfl, ⟨by decide, by decide⟩, ?_⟩
      have em : ((lo : Int) + (hi : Int)) / 2 = (((lo + hi) / 2 : Nat) : Int) := by omega
      refine ⟨_, rfl, _, rfl, _, _, rfl, rfl, _, rfl, (lo + hi) / 2 + k, k, two_int (by omega) rfl, by omega, _, rfl, _, _, rfl, rfl, _, rfl, ?_⟩
      by_cases c3 : Cb ((lo + hi) / 2 + k) k ≤ n
      · refine iteTb (dT (by omega)) ⟨_, rfl, hi - (lo + hi) / 2, by omega, rfl, (lo + hi) / 2, hi, some (.int (((lo + hi) / 2 : Nat) : Int)), ?_, by omega, l2, c3, l4, rfl⟩
        rw [← em]
        rfl
      · refine iteFb (dF (by omega)) ⟨_, rfl, (lo + hi) / 2 - lo, by omega, rfl, lo, (lo + hi) / 2, some (.int (((lo + hi) / 2 : Nat) : Int)), ?_, by omega, by omega, l3, by omega, rfl⟩
        rw [← em]
        rfl
    · refine iteFb (dF (by omega)) ⟨_, rfl, q hi l4 fun u hu => ?_⟩
      exact Nat.le_trans (Cb_mono_le (by omega) _) l3
/-! ### joins -/
def okN (w n : Nat) : Prop := 1 ≤ w ∧ w ≤ 1000 ∧ n < Cb (2000 + w - 1) w
def spJM : Sp := fun vs H Q _ => ∃ w n : Nat, vs = [.int (w : Int), .int (n : Int), .int 1] ∧ okN w n ∧ ∀ H', Same H H' → Q (.int (n : Int)) H'
theorem sc_joined_many : FnScope ["width", "number", "many", "copies", "own", "row"] ["width", "number", "many"] (defScope s_joined_many) := ⟨rfl, rfl, rfl, by decide +kernel, rfl, by decide +kernel, by decide +kernel⟩
theorem ok_joined_many {P : Program} {w : World} {K : PySem.W.Frag} {mg : Str → Option Value} {base : Heap} (D : Dfn K mg "joined_many" s_joined_many) (B : Bn mg) (c_row_of : Cal P w K mg base 3 "row_of" ["width", "number"] spRowOf) (c_merged : Cal P w K mg base 4 "merged" ["rows"] spMerged) (c_number_of : Cal P w K mg base 5 "number_of" ["width", "row"] spNum) (c_is_natural : Cal P w K mg base 2 "is_natural" ["thing"] (spI1 (fun n => 1 ≤ n) fun _ => .bl true)) (c_is_number : Cal P w K mg base 2 "is_number" ["thing"] (spI1 (fun n => 0 ≤ n) fun _ => .bl true))   : Cal P w K mg base 6 "joined_many" ["width", "number", "many"] spJM := by
  refine D.cal sc_joined_many (fun vs H Q E h => ?_) (fun _ _ _ _ _ _ us hl => match us, hl with | [_, _, _], _ => rfl) (fun f cdv A outer s H vs Q E hr h => ?_)
  · obtain ⟨_, _, rfl, _⟩ := h
    rfl
  obtain ⟨w', n, rfl, ⟨w1, w2, hn⟩, q⟩ := h
  refine ⟨_, (pss_cons (ps_if (pt_not (pt_val (pe_cal c_is_natural hr (by first | decide | omega) rfl (pa_cons (pv 0) pa_nil))))
     (pss_one ps_never)
     pss_nil)
     (pss_cons (ps_if (pt_not (pt_val (pe_cal c_is_number hr (by first | decide | omega) rfl (pa_cons (pv 1) pa_nil))))
     (pss_one ps_never)
     pss_nil)
     (pss_cons (ps_if (pt_not (pt_val (pe_cal c_is_number hr (by first | decide | omega) rfl (pa_cons (pv 2) pa_nil))))
     (pss_one ps_never)
     pss_nil)
     (pss_cons (ps_set (i := 3) sc_joined_many.nd rfl (.inl rfl) (pe_ifExp (pt_cmpR op_lt (pv 2) (pv 0) (nomark _)) (pv 2) (pv 0)))
     (pss_cons (ps_set (i := 4) sc_joined_many.nd rfl (.inl rfl) (pe_cal c_row_of hr (by first | decide | omega) rfl (pa_cons (pv 0) (pa_cons (pv 1) pa_nil))))
     (pss_cons (ps_set (i := 5) sc_joined_many.nd rfl (.inl rfl) (pe_cal c_merged hr (by first | decide | omega) rfl (pa_cons (pe_op op_mul1 (pe_tup (pa_cons (pv 4) pa_nil)) (pv 3)) pa_nil)))
     (pss_one (ps_ret (pe_cal c_number_of hr (by first | decide | omega) rfl (pa_cons (pv 0) (pa_cons (pe_slice sl_tupA (pv 5) po_none (po_some (pv 0))) pa_nil))))))))))), ?_⟩
  refine ⟨_, rfl, _, rfl, by omega, true, rfl, iteF ?_⟩
  refine ⟨_, rfl, _, rfl, by omega, true, rfl, iteF ?_⟩
  refine ⟨_, rfl, _, rfl, by omega, true, rfl, iteF ?_⟩
  refine ⟨_, rfl, _, rfl, _, _, rfl, rfl, _, rfl, ?_⟩
  have rest : ∀ l : List Nat, Dn l → Pz l → l.length ≤ w' → Nn w' l = n → (∀ x ∈ l, x ≤ 2000) → ∀ (u : Addr) (H1 : Hp), Same H H1 → H1 u = some (.tup (nv l)) → ∀ (t : Addr) (H2 : Hp), Same H1 H2 → H2 t = some (.tup (nv l)) → ∀ H3, Same H2 H3 → Q (.int ((Nn w' l : Nat) : Int)) H3 := fun l _ _ _ e _ u H1 s1 _ t H2 s2 _ H3 s3 => by
    rw [e]
    exact q H3 (s1.trans (s2.trans s3))
  have main : (∀ H3, H3 = H → ∃ (w n : Nat), [V.int (w' : Int), V.int (n : Int)] = [V.int (w : Int), V.int (n : Int)] ∧ True) := fun _ _ => ⟨w', n, rfl, trivial⟩
  have go : ∀ c : V, c = .int 1 → ∀ (l : List Nat), Dn l → Pz l → l.length ≤ w' → Nn w' l = n → (∀ x ∈ l, x ≤ 2000) → ∀ (u : Addr) (H1 : Hp), Same H H1 → H1 u = some (.tup (nv l)) →
      ∀ u2 H2, Same H1 H2 → H2 u2 = some (.tup [.ref u]) → ∃ (a : Addr) (ps : List Addr) (ls : List (List Nat)), [V.ref u2] = [V.ref a] ∧ H2 a = some (.tup (refs ps)) ∧ RowsAt H2 ps ls ∧ (∀ l ∈ ls, Dn l ∧ Pz l) ∧ ls.flatten.length ≤ 50000 ∧ ls.length ≤ 50000 ∧ srt ls.flatten = l := fun c _ l hd hp hz _ _ u H1 s1 hu u2 H2 s2 hu2 =>
    ⟨u2, [u], [l], rfl, hu2, RowsAt.snoc RowsAt.nil (s2 _ _ hu), fun l' hl' => by rw [List.mem_singleton.mp hl']; exact ⟨hd, hp⟩, by rw [List.flatten_cons, List.flatten_nil, List.append_nil]; omega, by show 1 ≤ 50000; omega, by rw [List.flatten_cons, List.flatten_nil, List.append_nil, srt_of_dn hd]⟩
  have fin : ∀ l : List Nat, Dn l → Pz l → l.length ≤ w' → Nn w' l = n → (∀ x ∈ l, x ≤ 2000) → ∀ (m : Addr) (H4 : Hp), Same H H4 → H4 m = some (.tup (nv l)) → spNum [.int (w' : Int), .ref m] H4 Q E0 := fun l hd hp hz e hb m H4 s4 hm =>
    ⟨w', m, l, rfl, hm, w1, hd, hp, hz, by omega, fun x hx => by have := hb x hx; omega, fun H5 s5 => by
      rw [e]
      exact q H5 (s4.trans s5)⟩
  have tail : ∀ c : V, c = .int 1 → ∀ (l : List Nat), Dn l → Pz l → l.length ≤ w' → Nn w' l = n → (∀ x ∈ l, x ≤ 2000) → ∀ (u : Addr) (H1 : Hp), Same H H1 → H1 u = some (.tup (nv l)) → True := fun _ _ _ _ _ _ _ _ _ _ _ _ => trivial
  by_cases c : (1 : Int) < (w' : Int)
  · refine iteTb (dT c) ⟨_, rfl, _, rfl, _, rfl, w', n, rfl, w1, by omega, hn, fun l hd hp hz e hb u H1 s1 hu => ?_⟩
    refine ⟨_, rfl, by show 1 ≤ sizeLine; decide, fun u2 nu2 => ⟨_, rfl, u2, _, rfl, rfl, upd_same, ?_⟩⟩
    obtain ⟨a, ps, ls, e1, g1, g2, g3, g4, g5, g6⟩ := go (.int 1) rfl l hd hp hz e hb u H1 s1 hu u2 _ (same_new nu2 _) upd_same
    refine ⟨a, ps, ls, e1, g1, g2, g3, g4, g5, fun m H3 s3 hm => ?_⟩
    rw [g6] at hm
    have s4 := s1.trans ((same_new nu2 (.tup [.ref u])).trans s3)
    refine ⟨_, rfl, _, rfl, _, rfl, _, rfl, m, _, rfl, SqT.of hm, fun _ => fin l hd hp hz e hb m H3 s4 hm, fun hnw r nr => fin l hd hp hz e hb r _ (s4.trans (same_new nr _)) ?_⟩
    rw [upd_same, cut_take, List.take_of_length_le hz]
  · refine iteFb (dF c) ⟨_, rfl, _, rfl, _, rfl, w', n, rfl, w1, by omega, hn, fun l hd hp hz e hb u H1 s1 hu => ?_⟩
    have ew : w' = 1 := by omega
    refine ⟨_, rfl, by show 1 ≤ sizeLine; decide, fun u2 nu2 => ⟨_, rfl, u2, _, rfl, by rw [ew]; rfl, upd_same, ?_⟩⟩
    obtain ⟨a, ps, ls, e1, g1, g2, g3, g4, g5, g6⟩ := go (.int 1) rfl l hd hp hz e hb u H1 s1 hu u2 _ (same_new nu2 _) upd_same
    refine ⟨a, ps, ls, e1, g1, g2, g3, g4, g5, fun m H3 s3 hm => ?_⟩
    rw [g6] at hm
    have s4 := s1.trans ((same_new nu2 (.tup [.ref u])).trans s3)
    refine ⟨_, rfl, _, rfl, _, rfl, _, rfl, m, _, rfl, SqT.of hm, fun _ => fin l hd hp hz e hb m H3 s4 hm, fun hnw r nr => fin l hd hp hz e hb r _ (s4.trans (same_new nr _)) ?_⟩
    rw [upd_same, cut_take, List.take_of_length_le hz]
def spJA : Sp := fun vs H Q _ => ∃ (w : Nat) (a : Addr) (ns : List Nat), vs = [.int (w : Int), .ref a] ∧ 1 ≤ w ∧ w ≤ 1000 ∧ H a = some (.tup (nv ns)) ∧ ns.length ≤ 1 ∧ (∀ n ∈ ns, okN w n) ∧ ∀ H', Same H H' → Q (.int ((ns.sum : Nat) : Int)) H'
theorem sc_joined_all : FnScope ["width", "numbers", "row", "number"] ["width", "numbers"] (defScope s_joined_all) := ⟨rfl, rfl, rfl, by decide +kernel, rfl, by decide +kernel, by decide +kernel⟩
theorem ok_joined_all {P : Program} {w : World} {K : PySem.W.Frag} {mg : Str → Option Value} {base : Heap} (D : Dfn K mg "joined_all" s_joined_all) (B : Bn mg) (c_merged : Cal P w K mg base 4 "merged" ["rows"] spMerged) (c_number_of : Cal P w K mg base 5 "number_of" ["width", "row"] spNum) (c_is_natural : Cal P w K mg base 2 "is_natural" ["thing"] (spI1 (fun n => 1 ≤ n) fun _ => .bl true)) (c_row_of : Cal P w K mg base 3 "row_of" ["width", "number"] spRowOf) (c_is_number : Cal P w K mg base 2 "is_number" ["thing"] (spI1 (fun n => 0 ≤ n) fun _ => .bl true))   : Cal P w K mg base 6 "joined_all" ["width", "numbers"] spJA := by
  refine D.cal sc_joined_all (fun vs H Q E h => ?_) (fun _ _ _ _ _ _ us hl => match us, hl with | [_, _], _ => rfl) (fun f cdv A outer s H vs Q E hr h => ?_)
  · obtain ⟨_, _, _, rfl, _⟩ := h
    rfl
  obtain ⟨w', a, ns, rfl, w1, w2, ha, hl, hok, q⟩ := h
  refine ⟨_, (pss_cons (ps_if (pt_not (pt_val (pe_cal c_is_natural hr (by first | decide | omega) rfl (pa_cons (pv 0) pa_nil))))
     (pss_one ps_never)
     pss_nil)
     (pss_cons (ps_if (PW.pt (pw_or (pt_not (pt_val (pe_callB call_isi rfl B.isinstance_ bo_isinstance (pa_cons (pv 1) (pa_cons (pe_bltn (v := .ty "tuple") rfl B.tuple_ bo_tuple rfl) pa_nil))))) (pw_or1 (pt_not (pt_val (pe_callB (cr_all rfl) rfl B.all_ bo_all (pa_cons (pe_lc (own := [("number", 3)]) (g := (gName 3)) (tt := tYes) rfl sc_joined_all.nd (pi_tup (pv 1)) (blkOk_by (own := [("number", 3)]) (N := ["width", "numbers", "row", "number"]) (sc := defScope s_joined_all) (by decide +kernel)) (fun _ _ _ _ _ => (pg_name (i := 3) sc_joined_all.nd rfl (.inl rfl))) (fun _ _ _ _ _ => pts_nil) (fun _ _ _ _ _ => (pe_cal c_is_number hr (by first | decide | omega) rfl (pa_cons (pv 3) pa_nil)))) pa_nil)))))))
     (pss_one ps_never)
     pss_nil)
     (pss_cons (ps_set (i := 2) sc_joined_all.nd rfl (.inl rfl) (pe_cal c_merged hr (by first | decide | omega) rfl (pa_cons (pe_callTy call_tuple_of rfl B.tuple_ bo_tuple (pa_cons (pe_lc (own := [("number", 3)]) (g := (gName 3)) (tt := tYes) rfl sc_joined_all.nd (pi_tup (pv 1)) (blkOk_by (own := [("number", 3)]) (N := ["width", "numbers", "row", "number"]) (sc := defScope s_joined_all) (by decide +kernel)) (fun _ _ _ _ _ => (pg_name (i := 3) sc_joined_all.nd rfl (.inl rfl))) (fun _ _ _ _ _ => pts_nil) (fun _ _ _ _ _ => (pe_cal c_row_of hr (by first | decide | omega) rfl (pa_cons (pv 0) (pa_cons (pv 3) pa_nil))))) pa_nil)) pa_nil)))
     (pss_one (ps_ret (pe_cal c_number_of hr (by first | decide | omega) rfl (pa_cons (pv 0) (pa_cons (pe_slice sl_tupA (pv 2) po_none (po_some (pv 0))) pa_nil)))))))), ?_⟩
  refine ⟨_, rfl, _, rfl, by omega, true, rfl, iteF ?_⟩
  refine ⟨_, rfl, _, _, _, _, _, rfl, cn, tx_t ha, ki_tt, true, rfl, iteF ?_⟩
  refine ⟨_, rfl, a, rfl, ⟨_, SqT.of ha⟩, fun D1 n1 => lcT (List.replicate (nv ns).length (.bl true)) ha n1 (by simp) (by rw [nv_len]; omega) (fun i x y H' hx hy s1 R hR => ?_) fun H1 s1 d1 => ?_⟩
  · obtain ⟨z, hz', rfl⟩ := nv_get hx
    have ey : y = .bl true := (List.mem_replicate.mp (List.mem_of_getElem? hy)).2
    subst ey
    exact ⟨rfl, _, rfl, _, rfl, by omega, hR H' (Same.refl _)⟩
  · refine ⟨D1, List.replicate (nv ns).length true, rfl, by rw [rep_bl]; exact SqL.of d1, true, qT (Q := fun x _ => x = V.bl true) (H := H1) (all_true _) rfl, iteF ?_⟩
    have ha1 := s1 _ _ ha
    refine ⟨_, rfl, a, rfl, ⟨_, SqT.of ha1⟩, fun D2 n2 => lc_tup (xs := nv ns) (fun i H' => Same H1 H' ∧ ∃ (ps : List Addr) (ls : List (List Nat)), H' D2 = some (.lst (refs ps)) ∧ RowsAt H' ps ls ∧ ls.length = i ∧ ∀ (j : Nat) (l : List Nat), ls[j]? = some l → Dn l ∧ Pz l ∧ l.length ≤ w' ∧ ns[j]? = some (Nn w' l) ∧ ∀ x ∈ l, x ≤ 2000)
      ⟨same_new n2 _, [], [], upd_same, RowsAt.nil, rfl, fun _ _ h => (nomatch h)⟩ (fun i H' _ p => SqT.of (p.1 _ _ ha1)) (fun i x H' hi p => ?_) fun H' p => ?_⟩
    · obtain ⟨z, hz', rfl⟩ := nv_get hi
      obtain ⟨s2, ps, ls, d2, hr2, hl2, hls⟩ := p
      have hi1 := (List.getElem?_eq_some_iff.mp hz').1
      obtain ⟨o1, o2, o3⟩ := hok z (List.mem_of_getElem? hz')
      refine ⟨rfl, ?_⟩
      unfold tYes
      dsimp only
      rw [if_pos rfl]
      refine ⟨_, rfl, _, rfl, w', z, rfl, w1, by omega, o3, fun l hd hp hz e hb u H2 s3 hu => ⟨refs ps, s3 _ _ d2, sz_lt (by rw [refs_len, hr2.1]; omega), same_mut (s2.trans s3) n2, ps ++ [u], ls ++ [l], ?_, ?_, by rw [List.length_append, hl2]; rfl, fun j l' hj => ?_⟩⟩
      · rw [upd_same]
        unfold refs
        rw [List.map_append]
        rfl
      · exact ((hr2.same s3).snoc hu).updL (s3 _ _ d2)
      · by_cases c : j < ls.length
        · rw [List.getElem?_append_left c] at hj
          exact hls j l' hj
        · rw [List.getElem?_append_right (by omega)] at hj
          have ej : j - ls.length = 0 := by
            have := (List.getElem?_eq_some_iff.mp hj).1
            simp at this
            omega
          rw [ej] at hj
          have el : l = l' := Option.some.inj hj
          subst el
          refine ⟨hd, hp, hz, ?_, hb⟩
          rw [show j = i by omega, hz', e]
    · obtain ⟨s2, ps, ls, d2, hr2, hl2, hls⟩ := p
      rw [nv_len] at hl2
      refine ⟨D2, _, rfl, .inl ⟨SqL.of d2, fun t nt => ?_⟩⟩
      have s3 := same_new nt (.tup (refs ps))
      have key : ls.flatten.length ≤ w' ∧ (∀ l ∈ ls, Dn l ∧ Pz l) ∧ Dn ls.flatten ∧ Pz ls.flatten ∧ (∀ x ∈ ls.flatten, x ≤ 2000) ∧ Nn w' ls.flatten = ns.sum := by
        match ns, ls, hl2, hl, hls with
        | [], [], _, _, _ => exact ⟨Nat.zero_le _, (fun _ h => nomatch h), trivial, (fun _ h => nomatch h), (fun _ h => nomatch h), Nn_nil _⟩
        | [n], [l], _, _, hls =>
          obtain ⟨g1, g2, g3, g4, g5⟩ := hls 0 l rfl
          have g4 : some n = some (Nn w' l) := g4
          have e : n = Nn w' l := Option.some.inj g4
          rw [List.flatten_cons, List.flatten_nil, List.append_nil]
          refine ⟨g3, fun l' hl' => ?_, g1, g2, g5, ?_⟩
          · rw [List.mem_singleton.mp hl']
            exact ⟨g1, g2⟩
          · rw [← e]
            simp
        | [], _ :: _, h, _, _ => cases h
        | [_], [], h, _, _ => cases h
        | [_], _ :: _ :: _, h, _, _ => simp at h
        | _ :: _ :: _, _, _, h, _ => simp at h
      obtain ⟨k1, k2, k3, k4, k5, k6⟩ := key
      refine ⟨t, ps, ls, rfl, upd_same, hr2.same s3, k2, by omega, by omega, fun m H3 s4 hm => ?_⟩
      rw [srt_of_dn k3] at hm
      have s5 := s1.trans (s2.trans (s3.trans s4))
      have fin : ∀ (r : Addr) (H4 : Hp), Same H H4 → H4 r = some (.tup (nv ls.flatten)) → spNum [.int (w' : Int), .ref r] H4 Q E0 := fun r H4 s6 hr' =>
        ⟨w', r, _, rfl, hr', w1, k3, k4, k1, by omega, fun x hx => by have := k5 x hx; omega, fun H5 s7 => by
          rw [k6]
          exact q H5 (s6.trans s7)⟩
      refine ⟨_, rfl, _, rfl, _, rfl, _, rfl, m, _, rfl, SqT.of hm, fun _ => fin m H3 s5 hm, fun hnw r nr => fin r _ (s5.trans (same_new nr _)) ?_⟩
      rw [upd_same, cut_take, List.take_of_length_le k1]
end K67
set_option maxHeartbeats 1000000
namespace K67
open PySem PySem.Spec PyProof.Rows L2
/-! ### shapes -/
section
variable {P : Program} {w : World} {K : PySem.W.Frag} {mg : Str → Option Value} {base : Heap}
theorem Dfn.bot {x : Str} {st : Stmt} {N ps : List Str} (D : Dfn K mg x st) (S : FnScope N ps (defScope st))
    (hb : ∀ (kV doc pm : Value) (an : Option Addr) (cdv ct : Value) (us : List Value), us.length = ps.length → bindArgs (PySem.W.fnOf x x (defArgs st) (defBody st) (defScope st) .none kV doc pm an cdv ct) ⟨us, []⟩ = pure (ps.zip us)) : Cal P w K mg base 1 x ps (fun _ _ _ _ => False) :=
  D.cal S (fun _ _ _ _ h => h.elim) hb fun _ _ _ _ _ _ _ _ _ _ h => h.elim
end
def Em (H : Hp) (e : Addr) : Prop := H e = some (.tup [])
def Pa (H : Hp) (t : Addr) (L : Nat) : Prop := ∃ e, H t = some (.tup [.int 1, .int (L : Int), .ref e]) ∧ Em H e ∧ 1 ≤ L
def Sh (H : Hp) (s : Addr) (L : Nat) : Prop := ∃ t, H s = some (.tup [.ref t]) ∧ Pa H t L
theorem Sh.same {H H' : Hp} {s : Addr} {L : Nat} (h : Sh H s L) (e : Same H H') : Sh H' s L := by
  obtain ⟨t, h1, u, h2, h3, h4⟩ := h
  exact ⟨t, e _ _ h1, u, e _ _ h2, e _ _ h3, h4⟩
def spEm (r : V) : Sp := fun vs H Q _ => ∃ e : Addr, vs = [.ref e] ∧ Em H e ∧ ∀ H', Same H H' → Q r H'
def spPa (r : Nat → V) : Sp := fun vs H Q _ => ∃ (t : Addr) (L : Nat), vs = [.ref t] ∧ Pa H t L ∧ ∀ H', Same H H' → Q (r L) H'
def spSh (r : Nat → V) : Sp := fun vs H Q _ => ∃ (s : Addr) (L : Nat), vs = [.ref s] ∧ Sh H s L ∧ ∀ H', Same H H' → Q (r L) H'
def bot : Sp := fun _ _ _ _ => False
theorem sc_is_shape : FnScope ["thing", "part"] ["thing"] (defScope s_is_shape) := ⟨rfl, rfl, rfl, by decide +kernel, rfl, by decide +kernel, by decide +kernel⟩
theorem ok_is_shapeZ {P : Program} {w : World} {K : PySem.W.Frag} {mg : Str → Option Value} {base : Heap} (D : Dfn K mg "is_shape" s_is_shape) (B : Bn mg)   (c__is_part : Cal P w K mg base 1 "_is_part" ["part"] bot) : Cal P w K mg base 2 "is_shape" ["thing"] (spEm (.bl true)) := by
  refine D.cal sc_is_shape (fun vs H Q E h => ?_) (fun _ _ _ _ _ _ us hl => match us, hl with | [_], _ => rfl) (fun f cdv A outer s H vs Q E hr h => ?_)
  · obtain ⟨_, rfl, _⟩ := h
    rfl
  obtain ⟨e, rfl, he, q⟩ := h
  refine ⟨_, (pss_one (ps_ret (pe_and (pe_callB call_isi rfl B.isinstance_ bo_isinstance (pa_cons (pv 0) (pa_cons (pe_bltn (v := .ty "tuple") rfl B.tuple_ bo_tuple rfl) pa_nil))) (pe_one (pe_callB (cr_all rfl) rfl B.all_ bo_all (pa_cons (pe_lc (own := [("part", 1)]) (g := (gName 1)) (tt := tYes) rfl sc_is_shape.nd (pi_tup (pv 0)) (blkOk_by (own := [("part", 1)]) (N := ["thing", "part"]) (sc := defScope s_is_shape) (by decide +kernel)) (fun _ _ _ _ _ => (pg_name (i := 1) sc_is_shape.nd rfl (.inl rfl))) (fun _ _ _ _ _ => pts_nil) (fun _ _ _ _ _ => (pe_cal c__is_part hr (by first | decide | omega) rfl (pa_cons (pv 1) pa_nil)))) pa_nil)))))), ?_⟩
  refine ⟨_, rfl, _, _, _, _, _, rfl, cn, tx_t he, ki_tt, true, rfl, iteT ?_⟩
  refine ⟨_, rfl, e, rfl, ⟨_, SqT.of he⟩, fun D1 n1 => lcT [] he n1 rfl (by decide) (fun i x y H' hx _ _ _ _ => by cases hx) fun H1 s1 d1 => ?_⟩
  exact ⟨D1, [], rfl, SqL.of d1, q H1 s1⟩
theorem sc__is_part : FnScope ["part", "many", "length", "inner"] ["part"] (defScope s__is_part) := ⟨rfl, rfl, rfl, by decide +kernel, rfl, by decide +kernel, by decide +kernel⟩
theorem ok__is_part {P : Program} {w : World} {K : PySem.W.Frag} {mg : Str → Option Value} {base : Heap} (D : Dfn K mg "_is_part" s__is_part) (B : Bn mg) (c_is_natural : Cal P w K mg base 2 "is_natural" ["thing"] (spI1 (fun n => 1 ≤ n) fun _ => .bl true))  (c_is_shape : Cal P w K mg base 2 "is_shape" ["thing"] (spEm (.bl true))) : Cal P w K mg base 3 "_is_part" ["part"] (spPa fun _ => .bl true) := by
  refine D.cal sc__is_part (fun vs H Q E h => ?_) (fun _ _ _ _ _ _ us hl => match us, hl with | [_], _ => rfl) (fun f cdv A outer s H vs Q E hr h => ?_)
  · obtain ⟨_, _, rfl, _⟩ := h
    rfl
  obtain ⟨t, L, rfl, ⟨e, ht, he, hL⟩, q⟩ := h
  refine ⟨_, (pss_cons (ps_if (PW.pt (pw_or (pt_not (pt_val (pe_callB call_isi rfl B.isinstance_ bo_isinstance (pa_cons (pv 0) (pa_cons (pe_bltn (v := .ty "tuple") rfl B.tuple_ bo_tuple rfl) pa_nil))))) (pw_or1 (pt_cmpR op_ne (pe_callB call_len_seq rfl B.len_ bo_len (pa_cons (pv 0) pa_nil)) pe_int (nomark _)))))
     (pss_one (ps_ret pe_bl))
     pss_nil)
     (pss_cons (ps_asg (pv 0) (pg_tup rfl (pgs_cons (pg_name (i := 1) sc__is_part.nd rfl (.inl rfl)) (pgs_cons (pg_name (i := 2) sc__is_part.nd rfl (.inl rfl)) (pgs_cons (pg_name (i := 3) sc__is_part.nd rfl (.inl rfl)) pgs_nil)))))
     (pss_one (ps_ret (pe_and (pe_cal c_is_natural hr (by first | decide | omega) rfl (pa_cons (pv 1) pa_nil)) (pe_and (pe_cal c_is_natural hr (by first | decide | omega) rfl (pa_cons (pv 2) pa_nil)) (pe_one (pe_cal c_is_shape hr (by first | decide | omega) rfl (pa_cons (pv 3) pa_nil))))))))), ?_⟩
  refine ⟨_, rfl, _, _, _, _, _, rfl, cn, tx_t ht, ki_tt, true, rfl, ?_⟩
  dsimp only
  refine iteFb rfl ⟨_, rfl, t, _, rfl, .inr (SqT.of ht), rfl, _, rfl, iteFb (by rw [iEq]; rfl) ?_⟩
  refine ⟨_, rfl, t, _, rfl, SqT.of ht, rfl, _, _, rfl, _, _, rfl, _, _, rfl, rfl, ?_⟩
  refine ⟨_, rfl, _, rfl, by omega, true, rfl, iteT ⟨_, rfl, _, rfl, by omega, true, rfl, iteT ⟨_, rfl, e, rfl, he, fun H' s => q H' s⟩⟩⟩
theorem ok_is_shape {P : Program} {w : World} {K : PySem.W.Frag} {mg : Str → Option Value} {base : Heap} (D : Dfn K mg "is_shape" s_is_shape) (B : Bn mg)   (c__is_part : Cal P w K mg base 3 "_is_part" ["part"] (spPa fun _ => .bl true)) : Cal P w K mg base 4 "is_shape" ["thing"] (spSh fun _ => .bl true) := by
  refine D.cal sc_is_shape (fun vs H Q E h => ?_) (fun _ _ _ _ _ _ us hl => match us, hl with | [_], _ => rfl) (fun f cdv A outer s H vs Q E hr h => ?_)
  · obtain ⟨_, _, rfl, _⟩ := h
    rfl
  obtain ⟨s', L, rfl, ⟨t, hs, hp⟩, q⟩ := h
  refine ⟨_, (pss_one (ps_ret (pe_and (pe_callB call_isi rfl B.isinstance_ bo_isinstance (pa_cons (pv 0) (pa_cons (pe_bltn (v := .ty "tuple") rfl B.tuple_ bo_tuple rfl) pa_nil))) (pe_one (pe_callB (cr_all rfl) rfl B.all_ bo_all (pa_cons (pe_lc (own := [("part", 1)]) (g := (gName 1)) (tt := tYes) rfl sc_is_shape.nd (pi_tup (pv 0)) (blkOk_by (own := [("part", 1)]) (N := ["thing", "part"]) (sc := defScope s_is_shape) (by decide +kernel)) (fun _ _ _ _ _ => (pg_name (i := 1) sc_is_shape.nd rfl (.inl rfl))) (fun _ _ _ _ _ => pts_nil) (fun _ _ _ _ _ => (pe_cal c__is_part hr (by first | decide | omega) rfl (pa_cons (pv 1) pa_nil)))) pa_nil)))))), ?_⟩
  refine ⟨_, rfl, _, _, _, _, _, rfl, cn, tx_t hs, ki_tt, true, rfl, iteT ?_⟩
  refine ⟨_, rfl, s', rfl, ⟨_, SqT.of hs⟩, fun D1 n1 => lcT [.bl true] hs n1 rfl (by show 1 ≤ 60000; decide) (fun i x y H' hx hy s1 R hR => ?_) fun H1 s1 d1 => ?_⟩
  · have ex : x = .ref t := by simpa using List.mem_of_getElem? hx
    have ey : y = .bl true := by simpa using List.mem_of_getElem? hy
    subst ex
    subst ey
    obtain ⟨e, h1, h2, h3⟩ := hp
    exact ⟨rfl, _, rfl, t, L, rfl, ⟨e, s1 _ _ h1, s1 _ _ h2, h3⟩, fun H'' s2 => hR H'' s2⟩
  · exact ⟨D1, [true], rfl, SqL.of d1, q H1 s1⟩
theorem sc__check_shape : FnScope ["shape"] ["shape"] (defScope s__check_shape) := ⟨rfl, rfl, rfl, by decide +kernel, rfl, by decide +kernel, by decide +kernel⟩
theorem ok__check_shape {P : Program} {w : World} {K : PySem.W.Frag} {mg : Str → Option Value} {base : Heap} (D : Dfn K mg "_check_shape" s__check_shape) (B : Bn mg) (c_is_shape : Cal P w K mg base 4 "is_shape" ["thing"] (spSh fun _ => .bl true))   : Cal P w K mg base 5 "_check_shape" ["shape"] (spSh fun _ => .non) := by
  refine D.cal sc__check_shape (fun vs H Q E h => ?_) (fun _ _ _ _ _ _ us hl => match us, hl with | [_], _ => rfl) (fun f cdv A outer s H vs Q E hr h => ?_)
  · obtain ⟨_, _, rfl, _⟩ := h
    rfl
  obtain ⟨s', L, rfl, hs, q⟩ := h
  refine ⟨_, (pss_one (ps_if (pt_not (pt_val (pe_cal c_is_shape hr (by first | decide | omega) rfl (pa_cons (pv 0) pa_nil))))
     (pss_one ps_never)
     pss_nil)), ?_⟩
  exact ⟨_, rfl, s', L, rfl, hs, fun H1 s1 => ⟨true, rfl, iteF (q H1 s1)⟩⟩
theorem sc__size : FnScope ["shape", "total", "many", "length", "inner"] ["shape"] (defScope s__size) := ⟨rfl, rfl, rfl, by decide +kernel, rfl, by decide +kernel, by decide +kernel⟩
theorem ok__sizeZ {P : Program} {w : World} {K : PySem.W.Frag} {mg : Str → Option Value} {base : Heap} (D : Dfn K mg "_size" s__size) (B : Bn mg)   (c__size : Cal P w K mg base 1 "_size" ["shape"] bot) : Cal P w K mg base 2 "_size" ["shape"] (spEm (.int 0)) := by
  refine D.cal sc__size (fun vs H Q E h => ?_) (fun _ _ _ _ _ _ us hl => match us, hl with | [_], _ => rfl) (fun f cdv A outer s H vs Q E hr h => ?_)
  · obtain ⟨_, rfl, _⟩ := h
    rfl
  obtain ⟨e, rfl, he, q⟩ := h
  refine ⟨_, (pss_cons (ps_set (i := 1) sc__size.nd rfl (.inl rfl) pe_int)
     (pss_cons (ps_for PassesOwn.never rfl (pi_tup (pv 0)) (pg_tup rfl (pgs_cons (pg_name (i := 2) sc__size.nd rfl (.inl rfl)) (pgs_cons (pg_name (i := 3) sc__size.nd rfl (.inl rfl)) (pgs_cons (pg_name (i := 4) sc__size.nd rfl (.inl rfl)) pgs_nil))))
     (pss_one (ps_set (i := 1) sc__size.nd rfl (.inl rfl) (pe_op op_add (pv 1) (pe_op op_mul (pv 2) (pe_op op_add (pv 3) (pe_cal c__size hr (by first | decide | omega) rfl (pa_cons (pv 4) pa_nil))))))))
     (pss_one (ps_ret (pv 1))))), ?_⟩
  refine ⟨_, rfl, e, rfl, ⟨_, SqT.of he⟩, for_tup (xs := []) (fun i σ' H' => H' = H ∧ σ' = [some (.ref e), some (.int 0), none, none, none]) ⟨rfl, rfl⟩ (fun i σ' H' _ p => by rw [p.1]; exact SqT.of he) (fun i x σ' H' hi _ => by cases hi) (fun σ' H' p => ?_)⟩
  obtain ⟨rfl, rfl⟩ := p
  exact ⟨_, rfl, q _ (Same.refl _)⟩
theorem ok__size {P : Program} {w : World} {K : PySem.W.Frag} {mg : Str → Option Value} {base : Heap} (D : Dfn K mg "_size" s__size) (B : Bn mg)   (c__size : Cal P w K mg base 2 "_size" ["shape"] (spEm (.int 0))) : Cal P w K mg base 3 "_size" ["shape"] (spSh fun L => .int (L : Int)) := by
  refine D.cal sc__size (fun vs H Q E h => ?_) (fun _ _ _ _ _ _ us hl => match us, hl with | [_], _ => rfl) (fun f cdv A outer s H vs Q E hr h => ?_)
  · obtain ⟨_, _, rfl, _⟩ := h
    rfl
  obtain ⟨s', L, rfl, ⟨t, hs, e, ht, he, hL⟩, q⟩ := h
  refine ⟨_, (pss_cons (ps_set (i := 1) sc__size.nd rfl (.inl rfl) pe_int)
     (pss_cons (ps_for PassesOwn.never rfl (pi_tup (pv 0)) (pg_tup rfl (pgs_cons (pg_name (i := 2) sc__size.nd rfl (.inl rfl)) (pgs_cons (pg_name (i := 3) sc__size.nd rfl (.inl rfl)) (pgs_cons (pg_name (i := 4) sc__size.nd rfl (.inl rfl)) pgs_nil))))
     (pss_one (ps_set (i := 1) sc__size.nd rfl (.inl rfl) (pe_op op_add (pv 1) (pe_op op_mul (pv 2) (pe_op op_add (pv 3) (pe_cal c__size hr (by first | decide | omega) rfl (pa_cons (pv 4) pa_nil))))))))
     (pss_one (ps_ret (pv 1))))), ?_⟩
  refine ⟨_, rfl, s', rfl, ⟨_, SqT.of hs⟩, for_tup (xs := [.ref t]) (fun i σ' H' => Same H H' ∧ ∃ y2 y3 y4 : Option V, σ' = [some (.ref s'), some (.int ((i * L : Nat) : Int)), y2, y3, y4]) ⟨Same.refl _, none, none, none, by rw [Nat.zero_mul]; rfl⟩ (fun i σ' H' _ p => SqT.of (p.1 _ _ hs)) (fun i x σ' H' hi p => ?_) (fun σ' H' p => ?_)⟩
  · obtain ⟨s1, y2, y3, y4, rfl⟩ := p
    have ei : i = 0 := by
      have := (List.getElem?_eq_some_iff.mp hi).1
      simpa using this
    subst ei
    have ex : x = .ref t := (Option.some.inj hi).symm
    subst ex
    refine ⟨t, _, rfl, SqT.of (s1 _ _ ht), rfl, _, _, rfl, _, _, rfl, _, _, rfl, rfl, ?_⟩
    refine ⟨_, rfl, _, rfl, _, rfl, _, rfl, e, rfl, s1 _ _ he, fun H1 s2 => ⟨_, _, rfl, rfl, _, _, rfl, rfl, .inl ⟨by decide, by decide⟩, _, _, rfl, rfl, s1.trans s2, some (.int 1), some (.int (L : Int)), some (.ref e), ?_⟩⟩
    rw [Nat.zero_mul, Nat.zero_add, Nat.one_mul]
    show [_, some (V.int (((0 : Nat) : Int) + 1 * ((L : Int) + 0))), _, _, _] = _
    rw [show ((0 : Nat) : Int) + 1 * ((L : Int) + 0) = (L : Int) by omega]
  · obtain ⟨s1, y2, y3, y4, rfl⟩ := p
    have := q H' s1
    refine ⟨_, rfl, ?_⟩
    rw [show [V.ref t].length * L = L by simp]
    exact this
theorem sc_shape_size : FnScope ["shape"] ["shape"] (defScope s_shape_size) := ⟨rfl, rfl, rfl, by decide +kernel, rfl, by decide +kernel, by decide +kernel⟩
theorem ok_shape_size {P : Program} {w : World} {K : PySem.W.Frag} {mg : Str → Option Value} {base : Heap} (D : Dfn K mg "shape_size" s_shape_size) (B : Bn mg) (c__check_shape : Cal P w K mg base 5 "_check_shape" ["shape"] (spSh fun _ => .non)) (c__size : Cal P w K mg base 3 "_size" ["shape"] (spSh fun L => .int (L : Int)))   : Cal P w K mg base 6 "shape_size" ["shape"] (spSh fun L => .int (L : Int)) := by
  refine D.cal sc_shape_size (fun vs H Q E h => ?_) (fun _ _ _ _ _ _ us hl => match us, hl with | [_], _ => rfl) (fun f cdv A outer s H vs Q E hr h => ?_)
  · obtain ⟨_, _, rfl, _⟩ := h
    rfl
  obtain ⟨s', L, rfl, hs, q⟩ := h
  refine ⟨_, (pss_cons (ps_expr (pe_cal c__check_shape hr (by first | decide | omega) rfl (pa_cons (pv 0) pa_nil)))
     (pss_one (ps_ret (pe_cal c__size hr (by first | decide | omega) rfl (pa_cons (pv 0) pa_nil))))), ?_⟩
  exact ⟨_, rfl, s', L, rfl, hs, fun H1 s1 => ⟨_, rfl, s', L, rfl, hs.same s1, fun H2 s2 => q H2 (s1.trans s2)⟩⟩
def spEmW : Sp := fun vs H Q _ => ∃ (w : Nat) (e : Addr), vs = [.int (w : Int), .ref e] ∧ 1 ≤ w ∧ w ≤ 1000 ∧ Em H e ∧ ∀ H', Same H H' → Q (.int 0) H'
def spShW (r : Nat → Nat → V) : Sp := fun vs H Q _ => ∃ (w : Nat) (s : Addr) (L : Nat), vs = [.int (w : Int), .ref s] ∧ Sh H s L ∧ okN w L ∧ ∀ H', Same H H' → Q (r w L) H'
theorem sc__weight : FnScope ["width", "shape", "numbers", "many", "length", "inner"] ["width", "shape"] (defScope s__weight) := ⟨rfl, rfl, rfl, by decide +kernel, rfl, by decide +kernel, by decide +kernel⟩
theorem ok__weightZ {P : Program} {w : World} {K : PySem.W.Frag} {mg : Str → Option Value} {base : Heap} (D : Dfn K mg "_weight" s__weight) (B : Bn mg) (c_joined_all : Cal P w K mg base 6 "joined_all" ["width", "numbers"] spJA) (c_joined_many : Cal P w K mg base 6 "joined_many" ["width", "number", "many"] spJM)  (c__weight : Cal P w K mg base 1 "_weight" ["width", "shape"] bot) : Cal P w K mg base 7 "_weight" ["width", "shape"] spEmW := by
  refine D.cal sc__weight (fun vs H Q E h => ?_) (fun _ _ _ _ _ _ us hl => match us, hl with | [_, _], _ => rfl) (fun f cdv A outer s H vs Q E hr h => ?_)
  · obtain ⟨_, _, rfl, _⟩ := h
    rfl
  obtain ⟨w', e, rfl, w1, w2, he, q⟩ := h
  refine ⟨_, (pss_cons (ps_set (i := 2) sc__weight.nd rfl (.inl rfl) (pe_lst pa_nil))
     (pss_cons (ps_for PassesOwn.never rfl (pi_tup (pv 1)) (pg_tup rfl (pgs_cons (pg_name (i := 3) sc__weight.nd rfl (.inl rfl)) (pgs_cons (pg_name (i := 4) sc__weight.nd rfl (.inl rfl)) (pgs_cons (pg_name (i := 5) sc__weight.nd rfl (.inl rfl)) pgs_nil))))
     (pss_one (ps_expr (pe_bm PySem.F.plainAttrs_list PySem.F.slot_list_append PySem.F.type_list_append mt_append (pv 2) (pa_cons (pe_cal c_joined_many hr (by first | decide | omega) rfl (pa_cons (pv 0) (pa_cons (pe_op op_add (pv 4) (pe_cal c__weight hr (by first | decide | omega) rfl (pa_cons (pv 0) (pa_cons (pv 5) pa_nil)))) (pa_cons (pv 3) pa_nil)))) pa_nil)))))
     (pss_one (ps_ret (pe_cal c_joined_all hr (by first | decide | omega) rfl (pa_cons (pv 0) (pa_cons (pe_callTy call_tuple_of rfl B.tuple_ bo_tuple (pa_cons (pv 2) pa_nil)) pa_nil))))))), ?_⟩
  refine ⟨Nat.zero_le _, fun R nR => ⟨_, rfl, e, rfl, ⟨_, SqT.of (same_new nR _ _ _ he)⟩, for_tup (xs := []) (fun i σ' H' => H' = upd H R (.lst []) ∧ σ' = [some (.int (w' : Int)), some (.ref e), some (.ref R), none, none, none]) ⟨rfl, rfl⟩ (fun i σ' H' _ p => by rw [p.1]; exact SqT.of (same_new nR _ _ _ he)) (fun i x σ' H' hi _ => by cases hi) (fun σ' H' p => ?_)⟩⟩
  obtain ⟨rfl, rfl⟩ := p
  refine ⟨_, rfl, _, rfl, R, _, rfl, .inl ⟨SqL.of upd_same, fun T nT => ?_⟩⟩
  exact ⟨w', T, [], rfl, w1, w2, upd_same, by decide, (fun _ h => nomatch h), fun H' s => q H' ((same_new nR _).trans ((same_new nT _).trans s))⟩
theorem ok__weight {P : Program} {w : World} {K : PySem.W.Frag} {mg : Str → Option Value} {base : Heap} (D : Dfn K mg "_weight" s__weight) (B : Bn mg) (c_joined_all : Cal P w K mg base 6 "joined_all" ["width", "numbers"] spJA) (c_joined_many : Cal P w K mg base 6 "joined_many" ["width", "number", "many"] spJM)  (c__weight : Cal P w K mg base 7 "_weight" ["width", "shape"] spEmW) : Cal P w K mg base 8 "_weight" ["width", "shape"] (spShW fun _ L => .int (L : Int)) := by
  refine D.cal sc__weight (fun vs H Q E h => ?_) (fun _ _ _ _ _ _ us hl => match us, hl with | [_, _], _ => rfl) (fun f cdv A outer s H vs Q E hr h => ?_)
  · obtain ⟨_, _, _, rfl, _⟩ := h
    rfl
  obtain ⟨w', s', L, rfl, ⟨t, hs, e, ht, he, hL⟩, ok, q⟩ := h
  have ok' := ok
  obtain ⟨w1, w2, _⟩ := ok'
  refine ⟨_, (pss_cons (ps_set (i := 2) sc__weight.nd rfl (.inl rfl) (pe_lst pa_nil))
     (pss_cons (ps_for PassesOwn.never rfl (pi_tup (pv 1)) (pg_tup rfl (pgs_cons (pg_name (i := 3) sc__weight.nd rfl (.inl rfl)) (pgs_cons (pg_name (i := 4) sc__weight.nd rfl (.inl rfl)) (pgs_cons (pg_name (i := 5) sc__weight.nd rfl (.inl rfl)) pgs_nil))))
     (pss_one (ps_expr (pe_bm PySem.F.plainAttrs_list PySem.F.slot_list_append PySem.F.type_list_append mt_append (pv 2) (pa_cons (pe_cal c_joined_many hr (by first | decide | omega) rfl (pa_cons (pv 0) (pa_cons (pe_op op_add (pv 4) (pe_cal c__weight hr (by first | decide | omega) rfl (pa_cons (pv 0) (pa_cons (pv 5) pa_nil)))) (pa_cons (pv 3) pa_nil)))) pa_nil)))))
     (pss_one (ps_ret (pe_cal c_joined_all hr (by first | decide | omega) rfl (pa_cons (pv 0) (pa_cons (pe_callTy call_tuple_of rfl B.tuple_ bo_tuple (pa_cons (pv 2) pa_nil)) pa_nil))))))), ?_⟩
  refine ⟨Nat.zero_le _, fun R nR => ?_⟩
  have s0 := same_new nR (.lst [])
  refine ⟨_, rfl, s', rfl, ⟨_, SqT.of (s0 _ _ hs)⟩, for_tup (xs := [.ref t]) (fun i σ' H' => Same H H' ∧ H' R = some (.lst (nv (List.replicate i L))) ∧ ∃ y2 y3 y4 : Option V, σ' = [some (.int (w' : Int)), some (.ref s'), some (.ref R), y2, y3, y4]) ⟨s0, upd_same, none, none, none, rfl⟩ (fun i σ' H' _ p => SqT.of (p.1 _ _ hs)) (fun i x σ' H' hi p => ?_) (fun σ' H' p => ?_)⟩
  · obtain ⟨s1, hR, y2, y3, y4, rfl⟩ := p
    have ei : i = 0 := by
      have := (List.getElem?_eq_some_iff.mp hi).1
      simpa using this
    subst ei
    have ex : x = .ref t := (Option.some.inj hi).symm
    subst ex
    refine ⟨t, _, rfl, SqT.of (s1 _ _ ht), rfl, _, _, rfl, _, _, rfl, _, _, rfl, rfl, ?_⟩
    refine ⟨_, rfl, .inl ⟨rfl, _, SqL.of hR⟩, _, rfl, _, rfl, _, rfl, _, rfl, w', e, rfl, w1, w2, s1 _ _ he, fun H1 s2 => ⟨_, _, rfl, rfl, _, rfl, w', L, ?_, ok, fun H2 s3 => ⟨R, _, _, rfl, rfl, s3 _ _ (s2 _ _ hR), sz_lt (by rw [nv_len, List.length_replicate]; omega), ?_⟩⟩⟩
    · show [V.int (w' : Int), V.int ((L : Int) + 0), V.int 1] = _
      rw [Int.add_zero]
    · refine ⟨same_mut (s1.trans (s2.trans s3)) nR, ?_, _, _, _, rfl⟩
      rw [upd_same]
      rfl
  · obtain ⟨s1, hR, y2, y3, y4, rfl⟩ := p
    refine ⟨_, rfl, _, rfl, R, _, rfl, .inl ⟨SqL.of hR, fun T nT => ?_⟩⟩
    refine ⟨w', T, [L], rfl, w1, w2, upd_same, Nat.le_refl _, fun n hn => by rw [List.mem_singleton.mp hn]; exact ok, fun H2 s2 => ?_⟩
    have := q H2 (s1.trans ((same_new nT _).trans s2))
    rw [show [L].sum = L by simp]
    exact this
theorem sc_shape_weight : FnScope ["width", "shape"] ["width", "shape"] (defScope s_shape_weight) := ⟨rfl, rfl, rfl, by decide +kernel, rfl, by decide +kernel, by decide +kernel⟩
theorem ok_shape_weight {P : Program} {w : World} {K : PySem.W.Frag} {mg : Str → Option Value} {base : Heap} (D : Dfn K mg "shape_weight" s_shape_weight) (B : Bn mg) (c__check_shape : Cal P w K mg base 5 "_check_shape" ["shape"] (spSh fun _ => .non)) (c__weight : Cal P w K mg base 8 "_weight" ["width", "shape"] (spShW fun _ L => .int (L : Int))) (c_is_natural : Cal P w K mg base 2 "is_natural" ["thing"] (spI1 (fun n => 1 ≤ n) fun _ => .bl true))   : Cal P w K mg base 9 "shape_weight" ["width", "shape"] (spShW fun _ L => .int (L : Int)) := by
  refine D.cal sc_shape_weight (fun vs H Q E h => ?_) (fun _ _ _ _ _ _ us hl => match us, hl with | [_, _], _ => rfl) (fun f cdv A outer s H vs Q E hr h => ?_)
  · obtain ⟨_, _, _, rfl, _⟩ := h
    rfl
  obtain ⟨w', s', L, rfl, hs, ok, q⟩ := h
  have ok' := ok
  obtain ⟨w1, w2, _⟩ := ok'
  refine ⟨_, (pss_cons (ps_if (pt_not (pt_val (pe_cal c_is_natural hr (by first | decide | omega) rfl (pa_cons (pv 0) pa_nil))))
     (pss_one ps_never)
     pss_nil)
     (pss_cons (ps_expr (pe_cal c__check_shape hr (by first | decide | omega) rfl (pa_cons (pv 1) pa_nil)))
     (pss_one (ps_ret (pe_cal c__weight hr (by first | decide | omega) rfl (pa_cons (pv 0) (pa_cons (pv 1) pa_nil))))))), ?_⟩
  refine ⟨_, rfl, _, rfl, by omega, true, rfl, iteF ?_⟩
  exact ⟨_, rfl, s', L, rfl, hs, fun H1 s1 => ⟨_, rfl, _, rfl, w', s', L, rfl, hs.same s1, ok, fun H2 s2 => q H2 (s1.trans s2)⟩⟩
theorem sc__depth : FnScope ["shape", "greatest", "_", "length", "inner", "depth"] ["shape"] (defScope s__depth) := ⟨rfl, rfl, rfl, by decide +kernel, rfl, by decide +kernel, by decide +kernel⟩
theorem ok__depthZ {P : Program} {w : World} {K : PySem.W.Frag} {mg : Str → Option Value} {base : Heap} (D : Dfn K mg "_depth" s__depth) (B : Bn mg)   (c__depth : Cal P w K mg base 1 "_depth" ["shape"] bot) : Cal P w K mg base 2 "_depth" ["shape"] (spEm (.int 0)) := by
  refine D.cal sc__depth (fun vs H Q E h => ?_) (fun _ _ _ _ _ _ us hl => match us, hl with | [_], _ => rfl) (fun f cdv A outer s H vs Q E hr h => ?_)
  · obtain ⟨_, rfl, _⟩ := h
    rfl
  obtain ⟨e, rfl, he, q⟩ := h
  refine ⟨_, (pss_cons (ps_set (i := 1) sc__depth.nd rfl (.inl rfl) pe_int)
     (pss_cons (ps_for PassesOwn.never rfl (pi_tup (pv 0)) (pg_tup rfl (pgs_cons (pg_name (i := 2) sc__depth.nd rfl (.inl rfl)) (pgs_cons (pg_name (i := 3) sc__depth.nd rfl (.inl rfl)) (pgs_cons (pg_name (i := 4) sc__depth.nd rfl (.inl rfl)) pgs_nil))))
     (pss_cons (ps_set (i := 5) sc__depth.nd rfl (.inl rfl) (pe_op op_add (pv 3) (pe_cal c__depth hr (by first | decide | omega) rfl (pa_cons (pv 4) pa_nil))))
     (pss_one (ps_if (pt_cmpR op_gt (pv 5) (pv 1) (nomark _))
     (pss_one (ps_set (i := 1) sc__depth.nd rfl (.inl rfl) (pv 5)))
     pss_nil))))
     (pss_one (ps_ret (pv 1))))), ?_⟩
  refine ⟨_, rfl, e, rfl, ⟨_, SqT.of he⟩, for_tup (xs := []) (fun i σ' H' => H' = H ∧ σ' = [some (.ref e), some (.int 0), none, none, none, none]) ⟨rfl, rfl⟩ (fun i σ' H' _ p => by rw [p.1]; exact SqT.of he) (fun i x σ' H' hi _ => by cases hi) (fun σ' H' p => ?_)⟩
  obtain ⟨rfl, rfl⟩ := p
  exact ⟨_, rfl, q _ (Same.refl _)⟩
theorem ok__depth {P : Program} {w : World} {K : PySem.W.Frag} {mg : Str → Option Value} {base : Heap} (D : Dfn K mg "_depth" s__depth) (B : Bn mg)   (c__depth : Cal P w K mg base 2 "_depth" ["shape"] (spEm (.int 0))) : Cal P w K mg base 3 "_depth" ["shape"] (spSh fun L => .int (L : Int)) := by
  refine D.cal sc__depth (fun vs H Q E h => ?_) (fun _ _ _ _ _ _ us hl => match us, hl with | [_], _ => rfl) (fun f cdv A outer s H vs Q E hr h => ?_)
  · obtain ⟨_, _, rfl, _⟩ := h
    rfl
  obtain ⟨s', L, rfl, ⟨t, hs, e, ht, he, hL⟩, q⟩ := h
  refine ⟨_, (pss_cons (ps_set (i := 1) sc__depth.nd rfl (.inl rfl) pe_int)
     (pss_cons (ps_for PassesOwn.never rfl (pi_tup (pv 0)) (pg_tup rfl (pgs_cons (pg_name (i := 2) sc__depth.nd rfl (.inl rfl)) (pgs_cons (pg_name (i := 3) sc__depth.nd rfl (.inl rfl)) (pgs_cons (pg_name (i := 4) sc__depth.nd rfl (.inl rfl)) pgs_nil))))
     (pss_cons (ps_set (i := 5) sc__depth.nd rfl (.inl rfl) (pe_op op_add (pv 3) (pe_cal c__depth hr (by first | decide | omega) rfl (pa_cons (pv 4) pa_nil))))
     (pss_one (ps_if (pt_cmpR op_gt (pv 5) (pv 1) (nomark _))
     (pss_one (ps_set (i := 1) sc__depth.nd rfl (.inl rfl) (pv 5)))
     pss_nil))))
     (pss_one (ps_ret (pv 1))))), ?_⟩
  refine ⟨_, rfl, s', rfl, ⟨_, SqT.of hs⟩, for_tup (xs := [.ref t]) (fun i σ' H' => Same H H' ∧ ∃ y2 y3 y4 y5 : Option V, σ' = [some (.ref s'), some (.int ((i * L : Nat) : Int)), y2, y3, y4, y5]) ⟨Same.refl _, none, none, none, none, by rw [Nat.zero_mul]; rfl⟩ (fun i σ' H' _ p => SqT.of (p.1 _ _ hs)) (fun i x σ' H' hi p => ?_) (fun σ' H' p => ?_)⟩
  · obtain ⟨s1, y2, y3, y4, y5, rfl⟩ := p
    have ei : i = 0 := by
      have := (List.getElem?_eq_some_iff.mp hi).1
      simpa using this
    subst ei
    have ex : x = .ref t := (Option.some.inj hi).symm
    subst ex
    refine ⟨t, _, rfl, SqT.of (s1 _ _ ht), rfl, _, _, rfl, _, _, rfl, _, _, rfl, rfl, ?_⟩
    refine ⟨_, rfl, _, rfl, e, rfl, s1 _ _ he, fun H1 s2 => ⟨_, _, rfl, rfl, _, rfl, _, rfl, _, _, rfl, rfl, _, rfl, ?_⟩⟩
    refine iteTb (dT ?_) ⟨_, rfl, s1.trans s2, some (.int 1), some (.int (L : Int)), some (.ref e), some (.int ((L : Int) + 0)), ?_⟩
    · show (((0 * L : Nat) : Int)) < (L : Int) + 0
      rw [Nat.zero_mul]
      omega
    · rw [Nat.zero_add, Nat.one_mul]
      show [_, some (V.int ((L : Int) + 0)), _, _, _, _] = _
      rw [Int.add_zero]
      rfl
  · obtain ⟨s1, y2, y3, y4, y5, rfl⟩ := p
    have := q H' s1
    refine ⟨_, rfl, ?_⟩
    rw [show [V.ref t].length * L = L by simp]
    exact this
theorem sc_shape_depth : FnScope ["shape"] ["shape"] (defScope s_shape_depth) := ⟨rfl, rfl, rfl, by decide +kernel, rfl, by decide +kernel, by decide +kernel⟩
theorem ok_shape_depth {P : Program} {w : World} {K : PySem.W.Frag} {mg : Str → Option Value} {base : Heap} (D : Dfn K mg "shape_depth" s_shape_depth) (B : Bn mg) (c__check_shape : Cal P w K mg base 5 "_check_shape" ["shape"] (spSh fun _ => .non)) (c__depth : Cal P w K mg base 3 "_depth" ["shape"] (spSh fun L => .int (L : Int)))   : Cal P w K mg base 6 "shape_depth" ["shape"] (spSh fun L => .int (L : Int)) := by
  refine D.cal sc_shape_depth (fun vs H Q E h => ?_) (fun _ _ _ _ _ _ us hl => match us, hl with | [_], _ => rfl) (fun f cdv A outer s H vs Q E hr h => ?_)
  · obtain ⟨_, _, rfl, _⟩ := h
    rfl
  obtain ⟨s', L, rfl, hs, q⟩ := h
  refine ⟨_, (pss_cons (ps_expr (pe_cal c__check_shape hr (by first | decide | omega) rfl (pa_cons (pv 0) pa_nil)))
     (pss_one (ps_ret (pe_cal c__depth hr (by first | decide | omega) rfl (pa_cons (pv 0) pa_nil))))), ?_⟩
  exact ⟨_, rfl, s', L, rfl, hs, fun H1 s1 => ⟨_, rfl, s', L, rfl, hs.same s1, fun H2 s2 => q H2 (s1.trans s2)⟩⟩
def spShF : Sp := fun vs H Q _ => ∃ (w r : Nat) (s : Addr) (L : Nat), vs = [.int (w : Int), .int (r : Int), .ref s] ∧ Sh H s L ∧ okN w L ∧ 1 ≤ r ∧ r ≤ 1000 ∧ ∀ H', Same H H' → Q (.bl (decide (L < Cb (w + r) r))) H'
theorem sc_shape_fits : FnScope ["width", "reach", "shape"] ["width", "reach", "shape"] (defScope s_shape_fits) := ⟨rfl, rfl, rfl, by decide +kernel, rfl, by decide +kernel, by decide +kernel⟩
theorem ok_shape_fits {P : Program} {w : World} {K : PySem.W.Frag} {mg : Str → Option Value} {base : Heap} (D : Dfn K mg "shape_fits" s_shape_fits) (B : Bn mg) (c__check_shape : Cal P w K mg base 5 "_check_shape" ["shape"] (spSh fun _ => .non)) (c_is_natural : Cal P w K mg base 2 "is_natural" ["thing"] (spI1 (fun n => 1 ≤ n) fun _ => .bl true)) (c__weight : Cal P w K mg base 8 "_weight" ["width", "shape"] (spShW fun _ L => .int (L : Int))) (c_capacity : Cal P w K mg base 3 "capacity" ["width", "reach"] (spC (fun w r => Cb (w + r) r) fun w r => 1 ≤ w ∧ 1 ≤ r ∧ w + r ≤ 18000))   : Cal P w K mg base 9 "shape_fits" ["width", "reach", "shape"] spShF := by
  refine D.cal sc_shape_fits (fun vs H Q E h => ?_) (fun _ _ _ _ _ _ us hl => match us, hl with | [_, _, _], _ => rfl) (fun f cdv A outer s H vs Q E hr h => ?_)
  · obtain ⟨_, _, _, _, rfl, _⟩ := h
    rfl
  obtain ⟨w', r, s', L, rfl, hs, ok, r1, r2, q⟩ := h
  have ok' := ok
  obtain ⟨w1, w2, _⟩ := ok'
  refine ⟨_, (pss_cons (ps_if (pt_not (pt_val (pe_cal c_is_natural hr (by first | decide | omega) rfl (pa_cons (pv 0) pa_nil))))
     (pss_one ps_never)
     pss_nil)
     (pss_cons (ps_if (pt_not (pt_val (pe_cal c_is_natural hr (by first | decide | omega) rfl (pa_cons (pv 1) pa_nil))))
     (pss_one ps_never)
     pss_nil)
     (pss_cons (ps_expr (pe_cal c__check_shape hr (by first | decide | omega) rfl (pa_cons (pv 2) pa_nil)))
     (pss_one (ps_ret (pe_cmpR op_lt (pe_cal c__weight hr (by first | decide | omega) rfl (pa_cons (pv 0) (pa_cons (pv 2) pa_nil))) (pe_cal c_capacity hr (by first | decide | omega) rfl (pa_cons (pv 0) (pa_cons (pv 1) pa_nil))) (nomark _))))))), ?_⟩
  refine ⟨_, rfl, _, rfl, by omega, true, rfl, iteF ?_⟩
  refine ⟨_, rfl, _, rfl, by omega, true, rfl, iteF ?_⟩
  refine ⟨_, rfl, s', L, rfl, hs, fun H1 s1 => ⟨_, rfl, _, rfl, w', s', L, rfl, hs.same s1, ok, fun H2 s2 => ⟨_, rfl, _, rfl, w', r, rfl, ⟨w1, r1, by omega⟩, _, _, rfl, rfl, ?_⟩⟩⟩
  have qq := q H2 (s1.trans s2)
  by_cases c : L < Cb (w' + r) r
  · rw [dT c] at qq
    exact qT (dT (show (L : Int) < ((Cb (w' + r) r : Nat) : Int) by omega)) qq
  · rw [dF c] at qq
    exact qF (dF (show ¬ (L : Int) < ((Cb (w' + r) r : Nat) : Int) by omega)) qq
/-- the first member of the row of the number -/
def spShR : Sp := fun vs H Q _ => ∃ (w : Nat) (s : Addr) (L : Nat), vs = [.int (w : Int), .ref s] ∧ Sh H s L ∧ okN w L ∧ ∀ l : List Nat, Dn l → Nn w l = L → ∀ H', Same H H' → Q (.int ((l.headD 0 : Nat) : Int)) H'
theorem sc_shape_reach : FnScope ["width", "shape", "row"] ["width", "shape"] (defScope s_shape_reach) := ⟨rfl, rfl, rfl, by decide +kernel, rfl, by decide +kernel, by decide +kernel⟩
theorem ok_shape_reach {P : Program} {w : World} {K : PySem.W.Frag} {mg : Str → Option Value} {base : Heap} (D : Dfn K mg "shape_reach" s_shape_reach) (B : Bn mg) (c_row_of : Cal P w K mg base 3 "row_of" ["width", "number"] spRowOf) (c_shape_weight : Cal P w K mg base 9 "shape_weight" ["width", "shape"] (spShW fun _ L => .int (L : Int)))   : Cal P w K mg base 10 "shape_reach" ["width", "shape"] spShR := by
  refine D.cal sc_shape_reach (fun vs H Q E h => ?_) (fun _ _ _ _ _ _ us hl => match us, hl with | [_, _], _ => rfl) (fun f cdv A outer s H vs Q E hr h => ?_)
  · obtain ⟨_, _, _, rfl, _⟩ := h
    rfl
  obtain ⟨w', s', L, rfl, hs, ok, q⟩ := h
  have ok' := ok
  obtain ⟨w1, w2, hn⟩ := ok'
  refine ⟨_, (pss_cons (ps_set (i := 2) sc_shape_reach.nd rfl (.inl rfl) (pe_cal c_row_of hr (by first | decide | omega) rfl (pa_cons (pv 0) (pa_cons (pe_cal c_shape_weight hr (by first | decide | omega) rfl (pa_cons (pv 0) (pa_cons (pv 1) pa_nil))) pa_nil))))
     (pss_one (ps_ret (pe_ifExp (pt_truth (pv 2) (by intro _; rfl)) (pe_ix ix_tup (pv 2) pe_int (fun _ _ => rfl)) pe_int)))), ?_⟩
  refine ⟨_, rfl, _, rfl, _, rfl, w', s', L, rfl, hs, ok, fun H1 s1 => ?_⟩
  refine ⟨w', L, rfl, w1, by omega, hn, fun l hd hp hz e hb u H2 s2 hu => ?_⟩
  have qq := q l hd e H2 (s1.trans s2)
  cases l with
  | nil => exact ⟨_, rfl, false, .inr (.inl ⟨_, SqT.of hu, rfl⟩), iteF qq⟩
  | cons x m => exact ⟨_, rfl, true, .inr (.inl ⟨_, SqT.of hu, rfl⟩), iteT ⟨_, rfl, u, _, _, _, rfl, rfl, SqT.of hu, nv_atI (i := 0) (l := x :: m) rfl, qq⟩⟩
end K67
set_option maxHeartbeats 1000000
namespace K67
open PySem PySem.Spec PyProof.Rows L2
/-! ### what the law draws -/
def HandC (H : Hp) (h c : Addr) : Prop := ∃ (xs : List Int) (p : Nat) (b st k : Int), H h = some (.lst [.ref c, .int (p : Int), .int b, .int st, .int k]) ∧ H c = some (.lst (xs.map V.int)) ∧ c ≠ h
theorem HandC.same {H H' : Hp} {h c : Addr} (a : HandC H h c) (s : Same H H') : HandC H' h c := by
  obtain ⟨xs, p, b, st, k, h1, h2, h3⟩ := a
  exact ⟨xs, p, b, st, k, s _ _ h1, s _ _ h2, h3⟩
theorem HandC.other {H : Hp} {h c P : Addr} {o : HO} (a : HandC H h c) (n1 : P ≠ h) (n2 : P ≠ c) : HandC (upd H P o) h c := by
  obtain ⟨xs, p, b, st, k, h1, h2, h3⟩ := a
  exact ⟨xs, p, b, st, k, by rw [upd_ne n1.symm]; exact h1, by rw [upd_ne n2.symm]; exact h2, h3⟩
theorem SameX.mut {D P : Addr} {H H1 : Hp} {o : HO} (h : SameX D H H1) (n : H P = none) : SameX D H (upd H1 P o) := fun b u hb e => by
  rw [upd_ne (ne_of_none e n)]
  exact h b u hb e
theorem SameX.upd {D : Addr} {H H1 : Hp} {o : HO} (h : SameX D H H1) : SameX D H (upd H1 D o) := fun b u n e => by
  rw [upd_ne n]
  exact h b u n e
theorem SameX.refl (D : Addr) (H : Hp) : SameX D H H := fun _ _ _ e => e
def spHand (K : PySem.W.Frag) : Sp := fun vs H Q _ => ∃ (a : Addr) (xs : List Int), vs = [.ref a] ∧ SqL K H a (xs.map V.int) ∧ ∀ h c H', Same H H' → H h = none → HandC H' h c → Q (.ref h) H'
theorem sc__law_hand : FnScope ["_law_script", "_law_stir", "_law_cell"] ["_law_script"] (defScope s__law_hand) := ⟨rfl, rfl, rfl, by decide +kernel, rfl, by decide +kernel, by decide +kernel⟩
theorem ok__law_hand {P : Program} {w : World} {K : PySem.W.Frag} {mg : Str → Option Value} {base : Heap} (D : Dfn K mg "_law_hand" s__law_hand) (B : Bn mg)    : Cal P w K mg base 1 "_law_hand" ["_law_script"] (spHand K) := by
  refine D.cal sc__law_hand (fun vs H Q E h => ?_) (fun _ _ _ _ _ _ us hl => match us, hl with | [_], _ => rfl) (fun f cdv A outer s H vs Q E hr h => ?_)
  · obtain ⟨_, _, rfl, _⟩ := h
    rfl
  obtain ⟨a, xs, rfl, ha, q⟩ := h
  refine ⟨_, (pss_cons (ps_set (i := 1) sc__law_hand.nd rfl (.inl rfl) pe_int)
     (pss_cons (ps_for PassesOwn.never rfl (pi_list (pv 0)) (pg_name (i := 2) sc__law_hand.nd rfl (.inl rfl))
     (pss_one (ps_set (i := 1) sc__law_hand.nd rfl (.inl rfl) (pe_op op_modN (pe_callTy call_int1 rfl B.int_ bo_int (pa_cons (pe_op op_add (pe_op op_add (pe_op op_mul (pv 1) pe_int) (pe_op op_mul (pv 2) pe_int)) pe_int) pa_nil)) pe_int))))
     (pss_one (ps_ret (pe_lst (pa_cons (pe_callTy call_list_of rfl B.list_ bo_list (pa_cons (pv 0) pa_nil)) (pa_cons pe_int (pa_cons pe_int (pa_cons (pv 1) (pa_cons pe_int pa_nil)))))))))), ?_⟩
  refine ⟨_, rfl, a, rfl, ⟨_, ha⟩, for_list (xs := xs.map V.int) (fun i σ' H' => H' = H ∧ ∃ (st : Int) (y : Option V), σ' = [some (.ref a), some (.int st), y]) ⟨rfl, 0, none, rfl⟩ (fun i σ' H' _ p => by rw [p.1]; exact ha) (fun i x σ' H' hi p => ?_) (fun σ' H' p => ?_)⟩
  · obtain ⟨rfl, st, y, rfl⟩ := p
    rw [List.getElem?_map] at hi
    cases e : xs[i]? with
    | none => rw [e] at hi; cases hi
    | some z =>
      rw [e] at hi
      have ex : V.int z = x := Option.some.inj hi
      subst ex
      exact ⟨_, rfl, _, _, rfl, rfl, .inr ⟨by decide, by decide⟩, _, rfl, _, _, rfl, rfl, .inr ⟨by decide, by decide⟩, _, _, rfl, rfl, _, _, rfl, rfl, .inl ⟨_, rfl, _, _, rfl, rfl, (show (1000003 : Int) ≠ 0 by decide), rfl, _, _, rfl⟩⟩
  · obtain ⟨rfl, st, y, rfl⟩ := p
    refine ⟨_, rfl, a, _, rfl, .inl (ha), fun c nc => ⟨_, rfl, by show 5 ≤ sizeLine; decide, fun h nh => ?_⟩⟩
    have s1 := same_new nc (.lst (xs.map V.int))
    have s2 := same_new nh (.lst [.ref c, .int 0, .int 0, .int st, .int 0])
    have hc := s2 _ _ (upd_same (H := H') (a := c) (o := .lst (xs.map V.int)))
    have nh0 : H' h = none := s1.free nh
    exact q h c _ (s1.trans s2) nh0 ⟨xs, 0, 0, st, 0, upd_same, hc, fun e => by rw [e, upd_same] at nh; cases nh⟩
theorem fm_nat (x : Int) {m : Nat} (hm : 1 ≤ m) : ∃ r : Nat, r < m ∧ Int.fmod x (m : Int) = (r : Int) := by
  have h1 := Int.fmod_nonneg_of_pos x (b := (m : Int)) (by omega)
  have h2 := Int.fmod_lt_of_pos x (b := (m : Int)) (by omega)
  exact ⟨(Int.fmod x m).toNat, by omega, by omega⟩
def spTake : Sp := fun vs H Q _ => ∃ (h : Addr) (m : Nat) (c : Addr), vs = [.ref h, .int (m : Int)] ∧ HandC H h c ∧ 1 ≤ m ∧ m ≤ 1000 ∧ ∀ (r : Nat) (H' : Hp), r < m → SameX h H H' → HandC H' h c → Q (.int (r : Int)) H'
theorem sc__law_take : FnScope ["_law_hand_here", "_law_many", "_law_cell", "_law_mixed", "_law_digit"] ["_law_hand_here", "_law_many"] (defScope s__law_take) := ⟨rfl, rfl, rfl, by decide +kernel, rfl, by decide +kernel, by decide +kernel⟩
theorem ok__law_take {P : Program} {w : World} {K : PySem.W.Frag} {mg : Str → Option Value} {base : Heap} (D : Dfn K mg "_law_take" s__law_take) (B : Bn mg)    : Cal P w K mg base 1 "_law_take" ["_law_hand_here", "_law_many"] spTake := by
  refine D.cal sc__law_take (fun vs H Q E h => ?_) (fun _ _ _ _ _ _ us hl => match us, hl with | [_, _], _ => rfl) (fun f cdv A outer s H vs Q E hr h => ?_)
  · obtain ⟨_, _, _, rfl, _⟩ := h
    rfl
  obtain ⟨h, m, c, rfl, ⟨xs, p, b, st, k, hH, hC, hne⟩, m1, m2, q⟩ := h
  refine ⟨_, (pss_cons (ps_asg (pe_op op_add (pe_ix ix_list (pv 0) pe_int (fun _ _ => rfl)) pe_int) (pg_sub (pv 0) pe_int set_list))
     (C8.pss_cut (ps_if (PW.pt (pw_and (pt_cmpR op_eq (pe_ix ix_list (pv 0) pe_int (fun _ _ => rfl)) pe_int (nomark _)) (pw_and1 (pt_cmpR op_lt (pe_ix ix_list (pv 0) pe_int (fun _ _ => rfl)) (pe_callB call_len_seq rfl B.len_ bo_len (pa_cons (pe_ix ix_list (pv 0) pe_int (fun _ _ => rfl)) pa_nil)) (nomark _)))))
     (pss_cons (ps_set (i := 2) sc__law_take.nd rfl (.inl rfl) (pe_ix ix_list (pe_ix ix_list (pv 0) pe_int (fun _ _ => rfl)) (pe_ix ix_list (pv 0) pe_int (fun _ _ => rfl)) (fun _ _ => rfl)))
     (pss_cons (ps_asg (pe_op op_add (pe_ix ix_list (pv 0) pe_int (fun _ _ => rfl)) pe_int) (pg_sub (pv 0) pe_int set_list))
     (pss_one (ps_if (pt_cmpR op_ge (pe_callB call_abs rfl B.abs_ bo_abs (pa_cons (pv 2) pa_nil)) (pe_op op_pow pe_int pe_int) (nomark _))
     (pss_one (ps_asg (pe_callB call_abs rfl B.abs_ bo_abs (pa_cons (pv 2) pa_nil)) (pg_sub (pv 0) pe_int set_list)))
     (pss_cons (ps_set (i := 3) sc__law_take.nd rfl (.inl rfl) (pe_op op_modN (pe_callTy call_int1 rfl B.int_ bo_int (pa_cons (pe_op op_add (pe_op op_add (pe_op op_mul (pv 2) pe_int) (pe_op op_mul (pe_ix ix_list (pv 0) pe_int (fun _ _ => rfl)) pe_int)) pe_int) pa_nil)) pe_int))
     (pss_one (ps_ret (pe_op op_modN (pe_op op_modN (pe_callTy call_int1 rfl B.int_ bo_int (pa_cons (pe_op op_add (pe_op op_mul (pv 3) pe_int) (pe_op op_fdivN (pv 3) pe_int)) pa_nil)) pe_int) (pv 1)))))))))
     pss_nil)
     (pss_cons (ps_if (pt_cmpR op_gt (pe_ix ix_list (pv 0) pe_int (fun _ _ => rfl)) pe_int (nomark _))
     (pss_cons (ps_set (i := 4) sc__law_take.nd rfl (.inl rfl) (pe_op op_modN (pe_callTy call_int1 rfl B.int_ bo_int (pa_cons (pe_ix ix_list (pv 0) pe_int (fun _ _ => rfl)) pa_nil)) (pv 1)))
     (pss_cons (ps_asg (pe_op op_fdivN (pe_ix ix_list (pv 0) pe_int (fun _ _ => rfl)) (pv 1)) (pg_sub (pv 0) pe_int set_list))
     (pss_one (ps_ret (pv 4)))))
     pss_nil)
     (pss_cons (ps_if (pt_cmpR op_eq (pe_callB call_len_seq rfl B.len_ bo_len (pa_cons (pe_ix ix_list (pv 0) pe_int (fun _ _ => rfl)) pa_nil)) pe_int (nomark _))
     (pss_one (ps_ret pe_int))
     pss_nil)
     (pss_cons (ps_set (i := 3) sc__law_take.nd rfl (.inl rfl) (pe_op op_modN (pe_callTy call_int1 rfl B.int_ bo_int (pa_cons (pe_op op_add (pe_op op_add (pe_op op_mul (pe_ix ix_list (pv 0) pe_int (fun _ _ => rfl)) pe_int) (pe_op op_mul (pe_ix ix_list (pv 0) pe_int (fun _ _ => rfl)) pe_int)) pe_int) pa_nil)) pe_int))
     (pss_one (ps_ret (pe_op op_modN (pe_op op_modN (pe_callTy call_int1 rfl B.int_ bo_int (pa_cons (pe_op op_add (pe_op op_mul (pv 3) (pe_op op_add (pe_op op_modN (pe_callTy call_int1 rfl B.int_ bo_int (pa_cons (pv 3) pa_nil)) pe_int) pe_int)) (pe_op op_fdivN (pv 3) pe_int)) pa_nil)) pe_int) (pv 1))))))))), ?_⟩
  have small : CDivN 0 (m : Int) := ⟨by omega, by omega⟩
  refine ⟨_, rfl, h, _, _, _, rfl, rfl, SqL.of hH, atI_nat (j := 4) rfl, _, _, rfl, rfl, _, rfl, h, _, _, 4, rfl, rfl, hH, rfl, ?_⟩
  have x1 : SameX h H (upd H h (.lst [.ref c, .int (p : Int), .int b, .int st, .int (k + 1)])) := (SameX.refl h H).upd
  have hH1 : upd H h (.lst [.ref c, .int (p : Int), .int b, .int st, .int (k + 1)]) h = some (.lst [.ref c, .int (p : Int), .int b, .int st, .int (k + 1)]) := upd_same
  have hC1 : upd H h (.lst [.ref c, .int (p : Int), .int b, .int st, .int (k + 1)]) c = some (.lst (xs.map V.int)) := x1 _ _ hne hC
  change C8.tCut _ _ _ _ (upd H h (.lst [.ref c, .int (p : Int), .int b, .int st, .int (k + 1)]))
  generalize upd H h (.lst [.ref c, .int (p : Int), .int b, .int st, .int (k + 1)]) = G at *
  refine ⟨fun σ' H' => ∃ (b' : Int) (p' : Nat) (y2 y3 y4 : Option V), σ' = [some (.ref h), some (.int (m : Int)), y2, y3, y4] ∧ SameX h H H' ∧ H' h = some (.lst [.ref c, .int (p' : Int), .int b', .int st, .int (k + 1)]), ?_, ?_⟩
  · refine ⟨_, rfl, h, _, _, _, rfl, rfl, SqL.of hH1, atI_nat (j := 2) rfl, rfl, _, rfl, ?_⟩
    by_cases eb : b = 0
    · subst eb
      refine iteTb (by rw [iEq]; rfl) ?_
      refine ⟨_, rfl, h, _, _, _, rfl, rfl, SqL.of hH1, atI_nat (j := 1) rfl, _, rfl, h, _, _, _, rfl, rfl, SqL.of hH1, atI_nat (j := 0) rfl, c, _, rfl, .inl (SqL.of hC1), _, _, rfl, rfl, _, rfl, ?_⟩
      by_cases cp : p < xs.length
      · refine iteTb (dT (by rw [List.length_map]; omega)) ?_
        have hcell := List.getElem?_eq_getElem cp
        refine ⟨_, rfl, h, _, _, _, rfl, rfl, SqL.of hH1, atI_nat (j := 0) rfl, _, rfl, h, _, _, _, rfl, rfl, SqL.of hH1, atI_nat (j := 1) rfl, c, _, _, .int xs[p], rfl, rfl, SqL.of hC1, atI_nat (by rw [List.getElem?_map, hcell]; rfl), ?_⟩
        refine ⟨_, rfl, h, _, _, _, rfl, rfl, SqL.of hH1, atI_nat (j := 1) rfl, _, _, rfl, rfl, _, rfl, h, _, _, 1, rfl, rfl, hH1, rfl, ?_⟩
        have ep : (p : Int) + 1 = ((p + 1 : Nat) : Int) := by omega
        have x2 : SameX h H (upd G h (.lst [.ref c, .int ((p : Int) + 1), .int 0, .int st, .int (k + 1)])) := x1.upd
        have hH2 : upd G h (.lst [.ref c, .int ((p : Int) + 1), .int 0, .int st, .int (k + 1)]) h = some (.lst [.ref c, .int ((p : Int) + 1), .int 0, .int st, .int (k + 1)]) := upd_same
        have hC2 : upd G h (.lst [.ref c, .int ((p : Int) + 1), .int 0, .int st, .int (k + 1)]) c = some (.lst (xs.map V.int)) := x2 _ _ hne hC
        refine ⟨_, rfl, _, rfl, _, _, rfl, rfl, ⟨by decide, by decide, by decide⟩, _, _, rfl, rfl, _, rfl, ite2 (fun _ => ?_) (fun _ => ?_)⟩
        · refine ⟨_, rfl, _, rfl, _, rfl, h, _, _, 2, rfl, rfl, hH2, rfl, ?_⟩
          refine ⟨(if xs[p] < 0 then -xs[p] else xs[p]), p + 1, _, _, _, rfl, x2.upd, ?_⟩
          rw [← ep]
          exact upd_same
        · refine ⟨_, rfl, _, _, rfl, rfl, .inr ⟨by decide, by decide⟩, _, rfl, h, _, _, _, rfl, rfl, SqL.of hH2, atI_nat (j := 4) rfl, _, _, rfl, rfl, .inr ⟨by decide, by decide⟩, _, _, rfl, rfl, _, _, rfl, rfl, .inl ⟨_, rfl, _, _, rfl, rfl, (show (2147483647 : Int) ≠ 0 by decide), ?_⟩⟩
          refine ⟨_, rfl, _, _, rfl, rfl, .inr ⟨by decide, by decide⟩, _, rfl, _, _, rfl, rfl, ⟨by decide, by decide⟩, _, _, rfl, rfl, .inl ⟨_, rfl, _, _, rfl, rfl, (show (998244353 : Int) ≠ 0 by decide), _, rfl, _, _, rfl, rfl, by omega, ?_⟩⟩
          obtain ⟨r, r1, r2⟩ := fm_nat (Int.fmod (Int.fmod (xs[p] * 48281 + (k + 1) * 69623 + 19) 2147483647 * 16811 + Int.fdiv (Int.fmod (xs[p] * 48281 + (k + 1) * 69623 + 19) 2147483647) 1024) 998244353) m1
          exact qE (int_eq r2) (q r _ r1 x2 ⟨xs, p + 1, 0, st, k + 1, by rw [← ep]; exact hH2, hC2, hne⟩)
      · refine iteFb (dF (by rw [List.length_map]; omega)) ⟨0, p, _, _, _, rfl, x1, hH1⟩
    · exact iteFb (by rw [iEq, dF eb]) (iteF ⟨b, p, _, _, _, rfl, x1, hH1⟩)
  · rintro σ' H' ⟨b', p', y2, y3, y4, rfl, x2, hH2⟩
    have hC2 := x2 _ _ hne hC
    refine ⟨_, rfl, h, _, _, _, rfl, rfl, SqL.of hH2, atI_nat (j := 2) rfl, _, _, rfl, rfl, _, rfl, ite2 (fun _ => ?_) (fun _ => ?_)⟩
    · refine ⟨_, rfl, h, _, _, _, rfl, rfl, SqL.of hH2, atI_nat (j := 2) rfl, .inl ⟨_, rfl, _, rfl, _, _, rfl, rfl, by omega, ?_⟩⟩
      refine ⟨_, rfl, h, _, _, _, rfl, rfl, SqL.of hH2, atI_nat (j := 2) rfl, _, rfl, _, _, rfl, rfl, ⟨by omega, by omega⟩, _, rfl, h, _, _, 2, rfl, rfl, hH2, rfl, ?_⟩
      obtain ⟨r, r1, r2⟩ := fm_nat b' m1
      refine ⟨_, rfl, qE (int_eq r2) (q r _ r1 x2.upd ⟨xs, p', _, st, k + 1, upd_same, ?_, hne⟩)⟩
      rw [upd_ne hne]
      exact hC2
    · refine ⟨_, rfl, h, _, _, _, rfl, rfl, SqL.of hH2, atI_nat (j := 0) rfl, c, _, rfl, .inl (SqL.of hC2), rfl, _, rfl, ite2 (fun _ => ?_) (fun _ => ?_)⟩
      · exact q 0 H' (by omega) x2 ⟨xs, p', b', st, k + 1, hH2, hC2, hne⟩
      · refine ⟨_, rfl, h, _, _, _, rfl, rfl, SqL.of hH2, atI_nat (j := 3) rfl, _, _, rfl, rfl, .inr ⟨by decide, by decide⟩, _, rfl, h, _, _, _, rfl, rfl, SqL.of hH2, atI_nat (j := 4) rfl, _, _, rfl, rfl, .inr ⟨by decide, by decide⟩, _, _, rfl, rfl, _, _, rfl, rfl, .inl ⟨_, rfl, _, _, rfl, rfl, (show (2147483563 : Int) ≠ 0 by decide), ?_⟩⟩
        have hx1 := Int.fmod_nonneg_of_pos (st * 40031 + (k + 1) * 52783 + 3) (b := 2147483563) (by decide)
        have hx2 := Int.fmod_lt_of_pos (st * 40031 + (k + 1) * 52783 + 3) (b := 2147483563) (by decide)
        refine ⟨_, rfl, _, rfl, .inl ⟨_, rfl, _, _, rfl, rfl, (show (7919 : Int) ≠ 0 by decide), _, _, rfl, rfl, _, _, rfl, rfl, .inl ⟨by omega, by omega⟩, _, rfl, _, _, rfl, rfl, ⟨by decide, by decide⟩, _, _, rfl, rfl, .inl ⟨_, rfl, _, _, rfl, rfl, (show (1999999973 : Int) ≠ 0 by decide), _, rfl, _, _, rfl, rfl, by omega, ?_⟩⟩⟩
        obtain ⟨r, r1, r2⟩ := fm_nat (Int.fmod (Int.fmod (st * 40031 + (k + 1) * 52783 + 3) 2147483563 * (Int.fmod (Int.fmod (st * 40031 + (k + 1) * 52783 + 3) 2147483563) 7919 + 2) + Int.fdiv (Int.fmod (st * 40031 + (k + 1) * 52783 + 3) 2147483563) 512) 1999999973) m1
        exact qE (int_eq r2) (q r H' r1 x2 ⟨xs, p', b', st, k + 1, hH2, hC2, hne⟩)
end K67
set_option maxHeartbeats 1000000
namespace K67
open PySem PySem.Spec PyProof.Rows L2
/-! ### binomials and trees of the law -/
theorem Cb_next {n k : Nat} (h : k < n) : (((Cb n k : Nat) : Int) * ((n : Int) - (k : Int))) / ((k : Int) + 1) = ((Cb n (k + 1) : Nat) : Int) := by
  have e := Cb_step n k
  have e2 : ((Cb n k : Nat) : Int) * ((n : Int) - (k : Int)) = ((Cb n (k + 1) : Nat) : Int) * ((k : Int) + 1) := by
    have h1 : ((n : Int) - (k : Int)) = ((n - k : Nat) : Int) := by omega
    rw [h1, ← Int.natCast_mul, show (k : Int) + 1 = ((k + 1 : Nat) : Int) by omega, ← Int.natCast_mul]
    exact congrArg _ (by first | omega | (rw [Nat.mul_comm]; omega) | exact e | exact e.symm | (rw [Nat.mul_comm (Cb n (k+1))]; exact e.symm) | (rw [Nat.mul_comm (Cb n (k+1))]; exact e))
  rw [e2]
  exact Int.mul_ediv_cancel _ (by omega)
theorem sc__law_choose : FnScope ["_law_top", "_law_few", "_law_total", "_law_k"] ["_law_top", "_law_few"] (defScope s__law_choose) := ⟨rfl, rfl, rfl, by decide +kernel, rfl, by decide +kernel, by decide +kernel⟩
theorem ok__law_choose {P : Program} {w : World} {K : PySem.W.Frag} {mg : Str → Option Value} {base : Heap} (D : Dfn K mg "_law_choose" s__law_choose) (B : Bn mg)    : Cal P w K mg base 1 "_law_choose" ["_law_top", "_law_few"] (spC Cb fun n k => k ≤ n ∧ n ≤ 1000) := by
  refine D.cal sc__law_choose (fun vs H Q E h => ?_) (fun _ _ _ _ _ _ us hl => match us, hl with | [_, _], _ => rfl) (fun f cdv A outer s H vs Q E hr h => ?_)
  · obtain ⟨_, _, rfl, _⟩ := h
    rfl
  obtain ⟨n, k, rfl, ⟨h0, h1⟩, q⟩ := h
  refine ⟨_, (pss_cons (ps_if (pt_cmpR op_gt (pv 1) (pv 0) (nomark _))
     (pss_one (ps_ret pe_int))
     pss_nil)
     (pss_cons (ps_set (i := 2) sc__law_choose.nd rfl (.inl rfl) pe_int)
     (pss_cons (ps_for PassesOwn.never rfl (pi_range1 rfl B.range_ (pa_cons (pv 1) pa_nil)) (pg_name (i := 3) sc__law_choose.nd rfl (.inl rfl))
     (pss_one (ps_set (i := 2) sc__law_choose.nd rfl (.inl rfl) (pe_op op_fdiv (pe_op op_mul (pv 2) (pe_op op_sub (pv 0) (pv 3))) (pe_op op_add (pv 3) pe_int)))))
     (pss_one (ps_ret (pv 2)))))), ?_⟩
  refine ⟨_, rfl, _, rfl, _, _, rfl, rfl, _, rfl, iteFb (dF (by omega)) ?_⟩
  refine ⟨_, rfl, _, rfl, by omega, by omega, ?_⟩
  rw [show ((k : Nat) : Int).toNat = k by omega]
  refine for_range (fun i σ' H' => H' = H ∧ ∃ y : Option V, σ' = [some (.int (n : Int)), some (.int (k : Int)), some (.int ((Cb n i : Nat) : Int)), y]) ⟨rfl, none, by rw [Cb_zero]; rfl⟩ (fun i σ' H' hi p => ?_) (fun σ' H' p => ?_)
  · obtain ⟨rfl, y, rfl⟩ := p
    rw [show (0 : Int) + ((i : Nat) : Int) = (i : Int) from Int.zero_add _]
    refine ⟨_, rfl, _, rfl, _, rfl, _, _, rfl, rfl, _, _, rfl, rfl, .inr ⟨by omega, by omega⟩, _, rfl, _, _, rfl, rfl, _, _, rfl, rfl, ⟨by omega, by omega⟩, rfl, some (.int (i : Int)), ?_⟩
    show [_, _, some (V.int (((Cb n i : Nat) : Int) * ((n : Int) - (i : Int)) / ((i : Int) + 1))), _] = _
    rw [Cb_next (by omega)]
  · obtain ⟨rfl, y, rfl⟩ := p
    exact ⟨_, rfl, q⟩
def spTree : Sp := fun vs H Q _ => ∃ (h : Addr) (m : Nat) (c : Addr), vs = [.ref h, .int (m : Int)] ∧ HandC H h c ∧ m ≤ 12 ∧ ∀ (T : Addr) (hs : List Nat) (H' : Hp), hs.length = m → Hist hs → SameX h H H' → HandC H' h c → H' T = some (.tup (nv hs)) → Q (.ref T) H'
theorem Hist.snoc {hs : List Nat} {v : Nat} (h : Hist hs) (hv : v ≤ hs.length) : Hist (hs ++ [v]) := fun k x hx => by
  by_cases c : k < hs.length
  · rw [List.getElem?_append_left c] at hx
    exact h k x hx
  · rw [List.getElem?_append_right (by omega)] at hx
    have e : k - hs.length = 0 := by
      have := (List.getElem?_eq_some_iff.mp hx).1
      simp at this
      omega
    rw [e] at hx
    have e2 : v = x := Option.some.inj hx
    omega
theorem sc__law_tree : FnScope ["_law_hand_here", "_law_many", "_law_style", "_law_parents", "_law_k"] ["_law_hand_here", "_law_many"] (defScope s__law_tree) := ⟨rfl, rfl, rfl, by decide +kernel, rfl, by decide +kernel, by decide +kernel⟩
theorem ok__law_tree {P : Program} {w : World} {K : PySem.W.Frag} {mg : Str → Option Value} {base : Heap} (D : Dfn K mg "_law_tree" s__law_tree) (B : Bn mg) (c__law_take : Cal P w K mg base 1 "_law_take" ["_law_hand_here", "_law_many"] spTake)   : Cal P w K mg base 2 "_law_tree" ["_law_hand_here", "_law_many"] spTree := by
  refine D.cal sc__law_tree (fun vs H Q E h => ?_) (fun _ _ _ _ _ _ us hl => match us, hl with | [_, _], _ => rfl) (fun f cdv A outer s H vs Q E hr h => ?_)
  · obtain ⟨_, _, _, rfl, _⟩ := h
    rfl
  obtain ⟨h, m, c, rfl, hC, m1, q⟩ := h
  have hh : ∃ u, H h = some u := by
    obtain ⟨_, _, _, _, _, e, _⟩ := hC
    exact ⟨_, e⟩
  have hc : ∃ u, H c = some u := by
    obtain ⟨_, _, _, _, _, _, e, _⟩ := hC
    exact ⟨_, e⟩
  obtain ⟨uh, hh⟩ := hh
  obtain ⟨uc, hc⟩ := hc
  have hcne : c ≠ h := by
    obtain ⟨_, _, _, _, _, _, _, e⟩ := hC
    exact e
  refine ⟨_, (pss_cons (ps_set (i := 2) sc__law_tree.nd rfl (.inl rfl) (pe_cal c__law_take hr (by first | decide | omega) rfl (pa_cons (pv 0) (pa_cons pe_int pa_nil))))
     (pss_cons (ps_set (i := 3) sc__law_tree.nd rfl (.inl rfl) (pe_lst pa_nil))
     (pss_cons (ps_for PassesOwn.never rfl (pi_range1 rfl B.range_ (pa_cons (pv 1) pa_nil)) (pg_name (i := 4) sc__law_tree.nd rfl (.inl rfl))
     (pss_one (ps_if (pt_cmpR op_eq (pv 2) pe_int (nomark _))
     (pss_one (ps_expr (pe_bm PySem.F.plainAttrs_list PySem.F.slot_list_append PySem.F.type_list_append mt_append (pv 3) (pa_cons (pv 4) pa_nil))))
     (pss_one (ps_if (pt_cmpR op_eq (pv 2) pe_int (nomark _))
     (pss_one (ps_expr (pe_bm PySem.F.plainAttrs_list PySem.F.slot_list_append PySem.F.type_list_append mt_append (pv 3) (pa_cons (pe_callB (call_min2 rfl) rfl B.min_ bo_min (pa_cons (pv 4) (pa_cons (pe_cal c__law_take hr (by first | decide | omega) rfl (pa_cons (pv 0) (pa_cons pe_int pa_nil))) pa_nil))) pa_nil))))
     (pss_one (ps_if (pt_cmpR op_eq (pv 2) pe_int (nomark _))
     (pss_one (ps_expr (pe_bm PySem.F.plainAttrs_list PySem.F.slot_list_append PySem.F.type_list_append mt_append (pv 3) (pa_cons (pe_cal c__law_take hr (by first | decide | omega) rfl (pa_cons (pv 0) (pa_cons (pe_op op_add (pv 4) pe_int) pa_nil))) pa_nil))))
     (pss_one (ps_if (pt_cmpR op_eq (pv 2) pe_int (nomark _))
     (pss_one (ps_expr (pe_bm PySem.F.plainAttrs_list PySem.F.slot_list_append PySem.F.type_list_append mt_append (pv 3) (pa_cons (pe_op op_sub (pv 4) (pe_cal c__law_take hr (by first | decide | omega) rfl (pa_cons (pv 0) (pa_cons (pe_op op_add (pe_callB (call_min2 rfl) rfl B.min_ bo_min (pa_cons (pv 4) (pa_cons pe_int pa_nil))) pe_int) pa_nil)))) pa_nil))))
     (pss_one (ps_if (pt_cmpR op_gt (pe_cal c__law_take hr (by first | decide | omega) rfl (pa_cons (pv 0) (pa_cons pe_int pa_nil))) pe_int (nomark _))
     (pss_one (ps_expr (pe_bm PySem.F.plainAttrs_list PySem.F.slot_list_append PySem.F.type_list_append mt_append (pv 3) (pa_cons (pv 4) pa_nil))))
     (pss_one (ps_expr (pe_bm PySem.F.plainAttrs_list PySem.F.slot_list_append PySem.F.type_list_append mt_append (pv 3) (pa_cons (pe_cal c__law_take hr (by first | decide | omega) rfl (pa_cons (pv 0) (pa_cons (pe_op op_add (pv 4) pe_int) pa_nil))) pa_nil)))))))))))))))
     (pss_one (ps_ret (pe_callTy call_tuple_of rfl B.tuple_ bo_tuple (pa_cons (pv 3) pa_nil))))))), ?_⟩
  refine ⟨_, rfl, h, 5, c, rfl, hC, by decide, by decide, fun s H1 s5 x1 hC1 => ?_⟩
  refine ⟨Nat.zero_le _, fun P nP => ?_⟩
  have hh1 : ∃ u, H1 h = some u := by
    obtain ⟨_, _, _, _, _, e, _⟩ := hC1
    exact ⟨_, e⟩
  obtain ⟨uh1, hh1⟩ := hh1
  have nPh : P ≠ h := (ne_of_none hh1 nP).symm
  have nPc : P ≠ c := (ne_of_none (x1 _ _ hcne hc) nP).symm
  have nP0 : H P = none := by
    cases e : H P with
    | none => rfl
    | some u =>
      have := x1 _ _ nPh e
      rw [nP] at this
      cases this
  refine ⟨_, rfl, _, rfl, by omega, by omega, ?_⟩
  rw [show ((m : Nat) : Int).toNat = m by omega]
  refine for_range (fun i σ' H' => SameX h H H' ∧ HandC H' h c ∧ ∃ (l : List Nat) (y : Option V), σ' = [some (.ref h), some (.int (m : Int)), some (.int (s : Int)), some (.ref P), y] ∧ H' P = some (.lst (nv l)) ∧ l.length = i ∧ Hist l)
    ⟨x1.mut nP0, hC1.other nPh nPc, [], none, rfl, upd_same, rfl, fun k x z => by cases z⟩ (fun i σ' H' hi p => ?_) (fun σ' H' p => ?_)
  · obtain ⟨x2, hC2, l, y, rfl, hP, hl, hist⟩ := p
    rw [show (0 : Int) + ((i : Nat) : Int) = (i : Int) from Int.zero_add _]
    have fin : ∀ (x : V) (v : Nat) (H2 : Hp), x = .int (v : Int) → v ≤ i → SameX h H H2 → HandC H2 h c → H2 P = some (.lst (nv l)) → rAppend (.ref P) [x] H2 fun _ H3 => SameX h H H3 ∧ HandC H3 h c ∧ ∃ (l : List Nat) (y : Option V), [some (.ref h), some (.int (m : Int)), some (.int (s : Int)), some (.ref P), some (.int (i : Int))] = [some (.ref h), some (.int (m : Int)), some (.int (s : Int)), some (.ref P), y] ∧ H3 P = some (.lst (nv l)) ∧ l.length = i + 1 ∧ Hist l := fun x v H2 ex hv x3 hC3 hP3 => by
      subst ex
      refine ⟨P, _, _, rfl, rfl, hP3, sz_lt (by rw [nv_len]; omega), x3.mut nP0, hC3.other nPh nPc, l ++ [v], _, rfl, ?_, by rw [List.length_append, hl]; rfl, hist.snoc (by omega)⟩
      rw [upd_same, nv_app]
      rfl
    have kind : SqL K H' P (nv l) := SqL.of hP
    have keep : ∀ H2, SameX h H' H2 → H2 P = some (.lst (nv l)) := fun H2 x => x _ _ nPh hP
    refine ⟨_, rfl, rfl, _, rfl, ?_⟩
    by_cases c0 : s = 0
    · subst c0
      exact iteTb (by rw [iEq]; rfl) ⟨_, rfl, .inl ⟨rfl, _, SqL.of hP⟩, _, rfl, fin _ i H' rfl (Nat.le_refl _) x2 hC2 hP⟩
    refine iteFb (by rw [iEq, dF (by omega)]) ⟨_, rfl, rfl, _, rfl, ?_⟩
    by_cases c1 : s = 1
    · subst c1
      refine iteTb (by rw [iEq]; rfl) ⟨_, rfl, .inl ⟨rfl, _, SqL.of hP⟩, _, rfl, _, rfl, h, 2, c, rfl, hC2, by decide, by decide, fun r H2 hr2 x3 hC3 => ⟨_, _, rfl, fin _ (min i r) H2 (int_eq min_nat) (Nat.min_le_left _ _) (x2.trans x3) hC3 (keep H2 x3)⟩⟩
    refine iteFb (by rw [iEq, dF (by omega)]) ⟨_, rfl, rfl, _, rfl, ?_⟩
    by_cases c2 : s = 2
    · subst c2
      refine iteTb (by rw [iEq]; rfl) ⟨_, rfl, .inl ⟨rfl, _, SqL.of hP⟩, _, rfl, _, rfl, _, _, rfl, rfl, h, i + 1, c, rfl, hC2, by omega, by omega, fun r H2 hr2 x3 hC3 => fin _ r H2 rfl (by omega) (x2.trans x3) hC3 (keep H2 x3)⟩
    refine iteFb (by rw [iEq, dF (by omega)]) ⟨_, rfl, rfl, _, rfl, ?_⟩
    by_cases c3 : s = 3
    · subst c3
      refine iteTb (by rw [iEq]; rfl) ⟨_, rfl, .inl ⟨rfl, _, SqL.of hP⟩, _, rfl, _, rfl, _, rfl, _, _, rfl, _, _, rfl, rfl, h, min i 2 + 1, c, ?_, hC2, by omega, by omega, fun r H2 hr2 x3 hC3 => ⟨_, _, rfl, rfl, fin _ (i - r) H2 (int_eq (by omega)) (by omega) (x2.trans x3) hC3 (keep H2 x3)⟩⟩
      have e : (if (2 : Int) < (i : Int) then (2 : Int) else (i : Int)) + 1 = ((min i 2 + 1 : Nat) : Int) := by split <;> omega
      show [V.ref h, V.int _] = [V.ref h, V.int _]
      rw [← e]
    refine iteFb (by rw [iEq, dF (by omega)]) ⟨_, rfl, h, 3, c, rfl, hC2, by decide, by decide, fun r H2 hr2 x3 hC3 => ⟨_, _, rfl, rfl, _, rfl, ?_⟩⟩
    have hP2 := keep H2 x3
    refine ite2 (fun _ => ?_) (fun _ => ?_)
    · exact ⟨_, rfl, .inl ⟨rfl, _, SqL.of hP2⟩, _, rfl, fin _ i H2 rfl (Nat.le_refl _) (x2.trans x3) hC3 hP2⟩
    · exact ⟨_, rfl, .inl ⟨rfl, _, SqL.of hP2⟩, _, rfl, _, rfl, _, _, rfl, rfl, h, i + 1, c, rfl, hC3, by omega, by omega, fun r' H4 hr4 x4 hC4 => fin _ r' H4 rfl (by omega) ((x2.trans x3).trans x4) hC4 (x4 _ _ nPh hP2)⟩
  · obtain ⟨x2, hC2, l, y, rfl, hP, hl, hist⟩ := p
    refine ⟨_, rfl, P, _, rfl, .inl ⟨SqL.of hP, fun T nT => ?_⟩⟩
    have nT1 : T ≠ h := fun e => by
      obtain ⟨_, _, _, _, _, e2, _⟩ := hC2
      rw [e, e2] at nT
      cases nT
    refine q T l _ hl hist (fun b u hb e => ?_) (hC2.same (same_new nT _)) upd_same
    have := x2 b u hb e
    rw [upd_ne (ne_of_none this nT)]
    exact this
/-! ### what the law asks of a plan -/
def PlanOk (bs : List Nat) : Prop := (∀ k x : Nat, bs[k]? = some x → x ≤ k) ∧ ∀ k z x y : Nat, bs[k]? = some x → bs[z]? = some y → k < z → ¬ (y ≤ k ∧ x < y)
def spIP : Sp := fun vs H Q _ => ∃ (a : Addr) (n : Nat) (bs : List Nat), vs = [.ref a, .int (n : Int)] ∧ H a = some (.tup (nv bs)) ∧ bs.length = n ∧ n ≤ 100 ∧ PlanOk bs ∧ ∀ H', Same H H' → Q (.bl true) H'
theorem sc__law_is_plan : FnScope ["_law_bases", "_law_many", "_law_k", "_law_z"] ["_law_bases", "_law_many"] (defScope s__law_is_plan) := ⟨rfl, rfl, rfl, by decide +kernel, rfl, by decide +kernel, by decide +kernel⟩
theorem ok__law_is_plan {P : Program} {w : World} {K : PySem.W.Frag} {mg : Str → Option Value} {base : Heap} (D : Dfn K mg "_law_is_plan" s__law_is_plan) (B : Bn mg)    : Cal P w K mg base 1 "_law_is_plan" ["_law_bases", "_law_many"] spIP := by
  refine D.cal sc__law_is_plan (fun vs H Q E h => ?_) (fun _ _ _ _ _ _ us hl => match us, hl with | [_, _], _ => rfl) (fun f cdv A outer s H vs Q E hr h => ?_)
  · obtain ⟨_, _, _, rfl, _⟩ := h
    rfl
  obtain ⟨a, n, bs, rfl, ha, hl, hn, ⟨p1, p2⟩, q⟩ := h
  refine ⟨_, (pss_cons (ps_if (PW.pt (pw_or (pt_not (pt_val (pe_callB call_isi rfl B.isinstance_ bo_isinstance (pa_cons (pv 0) (pa_cons (pe_bltn (v := .ty "tuple") rfl B.tuple_ bo_tuple rfl) pa_nil))))) (pw_or1 (pt_cmpR op_ne (pe_callB call_len_seq rfl B.len_ bo_len (pa_cons (pv 0) pa_nil)) (pv 1) (nomark _)))))
     (pss_one (ps_ret pe_bl))
     pss_nil)
     (pss_cons (ps_for PassesOwn.never rfl (pi_range1 rfl B.range_ (pa_cons (pv 1) pa_nil)) (pg_name (i := 2) sc__law_is_plan.nd rfl (.inr rfl))
     (pss_one (ps_if (PW.pt (pw_or (pt_not (pt_val (pe_callB call_isi rfl B.isinstance_ bo_isinstance (pa_cons (pe_ix ix_tup (pv 0) (pv 2) (fun _ _ => rfl)) (pa_cons (pe_bltn (v := .ty "int") rfl B.int_ bo_int rfl) pa_nil))))) (pw_or (pt_val (pe_callB call_isi rfl B.isinstance_ bo_isinstance (pa_cons (pe_ix ix_tup (pv 0) (pv 2) (fun _ _ => rfl)) (pa_cons (pe_bltn (v := .ty "bool") rfl B.bool_ bo_bool rfl) pa_nil)))) (pw_or1 (pt_not (pt_chain op_le op_le pe_int (pe_ix ix_tup (pv 0) (pv 2) (fun _ _ => rfl)) (pv 2)))))))
     (pss_one (ps_ret pe_bl))
     pss_nil)))
     (pss_cons (ps_for PassesOwn.never rfl (pi_range1 rfl B.range_ (pa_cons (pv 1) pa_nil)) (pg_name (i := 2) sc__law_is_plan.nd rfl (.inr rfl))
     (pss_one (ps_if (pt_cmpR op_gt (pe_callB call_len_seq rfl B.len_ bo_len (pa_cons (pe_lc (own := [("_law_z", 3)]) (g := (gName 3)) rfl sc__law_is_plan.nd (pi_range2 rfl B.range_ (pa_cons (pe_op op_add (pv 2) pe_int) (pa_cons (pv 1) pa_nil))) (blkOk_by (own := [("_law_z", 3)]) (N := ["_law_bases", "_law_many", "_law_k", "_law_z"]) (sc := defScope s__law_is_plan) (by decide +kernel)) (fun _ _ _ _ _ => (pg_name (i := 3) sc__law_is_plan.nd rfl (.inl rfl))) (fun _ _ _ _ _ => (pts_one (PW.pt (pw_and (pt_cmpR op_le (pe_ix (r := rIxT K) ix_tup (pv 0) (pv 3) (fun _ _ => rfl)) (pv 2) (nomark _)) (pw_and1 (pt_cmpR op_gt (pe_ix (r := rIxT K) ix_tup (pv 0) (pv 3) (fun _ _ => rfl)) (pe_ix (r := rIxT K) ix_tup (pv 0) (pv 2) (fun _ _ => rfl)) (nomark _))))))) (fun _ _ _ _ _ => (pv 3))) pa_nil)) pe_int (nomark _))
     (pss_one (ps_ret pe_bl))
     pss_nil)))
     (pss_one (ps_ret pe_bl))))), ?_⟩
  refine ⟨_, rfl, _, _, _, _, _, rfl, cn, tx_t ha, ki_tt, true, rfl, ?_⟩
  dsimp only
  refine iteFb rfl ⟨_, rfl, a, _, rfl, .inr (SqT.of ha), _, rfl, rfl, _, rfl, iteFb (by rw [nv_len, hl, iEq, dT rfl]; rfl) ?_⟩
  refine ⟨_, rfl, _, rfl, by omega, by omega, ?_⟩
  rw [show ((n : Nat) : Int).toNat = n by omega]
  refine for_range (fun i σ' H' => H' = H ∧ ∃ y : Option V, σ' = [some (.ref a), some (.int (n : Int)), y, none]) ⟨rfl, none, rfl⟩ (fun i σ' H' hi z => ?_) (fun σ' H' z => ?_)
  · obtain ⟨rfl, y, rfl⟩ := z
    rw [show (0 : Int) + ((i : Nat) : Int) = (i : Int) from Int.zero_add _]
    have hx := List.getElem?_eq_getElem (show i < bs.length by omega)
    have hle := p1 i _ hx
    have hat := nv_atI hx
    refine ⟨_, rfl, _, rfl, a, _, _, _, rfl, rfl, SqT.of ha, hat, _, _, _, _, _, rfl, cn, tx_i, ki_ii, true, rfl, ?_⟩
    dsimp only
    refine iteFb rfl ⟨_, rfl, _, rfl, a, _, _, _, rfl, rfl, SqT.of ha, hat, _, _, _, _, _, rfl, cn, tx_i, ki_ib, false, rfl, ?_⟩
    refine iteF ⟨_, rfl, _, rfl, a, _, _, _, rfl, rfl, SqT.of ha, hat, _, _, rfl, rfl, _, rfl, iteTb (dT (by omega)) ⟨_, rfl, _, _, rfl, rfl, _, rfl, iteFb (by rw [dT (by omega)]; rfl) ?_⟩⟩
    exact ⟨rfl, _, rfl⟩
  · obtain ⟨rfl, y, rfl⟩ := z
    refine ⟨_, rfl, _, rfl, by omega, by omega, ?_⟩
    rw [show ((n : Nat) : Int).toNat = n by omega]
    refine for_range (fun i σ' H2 => Same H' H2 ∧ ∃ y : Option V, σ' = [some (.ref a), some (.int (n : Int)), y, none]) ⟨Same.refl _, _, rfl⟩ (fun i σ' H2 hi z => ?_) (fun σ' H2 z => ?_)
    · obtain ⟨s1, y2, rfl⟩ := z
      rw [show (0 : Int) + ((i : Nat) : Int) = (i : Int) from Int.zero_add _]
      have hx := List.getElem?_eq_getElem (show i < bs.length by omega)
      refine ⟨_, rfl, _, _, rfl, rfl, _, rfl, _, _, rfl, ⟨by omega, by omega, by omega, by omega⟩, fun D1 n1 => lc_range (fun j H3 => Same H2 H3 ∧ H3 D1 = some (.lst [])) ⟨same_new n1 _, upd_same⟩ (fun j H3 hj p => ?_) fun H3 p => ?_⟩
      · have hj2 : i + 1 + j < bs.length := by omega
        have hy := List.getElem?_eq_getElem hj2
        have hno := p2 i (i + 1 + j) _ _ hx hy (by omega)
        have hat : atI (nv bs) ((i : Int) + 1 + (j : Nat)) = some (.int ((bs[i + 1 + j] : Nat) : Int)) := by
          rw [show (i : Int) + 1 + (j : Nat) = ((i + 1 + j : Nat) : Int) by omega]
          exact nv_atI hy
        have ha3 := p.1 _ _ (s1 _ _ ha)
        refine ⟨rfl, _, rfl, _, rfl, a, _, _, _, rfl, rfl, SqT.of ha3, hat, _, rfl, _, _, rfl, rfl, _, rfl, ?_⟩
        by_cases c : bs[i + 1 + j] ≤ i
        · refine iteTb (dT (by omega)) ⟨_, rfl, _, rfl, a, _, _, _, rfl, rfl, SqT.of ha3, hat, _, rfl, _, rfl, a, _, _, _, rfl, rfl, SqT.of ha3, nv_atI hx, _, _, rfl, rfl, _, rfl, ?_⟩
          exact iteFb (dF (by omega)) p
        · exact iteFb (dF (by omega)) (iteF p)
      · refine ⟨D1, _, rfl, .inl (SqL.of p.2), _, _, rfl, rfl, _, rfl, iteFb (dF (by decide)) ?_⟩
        exact ⟨s1.trans p.1, _, rfl⟩
    · obtain ⟨s1, y2, rfl⟩ := z
      exact q H2 s1
end K67
set_option maxHeartbeats 1000000
namespace K67
open PySem PySem.Spec PyProof.Rows L2
/-! ### readings within the bounds -/
def rdS (a : List Nat) (b : Nat) : List Nat := a ++ [a.getD b 0 + 1]
def rdF (bs : List Nat) (i : Nat) : List Nat := (bs.take i).foldl rdS [0]
theorem rdF_more {bs : List Nat} {i b : Nat} (h : bs[i]? = some b) : rdF bs (i + 1) = rdF bs i ++ [(rdF bs i).getD b 0 + 1] := by
  unfold rdF
  rw [take_more h, List.foldl_append]
  rfl
theorem rdS_len : ∀ (bs a : List Nat), (bs.foldl rdS a).length = a.length + bs.length
  | [], _ => rfl
  | b :: bs, a => by
    rw [List.foldl_cons, rdS_len bs]
    unfold rdS
    rw [List.length_append, List.length_cons, List.length_cons]
    show a.length + 1 + bs.length = a.length + (bs.length + 1)
    omega
theorem rdF_len (bs : List Nat) {i : Nat} (h : i ≤ bs.length) : (rdF bs i).length = i + 1 := by
  unfold rdF
  rw [rdS_len, List.length_take]
  show 1 + _ = _
  omega
def cutAt (bs : List Nat) (e : Nat) : List Nat := (List.range (bs.length + 1 - e)).filter fun j => decide (bs.getD (e + j - 1) 0 < e)
def WiOk (bs : List Nat) (w r : Nat) : Prop := (∀ x ∈ rdF bs bs.length, x ≤ r) ∧ ∀ e, 1 ≤ e → e ≤ bs.length → (cutAt bs e).length ≤ w
def spWi : Sp := fun vs H Q _ => ∃ (a : Addr) (w r : Nat) (bs : List Nat), vs = [.ref a, .int (w : Int), .int (r : Int)] ∧ H a = some (.tup (nv bs)) ∧ bs.length ≤ 100 ∧ PlanOk bs ∧ WiOk bs w r ∧ ∀ H', Same H H' → Q (.bl true) H'
theorem sc__law_within : FnScope ["_law_bases", "_law_wide", "_law_far_here", "_law_reading", "_law_base", "_law_e", "_law_z"] ["_law_bases", "_law_wide", "_law_far_here"] (defScope s__law_within) := ⟨rfl, rfl, rfl, by decide +kernel, rfl, by decide +kernel, by decide +kernel⟩
theorem ok__law_within {P : Program} {w : World} {K : PySem.W.Frag} {mg : Str → Option Value} {base : Heap} (D : Dfn K mg "_law_within" s__law_within) (B : Bn mg)    : Cal P w K mg base 1 "_law_within" ["_law_bases", "_law_wide", "_law_far_here"] spWi := by
  refine D.cal sc__law_within (fun vs H Q E h => ?_) (fun _ _ _ _ _ _ us hl => match us, hl with | [_, _, _], _ => rfl) (fun f cdv A outer s H vs Q E hr h => ?_)
  · obtain ⟨_, _, _, _, rfl, _⟩ := h
    rfl
  obtain ⟨a, w', r, bs, rfl, ha, hl, ⟨p1, p2⟩, ⟨k1, k2⟩, q⟩ := h
  refine ⟨_, (pss_cons (ps_set (i := 3) sc__law_within.nd rfl (.inl rfl) (pe_lst (pa_cons pe_int pa_nil)))
     (pss_cons (ps_for PassesOwn.never rfl (pi_tup (pv 0)) (pg_name (i := 4) sc__law_within.nd rfl (.inl rfl))
     (pss_one (ps_expr (pe_bm PySem.F.plainAttrs_list PySem.F.slot_list_append PySem.F.type_list_append mt_append (pv 3) (pa_cons (pe_op op_add (pe_ix ix_list (pv 3) (pv 4) (fun _ _ => rfl)) pe_int) pa_nil)))))
     (pss_cons (ps_if (pt_cmpR op_gt (pe_callB (cr_max rfl) rfl B.max_ bo_max (pa_cons (pv 3) pa_nil)) (pv 2) (nomark _))
     (pss_one (ps_ret pe_bl))
     pss_nil)
     (pss_cons (ps_for PassesOwn.never rfl (pi_range2 rfl B.range_ (pa_cons pe_int (pa_cons (pe_op op_add (pe_callB call_len_seq rfl B.len_ bo_len (pa_cons (pv 0) pa_nil)) pe_int) pa_nil))) (pg_name (i := 5) sc__law_within.nd rfl (.inr rfl))
     (pss_one (ps_if (pt_cmpR op_gt (pe_callB call_len_seq rfl B.len_ bo_len (pa_cons (pe_lc (own := [("_law_z", 6)]) (g := (gName 6)) rfl sc__law_within.nd (pi_range2 rfl B.range_ (pa_cons (pv 5) (pa_cons (pe_op op_add (pe_callB call_len_seq rfl B.len_ bo_len (pa_cons (pv 0) pa_nil)) pe_int) pa_nil))) (blkOk_by (own := [("_law_z", 6)]) (N := ["_law_bases", "_law_wide", "_law_far_here", "_law_reading", "_law_base", "_law_e", "_law_z"]) (sc := defScope s__law_within) (by decide +kernel)) (fun _ _ _ _ _ => (pg_name (i := 6) sc__law_within.nd rfl (.inl rfl))) (fun _ _ _ _ _ => (pts_one (pt_cmpR op_lt (pe_ix (r := rIxT K) ix_tup (pv 0) (pe_op op_sub (pv 6) pe_int) (fun _ _ => rfl)) (pv 5) (nomark _)))) (fun _ _ _ _ _ => (pv 6))) pa_nil)) (pv 1) (nomark _))
     (pss_one (ps_ret pe_bl))
     pss_nil)))
     (pss_one (ps_ret pe_bl)))))), ?_⟩
  refine ⟨by show 1 ≤ sizeLine; decide, fun R nR => ?_⟩
  have s0 := same_new nR (.lst [.int 0])
  refine ⟨_, rfl, a, rfl, ⟨_, SqT.of (s0 _ _ ha)⟩, for_tup (xs := nv bs) (fun i σ' H' => Same H H' ∧ H' R = some (.lst (nv (rdF bs i))) ∧ ∃ y : Option V, σ' = [some (.ref a), some (.int (w' : Int)), some (.int (r : Int)), some (.ref R), y, none, none]) ⟨s0, upd_same, none, rfl⟩ (fun i σ' H' _ p => SqT.of (p.1 _ _ ha)) (fun i x σ' H' hi p => ?_) (fun σ' H' p => ?_)⟩
  · obtain ⟨s1, hR, y, rfl⟩ := p
    obtain ⟨b, hb, rfl⟩ := nv_get hi
    have hi' := (List.getElem?_eq_some_iff.mp hb).1
    have hle := p1 i b hb
    have hx : (rdF bs i)[b]? = some ((rdF bs i).getD b 0) := getD_at (by rw [rdF_len bs (by omega)]; omega)
    refine ⟨_, rfl, .inl ⟨rfl, _, SqL.of hR⟩, _, rfl, _, rfl, R, _, _, _, rfl, rfl, SqL.of hR, nv_atI hx, _, _, rfl, rfl, R, _, _, rfl, rfl, hR, sz_lt (by rw [nv_len, rdF_len bs (by omega)]; omega), same_mut s1 nR, ?_, _, rfl⟩
    rw [upd_same, rdF_more hb, nv_app]
    rfl
  · obtain ⟨s1, hR, y, rfl⟩ := p
    rw [nv_len] at hR
    refine ⟨_, rfl, R, iv (rdF bs bs.length), rfl, by rw [nv_iv]; exact SqL.of hR, by unfold iv; rw [List.length_map, rdF_len bs (Nat.le_refl _)]; omega, fun m hm _ => ?_⟩
    obtain ⟨e1, e2⟩ := iv_nat hm
    have hmr := k1 _ e2
    refine ⟨_, rfl, _, _, rfl, rfl, _, rfl, iteFb (dF (by omega)) ?_⟩
    have ha1 := s1 _ _ ha
    refine ⟨_, rfl, a, _, rfl, .inr (SqT.of ha1), _, _, rfl, rfl, _, _, rfl, ⟨by omega, by omega, by rw [nv_len]; omega, by rw [nv_len]; omega⟩, ?_⟩
    rw [show ((((nv bs).length : Nat) : Int) + 1 - 1).toNat = bs.length by rw [nv_len]; omega]
    refine for_range (fun i σ' H2 => Same H H2 ∧ ∃ y y5 : Option V, σ' = [some (.ref a), some (.int (w' : Int)), some (.int (r : Int)), some (.ref R), y, y5, none]) ⟨s1, _, _, rfl⟩ (fun i σ' H2 hi z => ?_) (fun σ' H2 z => ?_)
    · obtain ⟨s2, y, y5, rfl⟩ := z
      have ha2 := s2 _ _ ha
      have hk := k2 (1 + i) (by omega) (by omega)
      refine ⟨_, rfl, _, rfl, a, _, rfl, .inr (SqT.of ha2), _, _, rfl, rfl, _, _, rfl, ⟨by omega, by omega, by rw [nv_len]; omega, by rw [nv_len]; omega⟩, fun D1 n1 => ?_⟩
      rw [show ((((nv bs).length : Nat) : Int) + 1 - (1 + (i : Nat))).toNat = bs.length + 1 - (1 + i) by rw [nv_len]; omega]
      refine lc_range (fun j H3 => Same H2 H3 ∧ H3 D1 = some (.lst (((List.range j).filter fun j => decide (bs.getD (1 + i + j - 1) 0 < 1 + i)).map fun j => V.int (1 + (i : Int) + (j : Nat))))) ⟨same_new n1 _, upd_same⟩ (fun j H3 hj p => ?_) fun H3 p => ?_
      · have hj2 : 1 + i + j - 1 < bs.length := by omega
        have hy := getD_at hj2
        have hat : atI (nv bs) (1 + (i : Nat) + (j : Nat) - 1) = some (.int ((bs.getD (1 + i + j - 1) 0 : Nat) : Int)) := by
          rw [show (1 : Int) + (i : Nat) + (j : Nat) - 1 = ((1 + i + j - 1 : Nat) : Int) by omega]
          exact nv_atI hy
        have ha3 := p.1 _ _ ha2
        refine ⟨rfl, _, rfl, _, rfl, _, _, rfl, rfl, a, _, _, _, rfl, rfl, SqT.of ha3, hat, _, rfl, _, _, rfl, rfl, _, rfl, ?_⟩
        rw [List.range_succ, List.filter_append]
        by_cases c : bs.getD (1 + i + j - 1) 0 < 1 + i
        · refine iteTb (dT (by omega)) ⟨_, rfl, _, p.2, ?_, same_mut p.1 n1, ?_⟩
          · rw [List.length_map]
            have := List.length_filter_le (fun j => decide (bs.getD (1 + i + j - 1) 0 < 1 + i)) (List.range j)
            rw [List.length_range] at this
            exact sz_lt (by omega)
          · rw [upd_same, List.map_append, List.filter_cons, if_pos (dT c)]
            rfl
        · refine iteFb (dF (by omega)) ⟨p.1, ?_⟩
          rw [List.filter_cons, if_neg (by rw [dF c]; decide), List.filter_nil, List.append_nil]
          exact p.2
      · have hlen : (((List.range (bs.length + 1 - (1 + i))).filter fun j => decide (bs.getD (1 + i + j - 1) 0 < 1 + i)).map fun j => V.int (1 + (i : Int) + (j : Nat))).length ≤ w' := by
          rw [List.length_map]
          exact hk
        refine ⟨D1, _, rfl, .inl (SqL.of p.2), _, rfl, _, _, rfl, rfl, _, rfl, iteFb (dF (by omega)) ?_⟩
        exact ⟨s2.trans p.1, _, _, rfl⟩
    · obtain ⟨s2, y, y5, rfl⟩ := z
      exact q H2 s2
/-! ### plans of the kept lines, by computing -/
def planB (bs : List Nat) : Bool := ((List.range bs.length).all fun k => decide (bs.getD k 0 ≤ k)) && (List.range bs.length).all fun k => (List.range bs.length).all fun z => !(decide (k < z) && (decide (bs.getD z 0 ≤ k) && decide (bs.getD k 0 < bs.getD z 0)))
def wiB (bs : List Nat) (w r : Nat) : Bool := ((rdF bs bs.length).all fun x => decide (x ≤ r)) && (List.range bs.length).all fun i => decide ((cutAt bs (i + 1)).length ≤ w)
theorem getD_of {l : List Nat} {i x : Nat} (h : l[i]? = some x) : l.getD i 0 = x := by
  rw [List.getD_eq_getElem?_getD, h]
  rfl
theorem planB_ok {bs : List Nat} (h : planB bs = true) : PlanOk bs := by
  unfold planB at h
  obtain ⟨h1, h2⟩ := Bool.and_eq_true_iff.mp h
  refine ⟨fun k x hx => ?_, fun k z x y hx hy hkz hc => ?_⟩
  · have hk := (List.getElem?_eq_some_iff.mp hx).1
    have := of_decide_eq_true (List.all_eq_true.mp h1 k (List.mem_range.mpr hk))
    rw [getD_of hx] at this
    exact this
  · have hk := (List.getElem?_eq_some_iff.mp hx).1
    have hz := (List.getElem?_eq_some_iff.mp hy).1
    have := List.all_eq_true.mp (List.all_eq_true.mp h2 k (List.mem_range.mpr hk)) z (List.mem_range.mpr hz)
    rw [getD_of hx, getD_of hy, dT hkz, dT hc.1, dT hc.2] at this
    exact absurd this (by decide)
theorem wiB_ok {bs : List Nat} {w r : Nat} (h : wiB bs w r = true) : WiOk bs w r := by
  unfold wiB at h
  obtain ⟨h1, h2⟩ := Bool.and_eq_true_iff.mp h
  refine ⟨fun x hx => of_decide_eq_true (List.all_eq_true.mp h1 x hx), fun e e1 e2 => ?_⟩
  have := of_decide_eq_true (List.all_eq_true.mp h2 (e - 1) (List.mem_range.mpr (by omega)))
  rw [show e - 1 + 1 = e by omega] at this
  exact this
/-- the heights of a line -/
def hgF (n w : Nat) : List Nat := ((List.range n).map fun i => (lrow w (i + 1)).getLastD 0).reverse
theorem hg_line (n w : Nat) : hgL (line n) w = hgF n w := by
  unfold hgL hgF rowsL
  rw [List.map_reverse, List.map_map, line_len]
  congr 1
  refine List.map_congr_left fun i hi => ?_
  show (rowI (line n) w i).getLastD 0 = _
  rw [line_row (List.mem_range.mp hi)]
def plF (n w : Nat) : List Nat := basL (line n) (hgF n w)
def lvls : List (Nat × Nat) := (List.range 12).map (fun i => (1, i + 1)) ++ (List.range 7).map (fun i => (2, i + 1)) ++ (List.range 4).map (fun i => (3, i + 1)) ++ (List.range 3).map (fun i => (4, i + 1))
def lvlB (p : Nat × Nat) : Bool := decide (1 ≤ p.1) && decide (1 ≤ p.2) && decide (p.1 ≤ 12) && decide (p.2 ≤ 12) && decide (2 ≤ Cb (p.1 + p.2) p.2) && decide (Cb (p.1 + p.2) p.2 ≤ 40) && planB (plF (Cb (p.1 + p.2) p.2 - 1) p.1) && wiB (plF (Cb (p.1 + p.2) p.2 - 1) p.1) p.1 p.2
theorem lvl1 : lvls.all lvlB = true := by decide +kernel
theorem lvl2 : lvls.all (fun p => lvlB (p.2, p.1)) = true := by decide +kernel
/-- a level of the law's -/
def Lvl (w r : Nat) : Prop := (w, r) ∈ lvls ∨ (r, w) ∈ lvls
theorem Lvl.ok {w r : Nat} (h : Lvl w r) : 1 ≤ w ∧ 1 ≤ r ∧ w ≤ 12 ∧ r ≤ 12 ∧ 2 ≤ Cb (w + r) r ∧ Cb (w + r) r ≤ 40 ∧ PlanOk (planL (line (Cb (w + r) r - 1)) w) ∧ WiOk (planL (line (Cb (w + r) r - 1)) w) w r := by
  have e : lvlB (w, r) = true := by
    rcases h with h | h
    · exact List.all_eq_true.mp lvl1 _ h
    · exact List.all_eq_true.mp lvl2 (r, w) h
  unfold lvlB at e
  simp only [Bool.and_eq_true, decide_eq_true_eq] at e
  obtain ⟨⟨⟨⟨⟨⟨⟨e1, e2⟩, e3⟩, e4⟩, e5⟩, e6⟩, e7⟩, e8⟩ := e
  have ep : planL (line (Cb (w + r) r - 1)) w = plF (Cb (w + r) r - 1) w := by
    unfold planL plF
    rw [hg_line]
  rw [ep]
  exact ⟨e1, e2, e3, e4, e5, e6, planB_ok e7, wiB_ok e8⟩
end K67
set_option maxHeartbeats 1000000
namespace K67
open PySem PySem.Spec PyProof.Rows L2
/-! ### lines: plain part -/
theorem Cb_wr2 (w r : Nat) : Cb (r + w) w = Cb (w + r) r := by
  rw [Nat.add_comm w r]
  exact (Cb_symm r w).symm
theorem line_abv {n w : Nat} (hw : 1 ≤ w) (r : Nat) : abv (line n) w r (List.range' 1 (line n).length) = decide (Cb (w + r) r ≤ n) := by
  obtain ⟨k, rfl⟩ : ∃ k, w = k + 1 := ⟨w - 1, by omega⟩
  rw [abv_all (line_hist n), line_wt, Cb_wr2]
theorem line_lr {n w : Nat} (hw : 1 ≤ w) (x : Nat) : lrV (line n) w ≤ x ↔ n < Cb (w + x) x := by
  obtain ⟨k, rfl⟩ : ∃ k, w = k + 1 := ⟨w - 1, by omega⟩
  unfold lrV
  rw [head_le (rowT_dn _ _), rowT_nn, line_wt, Cb_wr2]
theorem cap_r {w r : Nat} (hw : 1 ≤ w) (hr : 1 ≤ r) : Cb (w + (r - 1)) (r - 1) < Cb (w + r) r := by
  obtain ⟨a, rfl⟩ : ∃ a, r = a + 1 := ⟨r - 1, by omega⟩
  rw [show w + (a + 1) = (w + a) + 1 by omega, Cb_succ]
  have := Cb_pos (w + a) (a + 1) (by omega)
  show Cb (w + a) a < _
  omega
theorem cap_w {w r : Nat} (hw : 1 ≤ w) (hr : 1 ≤ r) : Cb (w - 1 + r) r < Cb (w + r) r := by
  obtain ⟨a, rfl⟩ : ∃ a, w = a + 1 := ⟨w - 1, by omega⟩
  obtain ⟨b, rfl⟩ : ∃ b, r = b + 1 := ⟨r - 1, by omega⟩
  have := Cb_lt (a + (b + 1)) b (by omega)
  rw [show a + 1 + (b + 1) = a + (b + 1) + 1 by omega]
  exact this
theorem line_lr_long {w r : Nat} (hw : 1 ≤ w) (hr : 1 ≤ r) : lrV (line (Cb (w + r) r)) w = r + 1 := by
  have h1 := line_lr (n := Cb (w + r) r) hw (r + 1)
  have h2 := line_lr (n := Cb (w + r) r) hw r
  have h3 := cap_r (w := w) (r := r + 1) hw (by omega)
  rw [Nat.add_sub_cancel] at h3
  have := h1.mpr h3
  have h4 : ¬ lrV (line (Cb (w + r) r)) w ≤ r := fun z => by
    have := h2.mp z
    omega
  omega
theorem line_lr_short {w r : Nat} (hw : 1 ≤ w) (hr : 1 ≤ r) : lrV (line (Cb (w + r) r - 1)) w = r := by
  have h1 := line_lr (n := Cb (w + r) r - 1) hw r
  have h2 := line_lr (n := Cb (w + r) r - 1) hw (r - 1)
  have h3 := cap_r hw hr
  have := h1.mpr (by omega)
  have h4 : ¬ lrV (line (Cb (w + r) r - 1)) w ≤ r - 1 := fun z => by
    have := h2.mp z
    omega
  omega
theorem line_lw_long {w r : Nat} (hw : 1 ≤ w) (hr : 1 ≤ r) : LW (line (Cb (w + r) r)) r (w + 1) := by
  refine ⟨by omega, (line_lr (by omega) r).mpr ?_, fun u u1 u2 => ?_⟩
  · have := cap_w (w := w + 1) (r := r) (by omega) hr
    rw [Nat.add_sub_cancel] at this
    exact this
  · have h2 := line_lr (n := Cb (w + r) r) u1 r
    have h3 := Cb_mono_le (show u + r ≤ w + r by omega) r
    have h4 : ¬ lrV (line (Cb (w + r) r)) u ≤ r := fun z => by
      have := h2.mp z
      omega
    omega
theorem line_lw_short {w r : Nat} (hw : 1 ≤ w) (hr : 1 ≤ r) : LW (line (Cb (w + r) r - 1)) r w := by
  have hp := Cb_pos (w + r) r (by omega)
  refine ⟨hw, (line_lr hw r).mpr (by omega), fun u u1 u2 => ?_⟩
  have h2 := line_lr (n := Cb (w + r) r - 1) u1 r
  have h3 := Cb_mono_le (show u + r ≤ w - 1 + r by omega) r
  have h5 := cap_w hw hr
  have h4 : ¬ lrV (line (Cb (w + r) r - 1)) u ≤ r := fun z => by
    have := h2.mp z
    omega
  omega
theorem line_rows {n w : Nat} {l : List Nat} (h : l ∈ rowsL (line n) w) : ∃ i, i < n ∧ l = lrow w (i + 1) := by
  obtain ⟨i, hi, e⟩ := rowsL_mem h
  rw [line_len] at hi
  rw [line_row hi] at e
  exact ⟨i, hi, e⟩
theorem lrow_mem {w i x : Nat} (hw : 1 ≤ w) (h : x ∈ lrow w i) : x ≤ i := by
  obtain ⟨k, rfl⟩ : ∃ k, w = k + 1 := ⟨w - 1, by omega⟩
  have := mem_le_nn (w := k) (lrow_dn _ _) h
  rw [lrow_nn] at this
  exact this
theorem line_wts {n w : Nat} (hw : 1 ≤ w) : wtsL (line n) w = (List.range n).map fun k => n - k := by
  obtain ⟨k, rfl⟩ : ∃ k, w = k + 1 := ⟨w - 1, by omega⟩
  refine List.ext_getElem? fun i => ?_
  unfold wtsL
  by_cases c : i < n
  · rw [List.getElem?_map, rowsL_at _ _ (by rw [line_len]; exact c), List.getElem?_map, List.getElem?_range c, line_len, line_row (by omega)]
    show some (Nn (k + 1) (lrow (k + 1) (n - 1 - i + 1))) = some (n - i)
    rw [lrow_nn]
    congr 1
    omega
  · rw [List.getElem?_eq_none (by rw [List.length_map, rowsL_len, line_len]; omega), List.getElem?_eq_none (by rw [List.length_map, List.length_range]; omega)]
theorem line_top {w r : Nat} (hw : 1 ≤ w) (hr : 1 ≤ r) {m : Nat} (h1 : ∃ l ∈ rowsL (line (Cb (w + r) r)) w, l.headD 0 = m) (h2 : ∀ l ∈ rowsL (line (Cb (w + r) r)) w, l.headD 0 ≤ m) : m = r + 1 := by
  have hp := Cb_pos (w + r) r (by omega)
  obtain ⟨k, rfl⟩ : ∃ k, w = k + 1 := ⟨w - 1, by omega⟩
  obtain ⟨l, hl, e⟩ := h1
  obtain ⟨i, hi, el⟩ := line_rows hl
  have c3 := cap_r (w := k + 1) (r := r + 1) hw (by omega)
  rw [Nat.add_sub_cancel] at c3
  have up : m ≤ r + 1 := by
    rw [← e, el, head_le (lrow_dn _ _), lrow_nn, Cb_wr2]
    omega
  have top := rowsL_at (line (Cb (k + 1 + r) r)) (k + 1) (i := 0) (by rw [line_len]; omega)
  rw [line_len, line_row (by omega), show Cb (k + 1 + r) r - 1 - 0 + 1 = Cb (k + 1 + r) r by omega] at top
  have lo := h2 _ (List.mem_of_getElem? top)
  have lo2 : ¬ (lrow (k + 1) (Cb (k + 1 + r) r)).headD 0 ≤ r := by
    rw [head_le (lrow_dn _ _), lrow_nn, Cb_wr2]
    omega
  omega
theorem line_wall {w r : Nat} (hw : 1 ≤ w) : wallL (line (Cb (w + r) r)) w r = List.range' 1 (Cb (w + r) r) := by
  obtain ⟨k, rfl⟩ : ∃ k, w = k + 1 := ⟨w - 1, by omega⟩
  unfold wallL
  rw [line_len]
  refine strike_none _ _ _ _ fun v hv => ?_
  have hv' := List.mem_reverse.mp hv
  have hs : Sub ((List.range' 1 (Cb (k + 1 + r) r)).filter fun o => decide (o ≠ v)) (line (Cb (k + 1 + r) r)).length := by
    rw [line_len]
    exact (sub_all _).filter _
  refine few_kept (line_hist _) k r hs ?_
  have : ((List.range' 1 (Cb (k + 1 + r) r)).filter fun o => decide (o ≠ v)).length < (List.range' 1 (Cb (k + 1 + r) r)).length := List.length_filter_lt_length_iff_exists.mpr ⟨v, hv', by simp⟩
  rw [List.length_range'] at this
  exact Nat.lt_of_lt_of_eq this (Cb_wr2 (k + 1) r).symm
/-! ### the law on short lines -/
theorem hot_of {X : Cx} {a : Addr} {oe : Obj} {cls : Value} {d : Option Addr} {pn : List (Addr × Obj)} (hz : L2N.Zn cls d oe) (hf : ∃ vs, oe.data = .fields vs) : L2H.HotC (X.suite a ((a, oe) :: pn)) := by
  obtain ⟨vs, e⟩ := hf
  exact ⟨(a, oe), ⟨rfl, vs, e, hz.2.2 vs e⟩, List.mem_cons_self⟩
theorem room_suite {X : Cx} {a : Addr} {pn : List (Addr × Obj)} {k : Nat} (hr : Room k X.A) : L2H.RoomH k (X.suite a pn).A := ⟨hr.dp, hr.un⟩
section
variable {X : Cx} {k j : Nat} {x : Str} {ps : List Str} {sp : Sp} {E : L2.St → XK} {p pos : Pos} {e : Expr} {es : List Expr} {t : TA}
theorem pe_calS (c : CalX X.prog X.w X.K X.mg X.base k x ps sp) (hr : Room j X.A) (hk : k ≤ j) (hg : Gl X x) (hx : ∀ σ, PassesAt (L2N.CX X.prog X.w) X σ (E σ)) (ha : PA X (e :: es) t) (hdb : (x == ("__debug__" : Str)) = false := by decide)
    (he : starEach (e :: es) X.env = (false, eval e X.env) :: starEach es X.env := by rfl) (hpl : (backTo pos (starEach es X.env)).any (·.1) = false := by rfl) :
    PE X (.Call (.Name x p) (e :: es) [] pos) (tCallS sp E t) := by
  refine ⟨fun pins s σ H Q I h => ?_⟩
  obtain ⟨f, fd, g, F, b, kp⟩ := c.ex
  exact (pe_callS F (hr.mono hk) hg g kp b hx ha hdb he hpl).run pins s σ H Q I h
end
theorem takes0N {X : Cx} : L2N.Takes X (fun _ _ _ _ => False) := by
  rintro u s' ⟨_, _, _, _, _, _, _, _, _, _, _, _, _, _, _, _, z⟩
  exact z.elim
def spShort : Sp := fun vs H Q _ => ∃ (a b : Addr) (w r : Nat), vs = [.ref a, .ref b, .int (w : Int), .int (r : Int), .int ((Cb (w + r) r : Nat) : Int)] ∧ H a = some (.tup (nv (line (Cb (w + r) r)))) ∧ LB H b (Cb (w + r) r) w r ∧ Lvl w r ∧ Cb (w + r) r ≤ 21 ∧ ∀ H', Same H H' → Q (.bl true) H'
theorem sc__law_short : FnScope ["_law_longer", "_law_level", "_law_wide", "_law_far_here", "_law_many", "_law_every", "_law_e", "_law_k"] ["_law_longer", "_law_level", "_law_wide", "_law_far_here", "_law_many"] (defScope s__law_short) := ⟨rfl, rfl, rfl, by decide +kernel, rfl, by decide +kernel, by decide +kernel⟩
theorem ok__law_short {P : Program} {w : World} {K : PySem.W.Frag} {mg : Str → Option Value} {base : Heap} (D : Dfn K mg "_law_short" s__law_short) (B : Bn mg) (c__law_same : Cal P w K mg base 2 "_law_same" ["_law_got", "_law_due"] spSame) (c_plan_for : Cal P w K mg base 8 "plan_for" ["history", "bounds"] (spBW planR)) (c_wall_in : Cal P w K mg base 6 "wall_in" ["history", "bounds"] (spBW wallR)) (c_plans_within : Cal P w K mg base 23 "plans_within" ["many", "width", "reach"] spPw)  {C fI : Addr} {fdI : FuncData} (U : Unk K mg C fI fdI) (x_plan_for : CalX P w K mg base 8 "plan_for" ["history", "bounds"] (spPX C)) (h__law_same : CalH P w K mg base 2 "_law_same" ["_law_got", "_law_due"] spSameT) : Cal P w K mg base 24 "_law_short" ["_law_longer", "_law_level", "_law_wide", "_law_far_here", "_law_many"] spShort := by
  refine D.cal sc__law_short (fun vs H Q E h => ?_) (fun _ _ _ _ _ _ us hl => match us, hl with | [_, _, _, _, _], _ => rfl) (fun f cdv A outer s H vs Q E hr h => ?_)
  · obtain ⟨_, _, _, _, rfl, _⟩ := h
    rfl
  obtain ⟨a, b, w', r, rfl, ha, hb, hL, h21, q⟩ := h
  obtain ⟨w1, r1, w2, r2, c2, c40, _, _⟩ := hL.ok
  have hH : HistAt H a (line (Cb (w' + r) r)) := ⟨ha, line_hist _, by rw [line_len]; omega⟩
  have hLB : LB H b (line (Cb (w' + r) r)).length w' r := by rw [line_len]; exact hb
  have habv : abv (line (Cb (w' + r) r)) w' r (List.range' 1 (line (Cb (w' + r) r)).length) = true := by
    rw [line_abv w1, dT (Nat.le_refl _)]
  have hwl := line_wall (r := r) w1
  refine ⟨_, (pss_cons (ps_set (i := 5) sc__law_short.nd rfl (.inl rfl) (pe_callTy call_tuple_of rfl B.tuple_ bo_tuple (pa_cons (pe_lc (own := [("_law_k", 7)]) (g := (gName 7)) (tt := tYes) rfl sc__law_short.nd (pi_range1 rfl B.range_ (pa_cons (pv 4) pa_nil)) (blkOk_by (own := [("_law_k", 7)]) (N := ["_law_longer", "_law_level", "_law_wide", "_law_far_here", "_law_many", "_law_every", "_law_e", "_law_k"]) (sc := defScope s__law_short) (by decide +kernel)) (fun _ _ _ _ _ => (pg_name (i := 7) sc__law_short.nd rfl (.inl rfl))) (fun _ _ _ _ _ => pts_nil) (fun _ _ _ _ _ => (pe_op op_add (pv 7) pe_int))) pa_nil)))
     (pss_cons (ps_if (pt_not (pt_val (pe_cal c__law_same hr (by first | decide | omega) rfl (pa_cons (pe_cal c_wall_in hr (by first | decide | omega) rfl (pa_cons (pv 0) (pa_cons (pv 1) pa_nil))) (pa_cons (pv 5) pa_nil)))))
     (pss_one (ps_ret pe_bl))
     pss_nil)
     (pss_cons (ps_if (pt_not (pt_val (pe_cal c__law_same hr (by first | decide | omega) rfl (pa_cons (pe_cal c_plans_within hr (by first | decide | omega) rfl (pa_cons (pe_op op_sub (pv 4) pe_int) (pa_cons (pv 2) (pa_cons (pv 3) pa_nil)))) (pa_cons pe_int pa_nil)))))
     (pss_one (ps_ret pe_bl))
     pss_nil)
     (pss_cons (ps_if (PW.pt (pw_and (pt_cmpR op_le (pv 4) pe_int (nomark _)) (pw_and1 (pt_not (pt_val (pe_cal c__law_same hr (by first | decide | omega) rfl (pa_cons (pe_cal c_plans_within hr (by first | decide | omega) rfl (pa_cons (pv 4) (pa_cons (pv 2) (pa_cons (pv 3) pa_nil)))) (pa_cons pe_int pa_nil))))))))
     (pss_one (ps_ret pe_bl))
     pss_nil)
     (pss_cons (L2N.ps_try_as (i := 6) (Wout := fun _ _ _ _ => False) rfl rfl sc__law_short.nd rfl rfl ⟨rfl, by decide, .inl U.gC⟩ takes0N (fun W pn xe tk _ => pss_one (ps_expr (by exact (pe_calS x_plan_for hr (by decide) rfl (fun σ => L2N.passAt tk σ) (by exact (pa_cons (pv 0) (pa_cons (pv 1) pa_nil))))))) (fun a oe cls d pn hz hf => pss_one (ps_ret (by exact (pe_calH h__law_same (room_suite hr) (hot_of hz hf) (by decide) rfl (by exact (pa_cons (pe_xf U.xf U.nw hz.zc hf (pv 6)) (pa_cons (pv 5) pa_nil))))))))
     (pss_one (ps_ret pe_bl))))))), ?_⟩
  refine ⟨_, rfl, _, rfl, by omega, by omega, fun D1 n1 => ?_⟩
  rw [show ((Cb (w' + r) r : Nat) : Int).toNat = (nv (List.range' 1 (Cb (w' + r) r))).length by rw [nv_len, List.length_range']; omega]
  refine lcR (nv (List.range' 1 (Cb (w' + r) r))) n1 (by rw [nv_len, List.length_range']; omega) (fun i y H' hy s1 R hR => ?_) fun H1 s1 d1 => ?_
  · obtain ⟨z, hz, rfl⟩ := nv_get hy
    have hi : i < Cb (w' + r) r := by
      have := (List.getElem?_eq_some_iff.mp hz).1
      rw [List.length_range'] at this
      exact this
    rw [List.getElem?_range' hi] at hz
    have ez : 1 + 1 * i = z := Option.some.inj hz
    refine ⟨rfl, _, rfl, _, _, rfl, rfl, ?_⟩
    exact qE (int_eq (by omega)) (hR H' (Same.refl _))
  refine ⟨D1, _, rfl, .inl ⟨SqL.of d1, fun T nT => ?_⟩⟩
  have s2 := s1.trans (same_new nT (.tup (nv (List.range' 1 (Cb (w' + r) r)))))
  have hT : upd H1 T (.tup (nv (List.range' 1 (Cb (w' + r) r)))) T = some (.tup (nv (List.range' 1 (Cb (w' + r) r)))) := upd_same
  have hlen : (List.range' 1 (Cb (w' + r) r)).length ≤ 50000 := by rw [List.length_range']; omega
  refine ⟨_, rfl, _, rfl, a, b, _, w', r, rfl, hH.same s2, hLB.same s2, w1, by omega, r1, by omega, fun z => (by rw [habv] at z; cases z), fun _ u H2 s3 hu => ?_⟩
  rw [hwl] at hu
  refine ⟨_, rfl, _, _, rfl, .inr ⟨u, T, _, rfl, rfl, hu, s3 _ _ hT, hlen⟩, true, rfl, iteF ?_⟩
  have s4 := s2.trans s3
  refine ⟨_, rfl, _, _, rfl, rfl, _, rfl, _, rfl, Cb (w' + r) r - 1, w', r, ?_, by omega, fun H3 s5 => ?_⟩
  · show [V.int _, _, _] = _
    rw [show ((Cb (w' + r) r : Nat) : Int) - 1 = ((Cb (w' + r) r - 1 : Nat) : Int) by omega]
  rw [ct_one _ (Cb (w' + r) r - 1) w' r (Nat.le_refl _) (by rw [Cb_symm]; omega)]
  refine ⟨_, _, rfl, .inl (.inl ⟨1, rfl, rfl⟩), true, rfl, iteF ?_⟩
  have s6 := s4.trans s5
  have ifs : ∀ (H4 : Hp), Same H3 H4 → Same H H4 := fun H4 s => s6.trans s
  refine ⟨_, rfl, _, _, rfl, rfl, _, rfl, ?_⟩
  have rest : ∀ H4, Same H3 H4 → spPX C [.ref a, .ref b] H4 (fun _ _ => False) (fun cls d H' => cls = .ref C ∧ ∃ dd t, d = some dd ∧ Same H4 H' ∧ H' dd = some (.xd [(("wall" : Str), .ref t)]) ∧ H' t = some (.tup (nv (List.range' 1 (Cb (w' + r) r))))) := fun H4 s =>
    ⟨a, b, _, w', r, rfl, hH.same (s6.trans s), hLB.same (s6.trans s), w1, by omega, r1, by omega, habv, fun H' d t sd hd ht => ⟨rfl, d, t, rfl, sd, hd, by rw [← hwl]; exact ht⟩⟩
  by_cases c20 : Cb (w' + r) r ≤ 20
  · refine iteTb (dT (show ((Cb (w' + r) r : Nat) : Int) ≤ 20 by omega)) ⟨_, rfl, _, rfl, _, rfl, Cb (w' + r) r, w', r, rfl, h21, fun H4 s7 => ?_⟩
    rw [ct_zero _ (Cb (w' + r) r) w' r (Nat.le_refl _) (by rw [Cb_symm]; omega)]
    refine ⟨_, _, rfl, .inl (.inl ⟨0, rfl, rfl⟩), true, rfl, iteF ?_⟩
    refine ⟨_, rfl, _, rfl, a, b, _, w', r, rfl, hH.same (ifs H4 s7), hLB.same (ifs H4 s7), w1, by omega, r1, by omega, habv, fun H5 d t s8 hd ht => ⟨true, U.te, fun _ a0 ha0 => ?_, fun z => (nomatch z)⟩⟩
    rw [hwl] at ht
    refine ⟨_, rfl, rfl, rfl, d, _, _, rfl, hd, rfl, _, rfl, t, T, _, rfl, ht, s8 _ _ (s7 _ _ (s5 _ _ (s3 _ _ hT))), hlen, q H5 ((ifs H4 s7).trans s8)⟩
  · refine iteFb (dF (show ¬ ((Cb (w' + r) r : Nat) : Int) ≤ 20 by omega)) ?_
    refine iteF ⟨_, rfl, _, rfl, a, b, _, w', r, rfl, hH.same s6, hLB.same s6, w1, by omega, r1, by omega, habv, fun H5 d t s8 hd ht => ⟨true, U.te, fun _ a0 ha0 => ?_, fun z => (nomatch z)⟩⟩
    rw [hwl] at ht
    refine ⟨_, rfl, rfl, rfl, d, _, _, rfl, hd, rfl, _, rfl, t, T, _, rfl, ht, s8 _ _ (s5 _ _ (s3 _ _ hT)), hlen, q H5 (s6.trans s8)⟩
end K67
set_option maxHeartbeats 1000000
namespace K67
open PySem PySem.Spec PyProof.Rows L2
/-! ### the law on any history -/
def spAny : Sp := fun vs H Q _ => ∃ (a : Addr) (hs : List Nat) (w r : Nat), vs = [.ref a, .int (w : Int), .int (r : Int), .int ((Cb (w + r) r : Nat) : Int)] ∧ HistAt H a hs ∧ Lvl w r ∧ ∀ H', Same H H' → Q (.bl true) H'
theorem sc__law_any : FnScope ["_law_tree_here", "_law_wide", "_law_far_here", "_law_many", "_law_level", "_law_kept", "_law_found", "_law_ceiling", "_law_k"] ["_law_tree_here", "_law_wide", "_law_far_here", "_law_many"] (defScope s__law_any) := ⟨rfl, rfl, rfl, by decide +kernel, rfl, by decide +kernel, by decide +kernel⟩
theorem ok__law_any {P : Program} {w : World} {K : PySem.W.Frag} {mg : Str → Option Value} {base : Heap} (D : Dfn K mg "_law_any" s__law_any) (B : Bn mg) (c_level_bounds : Cal P w K mg base 4 "level_bounds" ["history", "width", "reach"] spLvB) (c_can_keep : Cal P w K mg base 6 "can_keep" ["history", "bounds"] (spBW keepR)) (c_wall_in : Cal P w K mg base 6 "wall_in" ["history", "bounds"] (spBW wallR)) (c__law_same : Cal P w K mg base 2 "_law_same" ["_law_got", "_law_due"] spSame) (c_fits_level : Cal P w K mg base 7 "fits_level" ["history", "width", "reach"] spFits)   : Cal P w K mg base 8 "_law_any" ["_law_tree_here", "_law_wide", "_law_far_here", "_law_many"] spAny := by
  refine D.cal sc__law_any (fun vs H Q E h => ?_) (fun _ _ _ _ _ _ us hl => match us, hl with | [_, _, _, _], _ => rfl) (fun f cdv A outer s H vs Q E hr h => ?_)
  · obtain ⟨_, _, _, _, rfl, _⟩ := h
    rfl
  obtain ⟨a, hs, w', r, rfl, hA, hL, q⟩ := h
  obtain ⟨w1, r1, w2, r2, c2, c40, _, _⟩ := hL.ok
  obtain ⟨k, rfl⟩ : ∃ k, w' = k + 1 := ⟨w' - 1, by omega⟩
  have hh := hA.2.1
  have hn := hA.2.2
  have eab : abv hs (k + 1) r (List.range' 1 hs.length) = decide (Cb (k + 1 + r) r ≤ Wt (k + 1) mAll (foAll hs)) := by
    rw [abv_all hh, Cb_wr2]
  have ewt := wt_le hs hh k
  refine ⟨_, (pss_cons (ps_set (i := 4) sc__law_any.nd rfl (.inl rfl) (pe_cal c_level_bounds hr (by first | decide | omega) rfl (pa_cons (pv 0) (pa_cons (pv 1) (pa_cons (pv 2) pa_nil)))))
     (pss_cons (ps_set (i := 5) sc__law_any.nd rfl (.inl rfl) (pe_cal c_can_keep hr (by first | decide | omega) rfl (pa_cons (pv 0) (pa_cons (pv 4) pa_nil))))
     (pss_cons (ps_if (PW.pt (pw_or (pt_not (pt_val (pe_callB call_isi rfl B.isinstance_ bo_isinstance (pa_cons (pv 5) (pa_cons (pe_bltn (v := .ty "bool") rfl B.bool_ bo_bool rfl) pa_nil))))) (pw_or1 (pt_not (pt_val (pe_cal c__law_same hr (by first | decide | omega) rfl (pa_cons (pe_cal c_fits_level hr (by first | decide | omega) rfl (pa_cons (pv 0) (pa_cons (pv 1) (pa_cons (pv 2) pa_nil)))) (pa_cons (pv 5) pa_nil))))))))
     (pss_one (ps_ret pe_bl))
     pss_nil)
     (pss_cons (ps_set (i := 6) sc__law_any.nd rfl (.inl rfl) (pe_cal c_wall_in hr (by first | decide | omega) rfl (pa_cons (pv 0) (pa_cons (pv 4) pa_nil))))
     (pss_cons (ps_if (pt_truth (pv 5) (by intro _; rfl))
     (pss_one (ps_ret (pe_cmpR op_isN (pv 6) pe_non (nomark _))))
     pss_nil)
     (pss_cons (ps_if (PW.pt (pw_or (pt_cmpR op_lt (pe_callB call_len_seq rfl B.len_ bo_len (pa_cons (pv 0) pa_nil)) (pv 3) (nomark _)) (pw_or1 (pt_not (pt_val (pe_callB call_isi rfl B.isinstance_ bo_isinstance (pa_cons (pv 6) (pa_cons (pe_bltn (v := .ty "tuple") rfl B.tuple_ bo_tuple rfl) pa_nil))))))))
     (pss_one (ps_ret pe_bl))
     pss_nil)
     (pss_cons (ps_set (i := 7) sc__law_any.nd rfl (.inl rfl) pe_int)
     (pss_cons (ps_for PassesOwn.never rfl (pi_range1 rfl B.range_ (pa_cons (pv 2) pa_nil)) (pg_name (i := 8) sc__law_any.nd rfl (.inl rfl))
     (pss_one (ps_set (i := 7) sc__law_any.nd rfl (.inl rfl) (pe_op op_add pe_int (pe_op op_mul (pv 1) (pv 7))))))
     (pss_one (ps_ret (pe_chain op_le op_le (pv 3) (pe_callB call_len_seq rfl B.len_ bo_len (pa_cons (pv 6) pa_nil)) (pv 7)))))))))))), ?_⟩
  refine ⟨_, rfl, _, rfl, _, rfl, a, hs, k + 1, r, rfl, hA, w1, by omega, r1, by omega, fun b H1 s1 hb => ?_⟩
  refine ⟨_, rfl, _, rfl, a, b, hs, k + 1, r, rfl, hA.same s1, hb, w1, by omega, r1, by omega, fun H2 s2 => ?_⟩
  refine ⟨_, rfl, _, _, _, _, _, rfl, cn, tx_b, ki_bb, true, rfl, ?_⟩
  dsimp only
  refine iteFb rfl ⟨_, rfl, _, rfl, _, rfl, a, hs, k + 1, r, rfl, hA.same (s1.trans s2), w1, by omega, r1, by omega, fun H3 s3 => ?_⟩
  have s13 := s1.trans (s2.trans s3)
  have eb : decide (Wt (k + 1) mAll (foAll hs) < Cb (k + 1 + r) r) = !abv hs (k + 1) r (List.range' 1 hs.length) := by
    rw [eab]
    by_cases c : Cb (k + 1 + r) r ≤ Wt (k + 1) mAll (foAll hs)
    · rw [dT c, dF (by omega)]
      rfl
    · rw [dF c, dT (by omega)]
      rfl
  refine ⟨_, rfl, _, _, rfl, .inl (.inr ⟨_, rfl, by rw [eb]⟩), true, rfl, iteF ?_⟩
  refine ⟨_, rfl, _, rfl, a, b, hs, k + 1, r, rfl, hA.same s13, hb.same (s2.trans s3), w1, by omega, r1, by omega, fun hk H4 s4 => ?_, fun hk u H4 s4 hu => ?_⟩
  · rw [hk]
    refine ⟨_, rfl, true, rfl, iteT ⟨_, rfl, rfl, ?_⟩⟩
    exact qT (dT rfl) (q H4 (s13.trans s4))
  · rw [hk]
    refine ⟨_, rfl, false, rfl, iteF ?_⟩
    have hab := hk
    rw [eab] at hab
    have hge := of_decide_eq_true hab
    have bnds := strike_len hh k r hk (List.range' 1 hs.length).reverse fun x x1 x2 => List.mem_reverse.mpr (List.mem_range'_1.mpr (by omega))
    rw [Cb_wr2] at bnds
    have bnds : Cb (k + 1 + r) r ≤ (wallL hs (k + 1) r).length ∧ (wallL hs (k + 1) r).length ≤ gs (k + 1) (r + 1) := bnds
    refine ⟨_, rfl, a, _, rfl, .inr (SqT.of (s4 _ _ (hA.same s13).1)), _, rfl, _, _, rfl, rfl, _, rfl, iteFb (dF (by rw [nv_len]; omega)) ?_⟩
    refine ⟨_, rfl, _, _, _, _, _, rfl, cn, tx_t hu, ki_tt, true, rfl, iteF ?_⟩
    refine ⟨_, rfl, _, rfl, by omega, by omega, ?_⟩
    rw [show ((r : Nat) : Int).toNat = r by omega]
    refine for_range (fun i σ' H' => H' = H4 ∧ ∃ y : Option V, σ' = [some (.ref a), some (.int ((k + 1 : Nat) : Int)), some (.int (r : Int)), some (.int ((Cb (k + 1 + r) r : Nat) : Int)), some (.ref b), some (.bl (!true)), some (.ref u), some (.int ((gs (k + 1) (i + 1) : Nat) : Int)), y]) ⟨rfl, none, ?_⟩ (fun i σ' H' hi p => ?_) (fun σ' H' p => ?_)
    · rw [show gs (k + 1) (0 + 1) = 1 by show 1 + (k + 1) * 0 = 1; omega]
      rfl
    · obtain ⟨rfl, y, rfl⟩ := p
      refine ⟨_, rfl, _, rfl, _, _, rfl, rfl, .inl ⟨by omega, by omega⟩, _, _, rfl, rfl, rfl, some (.int (0 + (i : Int))), ?_⟩
      rw [show gs (k + 1) (i + 1 + 1) = 1 + (k + 1) * gs (k + 1) (i + 1) from rfl, Int.natCast_add 1 ((k + 1) * gs (k + 1) (i + 1)), Int.natCast_mul (k + 1) (gs (k + 1) (i + 1))]
      rfl
    · obtain ⟨rfl, y, rfl⟩ := p
      refine ⟨_, rfl, _, rfl, u, _, rfl, .inr (SqT.of hu), _, _, rfl, rfl, _, rfl, iteTb (dT (by rw [nv_len]; omega)) ⟨_, rfl, _, _, rfl, rfl, ?_⟩⟩
      exact qT (dT (by rw [nv_len]; omega)) (q H' (s13.trans s4))
/-! ### the law on far levels -/
def spFar : Sp := fun vs H Q _ => ∃ (w r L : Nat), vs = [.int (w : Int), .int (r : Int), .int (L : Int)] ∧ 1 ≤ w ∧ w ≤ 41 ∧ 1 ≤ r ∧ r ≤ 61 ∧ Cb (w + r) w ≤ L + 1 ∧ L ≤ Cb (w + r) w + 1 ∧ ∀ H', Same H H' → Q (.bl true) H'
theorem far_up {w n : Nat} (hw : 1 ≤ w) (h : w ≤ n + 1) : Cb n w < Cb (n + 1) w := by
  obtain ⟨k, rfl⟩ : ∃ k, w = k + 1 := ⟨w - 1, by omega⟩
  exact Cb_lt n k (by omega)
theorem sc__law_far : FnScope ["_law_wide", "_law_far_here", "_law_length", "_law_shape", "_law_due", "_law_k", "_law_row"] ["_law_wide", "_law_far_here", "_law_length"] (defScope s__law_far) := ⟨rfl, rfl, rfl, by decide +kernel, rfl, by decide +kernel, by decide +kernel⟩
theorem ok__law_far {P : Program} {w : World} {K : PySem.W.Frag} {mg : Str → Option Value} {base : Heap} (D : Dfn K mg "_law_far" s__law_far) (B : Bn mg) (c_row_of : Cal P w K mg base 3 "row_of" ["width", "number"] spRowOf) (c__law_same : Cal P w K mg base 2 "_law_same" ["_law_got", "_law_due"] spSame) (c__law_choose : Cal P w K mg base 1 "_law_choose" ["_law_top", "_law_few"] (spC Cb fun n k => k ≤ n ∧ n ≤ 1000)) (c_shape_depth : Cal P w K mg base 6 "shape_depth" ["shape"] (spSh fun L => .int (L : Int))) (c_shape_fits : Cal P w K mg base 9 "shape_fits" ["width", "reach", "shape"] spShF) (c_shape_size : Cal P w K mg base 6 "shape_size" ["shape"] (spSh fun L => .int (L : Int))) (c_shape_weight : Cal P w K mg base 9 "shape_weight" ["width", "shape"] (spShW fun _ L => .int (L : Int))) (c_shape_reach : Cal P w K mg base 10 "shape_reach" ["width", "shape"] spShR) (c_least_greatest : Cal P w K mg base 4 "least_greatest" ["many", "reach"] spLG)   : Cal P w K mg base 11 "_law_far" ["_law_wide", "_law_far_here", "_law_length"] spFar := by
  refine D.cal sc__law_far (fun vs H Q E h => ?_) (fun _ _ _ _ _ _ us hl => match us, hl with | [_, _, _], _ => rfl) (fun f cdv A outer s H vs Q E hr h => ?_)
  · obtain ⟨_, _, _, rfl, _⟩ := h
    rfl
  obtain ⟨w', r, L, rfl, w1, w2, r1, r2, l1, l2, q⟩ := h
  have f1 := far_up (w := w') (n := w' + r) w1 (by omega)
  have f2 := far_up (w := w') (n := w' + r + 1) w1 (by omega)
  have f0 := far_up (w := w') (n := w' + r - 1) w1 (by omega)
  rw [show w' + r - 1 + 1 = w' + r by omega] at f0
  have f3 := Cb_mono_le (show w' + r + 1 + 1 ≤ 2000 + w' - 1 by omega) w'
  have f4 := Cb_mono_le (show w' + r + 1 + 1 ≤ 3000 + w' by omega) w'
  have ok : okN w' L := ⟨w1, by omega, by omega⟩
  have L1 : 1 ≤ L := by
    have := Cb_pos (w' + r - 1) w' (by omega)
    omega
  refine ⟨_, (pss_cons (ps_set (i := 3) sc__law_far.nd rfl (.inl rfl) (pe_tup (pa_cons (pe_tup (pa_cons pe_int (pa_cons (pv 2) (pa_cons (pe_tup pa_nil) pa_nil)))) pa_nil)))
     (pss_cons (ps_set (i := 4) sc__law_far.nd rfl (.inl rfl) (pv 1))
     (pss_cons (ps_for PassesOwn.never rfl (pi_range1 rfl B.range_ (pa_cons pe_int pa_nil)) (pg_name (i := 5) sc__law_far.nd rfl (.inl rfl))
     (pss_one (ps_if (pt_cmpR op_le (pe_cal c__law_choose hr (by first | decide | omega) rfl (pa_cons (pe_op op_add (pv 0) (pv 4)) (pa_cons (pv 0) pa_nil))) (pv 2) (nomark _))
     (pss_one (ps_set (i := 4) sc__law_far.nd rfl (.inl rfl) (pe_op op_add (pv 4) pe_int)))
     pss_nil)))
     (pss_cons (ps_if (PW.pt (pw_or (pt_not (pt_val (pe_cal c__law_same hr (by first | decide | omega) rfl (pa_cons (pe_cal c_shape_size hr (by first | decide | omega) rfl (pa_cons (pv 3) pa_nil)) (pa_cons (pv 2) pa_nil))))) (pw_or1 (pt_not (pt_val (pe_cal c__law_same hr (by first | decide | omega) rfl (pa_cons (pe_cal c_shape_weight hr (by first | decide | omega) rfl (pa_cons (pv 0) (pa_cons (pv 3) pa_nil))) (pa_cons (pv 2) pa_nil))))))))
     (pss_one (ps_ret pe_bl))
     pss_nil)
     (pss_cons (ps_if (pt_not (pt_val (pe_cal c__law_same hr (by first | decide | omega) rfl (pa_cons (pe_cal c_shape_depth hr (by first | decide | omega) rfl (pa_cons (pv 3) pa_nil)) (pa_cons (pv 2) pa_nil)))))
     (pss_one (ps_ret pe_bl))
     pss_nil)
     (pss_cons (ps_if (pt_not (pt_val (pe_cal c__law_same hr (by first | decide | omega) rfl (pa_cons (pe_cal c_shape_fits hr (by first | decide | omega) rfl (pa_cons (pv 0) (pa_cons (pv 1) (pa_cons (pv 3) pa_nil)))) (pa_cons (pe_cmpR op_lt (pv 2) (pe_cal c__law_choose hr (by first | decide | omega) rfl (pa_cons (pe_op op_add (pv 0) (pv 1)) (pa_cons (pv 0) pa_nil))) (nomark _)) pa_nil)))))
     (pss_one (ps_ret pe_bl))
     pss_nil)
     (pss_cons (ps_if (PW.pt (pw_or (pt_not (pt_val (pe_cal c__law_same hr (by first | decide | omega) rfl (pa_cons (pe_cal c_shape_reach hr (by first | decide | omega) rfl (pa_cons (pv 0) (pa_cons (pv 3) pa_nil))) (pa_cons (pv 4) pa_nil))))) (pw_or1 (pt_not (pt_val (pe_cal c__law_same hr (by first | decide | omega) rfl (pa_cons (pe_cal c_least_greatest hr (by first | decide | omega) rfl (pa_cons (pv 2) (pa_cons (pv 0) pa_nil))) (pa_cons (pv 4) pa_nil))))))))
     (pss_one (ps_ret pe_bl))
     pss_nil)
     (pss_cons (ps_set (i := 6) sc__law_far.nd rfl (.inl rfl) (pe_cal c_row_of hr (by first | decide | omega) rfl (pa_cons (pv 0) (pa_cons (pv 2) pa_nil))))
     (pss_one (ps_ret (pe_and (pe_callB call_isi rfl B.isinstance_ bo_isinstance (pa_cons (pv 6) (pa_cons (pe_bltn (v := .ty "tuple") rfl B.tuple_ bo_tuple rfl) pa_nil))) (pe_and (pe_cmpR op_gt (pe_callB call_len_seq rfl B.len_ bo_len (pa_cons (pv 6) pa_nil)) pe_int (nomark _)) (pe_one (pe_cal c__law_same hr (by first | decide | omega) rfl (pa_cons (pe_ix ix_tup (pv 6) pe_int (fun _ _ => rfl)) (pa_cons (pv 4) pa_nil)))))))))))))))), ?_⟩
  refine ⟨_, rfl, Nat.zero_le _, fun e ne => ⟨by show 3 ≤ sizeLine; decide, fun t nt => ⟨by show 1 ≤ sizeLine; decide, fun s ns => ?_⟩⟩⟩
  have s1 := same_new ne (.tup [])
  have s2 := same_new nt (.tup [.int 1, .int (L : Int), .ref e])
  have s3 := same_new ns (.tup [.ref t])
  have hS : Sh (upd (upd (upd H e (.tup [])) t (.tup [.int 1, .int (L : Int), .ref e])) s (.tup [.ref t])) s L := ⟨t, upd_same, e, s3 _ _ upd_same, s3 _ _ (s2 _ _ upd_same), L1⟩
  have s0 := s1.trans (s2.trans s3)
  change (tSeq _ _) _ _ (upd (upd (upd H e (.tup [])) t (.tup [.int 1, .int (L : Int), .ref e])) s (.tup [.ref t]))
  generalize upd (upd (upd H e (.tup [])) t (.tup [.int 1, .int (L : Int), .ref e])) s (.tup [.ref t]) = G at *
  refine ⟨_, rfl, _, rfl, by decide, by decide, for_range (fun i σ' H' => H' = G ∧ ∃ (due : Nat) (y : Option V), σ' = [some (.int (w' : Int)), some (.int (r : Int)), some (.int (L : Int)), some (.ref s), some (.int (due : Int)), y, none] ∧ r ≤ due ∧ due ≤ r + i ∧ Cb (w' + due - 1) w' ≤ L ∧ (L < Cb (w' + due) w' ∨ due = r + i)) ⟨rfl, r, none, rfl, Nat.le_refl _, by omega, by omega, .inr rfl⟩ (fun i σ' H' hi p => ?_) (fun σ' H' p => ?_)⟩
  · have hi : i < 3 := hi
    obtain ⟨rfl, due, y, rfl, d1, d2, d3, d4⟩ := p
    refine ⟨_, rfl, _, rfl, _, _, rfl, rfl, _, rfl, w' + due, w', two_int (by omega) rfl, ⟨by omega, by omega⟩, _, rfl, _, _, rfl, rfl, _, rfl, ?_⟩
    by_cases c : Cb (w' + due) w' ≤ L
    · refine iteTb (dT (by omega)) ⟨_, rfl, _, _, rfl, rfl, rfl, due + 1, _, rfl, by omega, by omega, ?_, .inr (by omega)⟩
      rw [show w' + (due + 1) - 1 = w' + due by omega]
      exact c
    · exact iteFb (dF (by omega)) ⟨rfl, due, _, rfl, d1, by omega, d3, .inl (by omega)⟩
  · obtain ⟨rfl, due, y, rfl, d1, d2, d3, d4⟩ := p
    have d2 : due ≤ r + 3 := d2
    have d5 : L < Cb (w' + due) w' := by
      rcases d4 with d4 | d4
      · exact d4
      · have d4 : due = r + 3 := d4
        rw [d4, show w' + (r + 3) - 1 = w' + r + 1 + 1 by omega] at d3
        omega
    have uniq : ∀ l : List Nat, Dn l → Nn w' l = L → l.headD 0 = due := fun l hd e => by
      obtain ⟨k, rfl⟩ : ∃ k, w' = k + 1 := ⟨w' - 1, by omega⟩
      have h1 := head_le (w := k) (r := due) hd
      have h2 := head_le (w := k) (r := due - 1) hd
      rw [e, Nat.add_comm due (k + 1)] at h1
      rw [e, show due - 1 + (k + 1) = k + 1 + due - 1 by omega] at h2
      have a1 := h1.mpr d5
      have a2 : ¬ l.headD 0 ≤ due - 1 := fun z => by
        have := h2.mp z
        omega
      omega
    refine ⟨_, rfl, s, L, rfl, hS, fun H1 t1 => ⟨_, rfl, _, _, rfl, .inl (.inl ⟨_, rfl, rfl⟩), true, rfl, iteF ?_⟩⟩
    refine ⟨_, rfl, _, rfl, w', s, L, rfl, hS.same t1, ok, fun H2 t2 => ⟨_, rfl, _, _, rfl, .inl (.inl ⟨_, rfl, rfl⟩), true, rfl, iteF ?_⟩⟩
    have t12 := t1.trans t2
    refine ⟨_, rfl, s, L, rfl, hS.same t12, fun H3 t3 => ⟨_, rfl, _, _, rfl, .inl (.inl ⟨_, rfl, rfl⟩), true, rfl, iteF ?_⟩⟩
    have t13 := t12.trans t3
    refine ⟨_, rfl, _, rfl, _, rfl, w', r, s, L, rfl, hS.same t13, ok, r1, by omega, fun H4 t4 => ⟨_, rfl, _, rfl, _, rfl, _, _, rfl, rfl, _, rfl, w' + r, w', two_int (by omega) rfl, ⟨by omega, by omega⟩, _, _, rfl, rfl, _, _, rfl, .inl (.inr ⟨_, rfl, ?_⟩), true, rfl, iteF ?_⟩⟩
    · show V.bl (decide ((L : Int) < ((Cb (w' + r) w' : Nat) : Int))) = V.bl (decide (L < Cb (w' + r) r))
      rw [← Cb_symm]
      congr 1
      exact decide_eq_decide.mpr (by omega)
    have t14 := t13.trans t4
    refine ⟨_, rfl, _, rfl, w', s, L, rfl, hS.same t14, ok, fun l hd e H5 t5 => ⟨_, rfl, _, _, rfl, .inl (.inl ⟨_, rfl, by rw [uniq l hd e]⟩), true, rfl, iteF ?_⟩⟩
    have t15 := t14.trans t5
    refine ⟨_, rfl, _, rfl, L, w', rfl, w1, by omega, by omega, fun v v1 v2 => ?_⟩
    have ev : v = due := by
      by_cases c1 : v < due
      · have := Cb_mono_le (show v + w' ≤ w' + due - 1 by omega) w'
        omega
      · by_cases c2 : due < v
        · have := v2 due c2
          rw [Nat.add_comm due w'] at this
          omega
        · omega
    subst ev
    refine ⟨_, rfl, _, _, rfl, .inl (.inl ⟨_, rfl, rfl⟩), true, rfl, iteF ?_⟩
    refine ⟨_, rfl, _, rfl, w', L, rfl, w1, by omega, ok.2.2, fun l hd hp hz e hb2 u H6 t6 hu => ?_⟩
    have hne : ∃ x m, l = x :: m := by
      cases l with
      | nil =>
        rw [Nn_nil] at e
        omega
      | cons x m => exact ⟨x, m, rfl⟩
    obtain ⟨x, m, rfl⟩ := hne
    have ex : x = v := uniq _ hd e
    refine ⟨_, rfl, _, _, _, _, _, rfl, cn, tx_t hu, ki_tt, true, rfl, iteT ⟨_, rfl, u, _, rfl, .inr (SqT.of hu), _, _, rfl, rfl, _, rfl, iteTb (dT ?_) ⟨_, rfl, u, _, _, _, rfl, rfl, SqT.of hu, nv_atI (i := 0) (l := x :: m) rfl, _, rfl, _, _, rfl, .inl (.inl ⟨_, rfl, by rw [ex]⟩), ?_⟩⟩⟩
    · show (0 : Int) < (((nv (x :: m)).length : Nat) : Int)
      rw [nv_len, List.length_cons]
      omega
    · exact q H6 (s0.trans (t15.trans t6))
end K67
set_option maxHeartbeats 1000000
namespace K67
open PySem PySem.Spec PyProof.Rows L2
/-! ### the law on a line -/
theorem rg_line (n : Nat) : rgV 0 (n : Int) = nv (line n) := by
  unfold rgV nv line
  rw [show ((n : Int) - 0).toNat = n by omega]
  refine List.map_congr_left fun i _ => ?_
  show V.int (0 + (i : Int)) = V.int (i : Int)
  rw [Int.zero_add]
def spLine : Sp := fun vs H Q _ => ∃ w r : Nat, vs = [.int (w : Int), .int (r : Int), .int ((Cb (w + r) r : Nat) : Int)] ∧ Lvl w r ∧ ∀ H', Same H H' → Q (.bl true) H'
theorem sc__law_line : FnScope ["_law_wide", "_law_far_here", "_law_many", "_law_longer", "_law_shorter", "_law_level", "_law_lower", "_law_bases", "_law_k"] ["_law_wide", "_law_far_here", "_law_many"] (defScope s__law_line) := ⟨rfl, rfl, rfl, by decide +kernel, rfl, by decide +kernel, by decide +kernel⟩
theorem ok__law_line {P : Program} {w : World} {K : PySem.W.Frag} {mg : Str → Option Value} {base : Heap} (D : Dfn K mg "_law_line" s__law_line) (B : Bn mg) (c_level_bounds : Cal P w K mg base 4 "level_bounds" ["history", "width", "reach"] spLvB) (c__law_same : Cal P w K mg base 2 "_law_same" ["_law_got", "_law_due"] spSame) (c__law_short : Cal P w K mg base 24 "_law_short" ["_law_longer", "_law_level", "_law_wide", "_law_far_here", "_law_many"] spShort) (c_weights_of : Cal P w K mg base 6 "weights_of" ["history", "width"] spWts) (c__law_is_plan : Cal P w K mg base 1 "_law_is_plan" ["_law_bases", "_law_many"] spIP) (c__law_within : Cal P w K mg base 1 "_law_within" ["_law_bases", "_law_wide", "_law_far_here"] spWi) (c_can_keep : Cal P w K mg base 6 "can_keep" ["history", "bounds"] (spBW keepR)) (c_fits_level : Cal P w K mg base 7 "fits_level" ["history", "width", "reach"] spFits) (c_least_reach : Cal P w K mg base 6 "least_reach" ["history", "width"] (spHW fun hs w => .int ((lrV hs w : Nat) : Int))) (c_least_width : Cal P w K mg base 7 "least_width" ["history", "reach"] spLW) (k_plan_for : CalK P w K mg base 8 "plan_for" ["history", "bounds"] ["bounds", "history"] (spBW planR)) (k_fits_level : CalK P w K mg base 7 "fits_level" ["history", "width", "reach"] ["reach", "width", "history"] spFits) (k_top_of : CalK P w K mg base 7 "top_of" ["history", "bounds"] ["bounds", "history"] (spBW topR))  : Cal P w K mg base 25 "_law_line" ["_law_wide", "_law_far_here", "_law_many"] spLine := by
  refine D.cal sc__law_line (fun vs H Q E h => ?_) (fun _ _ _ _ _ _ us hl => match us, hl with | [_, _, _], _ => rfl) (fun f cdv A outer s H vs Q E hr h => ?_)
  · obtain ⟨_, _, rfl, _⟩ := h
    rfl
  obtain ⟨w', r, rfl, hL, q⟩ := h
  obtain ⟨w1, r1, w2, r2, c2, c40, pOk, wOk⟩ := hL.ok
  generalize hN : Cb (w' + r) r = N at *
  have wt : ∀ n, wtsL (line n) w' = (List.range n).map fun k => n - k := fun n => line_wts w1
  have bnd : ∀ n, n ≤ 40 → ∀ l ∈ rowsL (line n) w', ∀ x ∈ l, x ≤ 10000 := fun n hn l hl x hx => by
    obtain ⟨i, hi, e⟩ := line_rows hl
    rw [e] at hx
    have := lrow_mem w1 hx
    omega
  have abL : abv (line N) w' r (List.range' 1 (line N).length) = true := by
    rw [line_abv w1, hN, dT (Nat.le_refl _)]
  have abS : abv (line (N - 1)) w' r (List.range' 1 (line (N - 1)).length) = false := by
    rw [line_abv w1, hN, dF (by omega)]
  have ftL : decide (Wt w' mAll (foAll (line N)) < Cb (w' + r) r) = false := by
    obtain ⟨k, rfl⟩ : ∃ k, w' = k + 1 := ⟨w' - 1, by omega⟩
    rw [line_wt, hN, dF (by omega)]
  have ftS : decide (Wt w' mAll (foAll (line (N - 1))) < Cb (w' + r) r) = true := by
    obtain ⟨k, rfl⟩ : ∃ k, w' = k + 1 := ⟨w' - 1, by omega⟩
    rw [line_wt, hN, dT (by omega)]
  have lrL : lrV (line N) w' = r + 1 := by
    rw [← hN]
    exact line_lr_long w1 r1
  have lrS : lrV (line (N - 1)) w' = r := by
    rw [← hN]
    exact line_lr_short w1 r1
  have lwL : LW (line N) r (w' + 1) := by
    rw [← hN]
    exact line_lw_long w1 r1
  have lwS : LW (line (N - 1)) r w' := by
    rw [← hN]
    exact line_lw_short w1 r1
  have htop : ∀ m : Nat, (∃ l ∈ rowsL (line N) w', l.headD 0 = m) → (∀ l ∈ rowsL (line N) w', l.headD 0 ≤ m) → m = r + 1 := by
    rw [← hN]
    exact fun m h1 h2 => line_top w1 r1 h1 h2
  refine ⟨_, (pss_cons (ps_set (i := 3) sc__law_line.nd rfl (.inl rfl) (pe_callTy call_tuple_of rfl B.tuple_ bo_tuple (pa_cons (pe_listRg rfl rfl B.list_ (prg_1 rfl B.range_ (pv 2))) pa_nil)))
     (pss_cons (ps_set (i := 4) sc__law_line.nd rfl (.inl rfl) (pe_callTy call_tuple_of rfl B.tuple_ bo_tuple (pa_cons (pe_listRg rfl rfl B.list_ (prg_1 rfl B.range_ (pe_op op_sub (pv 2) pe_int))) pa_nil)))
     (pss_cons (ps_set (i := 5) sc__law_line.nd rfl (.inl rfl) (pe_cal c_level_bounds hr (by first | decide | omega) rfl (pa_cons (pv 3) (pa_cons (pv 0) (pa_cons (pv 1) pa_nil)))))
     (pss_cons (ps_set (i := 6) sc__law_line.nd rfl (.inl rfl) (pe_cal c_level_bounds hr (by first | decide | omega) rfl (pa_cons (pv 4) (pa_cons (pv 0) (pa_cons (pv 1) pa_nil)))))
     (pss_cons (ps_if (pt_not (pt_val (pe_cal c__law_same hr (by first | decide | omega) rfl (pa_cons (pe_cal c_weights_of hr (by first | decide | omega) rfl (pa_cons (pv 3) (pa_cons (pv 0) pa_nil))) (pa_cons (pe_callTy call_tuple_of rfl B.tuple_ bo_tuple (pa_cons (pe_lc (own := [("_law_k", 8)]) (g := (gName 8)) (tt := tYes) rfl sc__law_line.nd (pi_range1 rfl B.range_ (pa_cons (pv 2) pa_nil)) (blkOk_by (own := [("_law_k", 8)]) (N := ["_law_wide", "_law_far_here", "_law_many", "_law_longer", "_law_shorter", "_law_level", "_law_lower", "_law_bases", "_law_k"]) (sc := defScope s__law_line) (by decide +kernel)) (fun _ _ _ _ _ => (pg_name (i := 8) sc__law_line.nd rfl (.inl rfl))) (fun _ _ _ _ _ => pts_nil) (fun _ _ _ _ _ => (pe_op op_sub (pv 2) (pv 8)))) pa_nil)) pa_nil)))))
     (pss_one (ps_ret pe_bl))
     pss_nil)
     (pss_cons (ps_if (PW.pt (pw_or (pt_not (pt_val (pe_cal c__law_same hr (by first | decide | omega) rfl (pa_cons (pe_calK k_top_of hr (by decide) rfl (pk_cons (pv 5) (pk_cons (pv 3) pk_nil))) (pa_cons (pe_op op_add (pv 1) pe_int) pa_nil))))) (pw_or1 (pt_not (pt_val (pe_cal c__law_same hr (by first | decide | omega) rfl (pa_cons (pe_cal c_can_keep hr (by first | decide | omega) rfl (pa_cons (pv 3) (pa_cons (pv 5) pa_nil))) (pa_cons pe_bl pa_nil))))))))
     (pss_one (ps_ret pe_bl))
     pss_nil)
     (pss_cons (ps_if (PW.pt (pw_or (pt_not (pt_val (pe_cal c__law_same hr (by first | decide | omega) rfl (pa_cons (pe_cal c_fits_level hr (by first | decide | omega) rfl (pa_cons (pv 3) (pa_cons (pv 0) (pa_cons (pv 1) pa_nil)))) (pa_cons pe_bl pa_nil))))) (pw_or1 (pt_not (pt_val (pe_cal c__law_same hr (by first | decide | omega) rfl (pa_cons (pe_cal c_can_keep hr (by first | decide | omega) rfl (pa_cons (pv 4) (pa_cons (pv 6) pa_nil))) (pa_cons pe_bl pa_nil))))))))
     (pss_one (ps_ret pe_bl))
     pss_nil)
     (pss_cons (ps_if (pt_not (pt_val (pe_cal c__law_same hr (by first | decide | omega) rfl (pa_cons (pe_calK k_fits_level hr (by decide) rfl (pk_cons (pv 1) (pk_cons (pv 0) (pk_cons (pv 4) pk_nil)))) (pa_cons pe_bl pa_nil)))))
     (pss_one (ps_ret pe_bl))
     pss_nil)
     (pss_cons (ps_if (PW.pt (pw_or (pt_not (pt_val (pe_cal c__law_same hr (by first | decide | omega) rfl (pa_cons (pe_cal c_least_reach hr (by first | decide | omega) rfl (pa_cons (pv 3) (pa_cons (pv 0) pa_nil))) (pa_cons (pe_op op_add (pv 1) pe_int) pa_nil))))) (pw_or1 (pt_not (pt_val (pe_cal c__law_same hr (by first | decide | omega) rfl (pa_cons (pe_cal c_least_width hr (by first | decide | omega) rfl (pa_cons (pv 3) (pa_cons (pv 1) pa_nil))) (pa_cons (pe_op op_add (pv 0) pe_int) pa_nil))))))))
     (pss_one (ps_ret pe_bl))
     pss_nil)
     (pss_cons (ps_if (PW.pt (pw_or (pt_not (pt_val (pe_cal c__law_same hr (by first | decide | omega) rfl (pa_cons (pe_cal c_least_reach hr (by first | decide | omega) rfl (pa_cons (pv 4) (pa_cons (pv 0) pa_nil))) (pa_cons (pv 1) pa_nil))))) (pw_or1 (pt_not (pt_val (pe_cal c__law_same hr (by first | decide | omega) rfl (pa_cons (pe_cal c_least_width hr (by first | decide | omega) rfl (pa_cons (pv 4) (pa_cons (pv 1) pa_nil))) (pa_cons (pv 0) pa_nil))))))))
     (pss_one (ps_ret pe_bl))
     pss_nil)
     (pss_cons (ps_set (i := 7) sc__law_line.nd rfl (.inl rfl) (pe_calK k_plan_for hr (by decide) rfl (pk_cons (pv 6) (pk_cons (pv 4) pk_nil))))
     (pss_cons (ps_if (PW.pt (pw_or (pt_not (pt_val (pe_cal c__law_is_plan hr (by first | decide | omega) rfl (pa_cons (pv 7) (pa_cons (pe_op op_sub (pv 2) pe_int) pa_nil))))) (pw_or1 (pt_not (pt_val (pe_cal c__law_within hr (by first | decide | omega) rfl (pa_cons (pv 7) (pa_cons (pv 0) (pa_cons (pv 1) pa_nil)))))))))
     (pss_one (ps_ret pe_bl))
     pss_nil)
     (pss_cons (ps_if (pt_cmpR op_le (pv 2) pe_int (nomark _))
     (pss_one (ps_ret (pe_cal c__law_short hr (by first | decide | omega) rfl (pa_cons (pv 3) (pa_cons (pv 5) (pa_cons (pv 0) (pa_cons (pv 1) (pa_cons (pv 2) pa_nil))))))))
     pss_nil)
     (pss_one (ps_ret pe_bl))))))))))))))), ?_⟩
  have rgOk : ∀ n : Nat, n ≤ 40 → RgOk 0 (n : Int) := fun n hn => ⟨by decide, by decide, by omega, by omega, by omega⟩
  refine ⟨_, rfl, _, rfl, rgOk N c40, fun l0 nl0 => ⟨l0, _, rfl, .inl ⟨SqL.of upd_same, fun a na => ?_⟩⟩⟩
  rw [rg_line] at na ⊢
  have s1 := (same_new nl0 (.lst (nv (line N)))).trans (same_new na (.tup (nv (line N))))
  have hAa : HistAt (upd (upd H l0 (.lst (nv (line N)))) a (.tup (nv (line N)))) a (line N) := ⟨upd_same, line_hist _, by rw [line_len]; omega⟩
  generalize upd (upd H l0 (.lst (nv (line N)))) a (.tup (nv (line N))) = G at *
  refine ⟨_, rfl, _, _, rfl, rfl, _, rfl, ?_⟩
  rw [show ((N : Nat) : Int) - 1 = ((N - 1 : Nat) : Int) by omega]
  refine ⟨rgOk (N - 1) (by omega), fun l1 nl1 => ⟨l1, _, rfl, .inl ⟨SqL.of upd_same, fun b nb => ?_⟩⟩⟩
  rw [rg_line] at nb ⊢
  have s2 := (same_new nl1 (.lst (nv (line (N - 1))))).trans (same_new nb (.tup (nv (line (N - 1)))))
  have hAb : HistAt (upd (upd G l1 (.lst (nv (line (N - 1))))) b (.tup (nv (line (N - 1))))) b (line (N - 1)) := ⟨upd_same, line_hist _, by rw [line_len]; omega⟩
  have hAa := hAa.same s2
  generalize upd (upd G l1 (.lst (nv (line (N - 1))))) b (.tup (nv (line (N - 1)))) = G2 at *
  refine ⟨_, rfl, _, rfl, _, rfl, a, _, w', r, rfl, hAa, w1, by omega, r1, by omega, fun ba G3 s3 hba => ?_⟩
  refine ⟨_, rfl, _, rfl, _, rfl, b, _, w', r, rfl, hAb.same s3, w1, by omega, r1, by omega, fun bb G4 s4 hbb => ?_⟩
  have hAa := hAa.same (s3.trans s4)
  have hAb := hAb.same (s3.trans s4)
  have hba := hba.same s4
  have s14 := s1.trans (s2.trans (s3.trans s4))
  refine ⟨_, rfl, _, rfl, a, _, w', rfl, hAa, w1, by omega, bnd N c40, fun t G5 s5 ht => ?_⟩
  rw [wt N] at ht
  refine ⟨_, rfl, _, rfl, by omega, by omega, fun D1 n1 => ?_⟩
  rw [show ((N : Nat) : Int).toNat = (nv ((List.range N).map fun k => N - k)).length by rw [nv_len, List.length_map, List.length_range]; omega]
  refine lcR (nv ((List.range N).map fun k => N - k)) n1 (by rw [nv_len, List.length_map, List.length_range]; omega) (fun i y H' hy sx R hR => ?_) fun G6 s6 d6 => ?_
  · obtain ⟨z, hz, rfl⟩ := nv_get hy
    have hi : i < N := by
      have := (List.getElem?_eq_some_iff.mp hz).1
      rw [List.length_map, List.length_range] at this
      exact this
    rw [List.getElem?_map, List.getElem?_range hi] at hz
    have ez : N - i = z := Option.some.inj hz
    refine ⟨rfl, _, rfl, _, rfl, _, _, rfl, rfl, ?_⟩
    exact qE (int_eq (by omega)) (hR H' (Same.refl _))
  refine ⟨D1, _, rfl, .inl ⟨SqL.of d6, fun t2 nt2 => ?_⟩⟩
  have s7 := same_new nt2 (.tup (nv ((List.range N).map fun k => N - k)))
  refine ⟨_, _, rfl, .inr ⟨t, t2, _, rfl, rfl, s7 _ _ (s6 _ _ ht), upd_same, by rw [List.length_map, List.length_range]; omega⟩, true, rfl, iteF ?_⟩
  have s47 := s5.trans (s6.trans s7)
  have s17 := s14.trans s47
  generalize upd G6 t2 (.tup (nv ((List.range N).map fun k => N - k))) = G7 at *
  have hAa := hAa.same s47
  have hAb := hAb.same s47
  have hba := hba.same s47
  have hbb := hbb.same s47
  have hbaL : LB G7 ba (line N).length w' r := hba
  have hbbL : LB G7 bb (line (N - 1)).length w' r := hbb
  refine ⟨_, rfl, _, rfl, rfl, a, ba, _, w', r, rfl, hAa, hbaL, w1, by omega, r1, by omega, by rw [line_len]; omega, fun m m1 m2 G8 s8 => ?_⟩
  rw [htop m m1 m2]
  refine ⟨_, rfl, _, _, rfl, rfl, _, _, rfl, .inl (.inl ⟨_, rfl, int_eq (by omega)⟩), true, rfl, iteF ?_⟩
  refine ⟨_, rfl, _, rfl, a, ba, _, w', r, rfl, hAa.same s8, hbaL.same s8, w1, by omega, r1, by omega, fun G9 s9 => ?_⟩
  rw [abL]
  refine ⟨_, _, rfl, .inl (.inr ⟨false, rfl, rfl⟩), true, rfl, iteF ?_⟩
  have s79 := s8.trans s9
  refine ⟨_, rfl, _, rfl, _, rfl, a, _, w', r, rfl, hAa.same s79, w1, by omega, r1, by omega, fun G10 s10 => ?_⟩
  rw [ftL]
  refine ⟨_, _, rfl, .inl (.inr ⟨false, rfl, rfl⟩), true, rfl, iteF ?_⟩
  have s710 := s79.trans s10
  refine ⟨_, rfl, _, rfl, b, bb, _, w', r, rfl, hAb.same s710, hbbL.same s710, w1, by omega, r1, by omega, fun G11 s11 => ?_⟩
  rw [abS]
  refine ⟨_, _, rfl, .inl (.inr ⟨true, rfl, rfl⟩), true, rfl, iteF ?_⟩
  have s711 := s710.trans s11
  refine ⟨_, rfl, _, rfl, _, rfl, rfl, b, _, w', r, rfl, hAb.same s711, w1, by omega, r1, by omega, fun G12 s12 => ?_⟩
  rw [ftS]
  refine ⟨_, _, rfl, .inl (.inr ⟨true, rfl, rfl⟩), true, rfl, iteF ?_⟩
  have s712 := s711.trans s12
  refine ⟨_, rfl, _, rfl, a, _, w', rfl, hAa.same s712, w1, by omega, fun G13 s13 => ?_⟩
  refine ⟨_, rfl, _, _, rfl, rfl, _, _, rfl, .inl (.inl ⟨_, int_eq (by rw [lrL]; omega), rfl⟩), true, rfl, iteF ?_⟩
  have s713 := s712.trans s13
  refine ⟨_, rfl, _, rfl, a, _, r, w' + 1, rfl, hAa.same s713, r1, lwL, by omega, fun G14 s14' => ?_⟩
  refine ⟨_, rfl, _, _, rfl, rfl, _, _, rfl, .inl (.inl ⟨_, rfl, int_eq (by omega)⟩), true, rfl, iteF ?_⟩
  have s714 := s713.trans s14'
  refine ⟨_, rfl, _, rfl, b, _, w', rfl, hAb.same s714, w1, by omega, fun G15 s15 => ?_⟩
  refine ⟨_, rfl, _, _, rfl, .inl (.inl ⟨_, int_eq (by rw [lrS]), rfl⟩), true, rfl, iteF ?_⟩
  have s715 := s714.trans s15
  refine ⟨_, rfl, _, rfl, b, _, r, w', rfl, hAb.same s715, r1, lwS, by omega, fun G16 s16 => ?_⟩
  refine ⟨_, rfl, _, _, rfl, .inl (.inl ⟨_, rfl, rfl⟩), true, rfl, iteF ?_⟩
  have s716 := s715.trans s16
  refine ⟨_, rfl, _, rfl, rfl, b, bb, _, w', r, rfl, hAb.same s716, hbbL.same s716, w1, by omega, r1, by omega, abS, fun pl G17 s17' hpl => ?_⟩
  have hpn : (planL (line (N - 1)) w').length = N - 1 := by
    unfold planL
    rw [basL_len, line_len]
  refine ⟨_, rfl, _, rfl, _, _, rfl, rfl, pl, N - 1, _, ?_, hpl, hpn, by omega, pOk, fun G18 s18 => ⟨true, rfl, iteF ?_⟩⟩
  · show [V.ref pl, V.int _] = _
    rw [show ((N : Nat) : Int) - 1 = ((N - 1 : Nat) : Int) by omega]
  refine ⟨_, rfl, _, rfl, _, rfl, pl, w', r, _, rfl, s18 _ _ hpl, by omega, pOk, wOk, fun G19 s19 => ⟨true, rfl, iteF ?_⟩⟩
  have s719 := s716.trans (s17'.trans (s18.trans s19))
  have sHz := s17.trans s719
  refine ⟨_, rfl, _, _, rfl, rfl, _, rfl, ?_⟩
  by_cases c : N ≤ 21
  · refine iteTb (dT (show ((N : Nat) : Int) ≤ 21 by omega)) ⟨_, rfl, _, rfl, _, rfl, _, rfl, _, rfl, a, ba, w', r, ?_, ?_, ?_, hL, ?_, fun G20 s20 => q G20 (sHz.trans s20)⟩
    · rw [hN]
      rfl
    · rw [hN]
      exact (hAa.same s719).1
    · rw [hN]
      have := hbaL.same s719
      rw [line_len] at this
      exact this
    · rw [hN]
      exact c
  · exact iteFb (dF (show ¬ ((N : Nat) : Int) ≤ 21 by omega)) (q G19 sHz)
end K67
set_option maxHeartbeats 1000000
namespace K67
open PySem PySem.Spec PyProof.Rows L2
/-! ### the law -/
def capsL (w : Nat) : Nat := [12, 7, 4, 3].getD (w - 1) 0
theorem lvl_of : ((List.range 4).all fun x => (List.range (capsL (x + 1))).all fun y => decide ((x + 1, y + 1) ∈ lvls)) = true := by decide +kernel
theorem lvl_get {x y : Nat} (hx : x < 4) (hy : y < capsL (x + 1)) : (x + 1, y + 1) ∈ lvls := of_decide_eq_true (List.all_eq_true.mp (List.all_eq_true.mp lvl_of x (List.mem_range.mpr hx)) y (List.mem_range.mpr hy))
theorem caps_at {x : Nat} (hx : x < 4) : ([V.int 12, .int 7, .int 4, .int 3] : List V)[x]? = some (.int ((capsL (x + 1) : Nat) : Int)) ∧ 1 ≤ capsL (x + 1) ∧ capsL (x + 1) ≤ 12 := by
  match x, hx with
  | 0, _ => exact ⟨rfl, by decide, by decide⟩
  | 1, _ => exact ⟨rfl, by decide, by decide⟩
  | 2, _ => exact ⟨rfl, by decide, by decide⟩
  | 3, _ => exact ⟨rfl, by decide, by decide⟩
def spLaw (K : PySem.W.Frag) : Sp := fun vs H Q _ => ∃ (a : Addr) (xs : List Int), vs = [.ref a] ∧ SqL K H a (xs.map V.int) ∧ ∀ H', Q (.bl true) H'
theorem sc_law : FnScope ["_law_script", "_law_hand_here", "_law_wide", "_law_far_here", "_law_both", "_law_many", "_law_tree_here"] ["_law_script"] (defScope s_law) := ⟨rfl, rfl, rfl, by decide +kernel, rfl, by decide +kernel, by decide +kernel⟩
theorem ok_law {P : Program} {w : World} {K : PySem.W.Frag} {mg : Str → Option Value} {base : Heap} (D : Dfn K mg "law" s_law) (B : Bn mg) (c__law_hand : Cal P w K mg base 1 "_law_hand" ["_law_script"] (spHand K)) (c__law_choose : Cal P w K mg base 1 "_law_choose" ["_law_top", "_law_few"] (spC Cb fun n k => k ≤ n ∧ n ≤ 1000)) (c__law_tree : Cal P w K mg base 2 "_law_tree" ["_law_hand_here", "_law_many"] spTree) (c__law_far : Cal P w K mg base 11 "_law_far" ["_law_wide", "_law_far_here", "_law_length"] spFar) (c__law_take : Cal P w K mg base 1 "_law_take" ["_law_hand_here", "_law_many"] spTake) (c__law_any : Cal P w K mg base 8 "_law_any" ["_law_tree_here", "_law_wide", "_law_far_here", "_law_many"] spAny) (c__law_same : Cal P w K mg base 2 "_law_same" ["_law_got", "_law_due"] spSame) (c__law_line : Cal P w K mg base 25 "_law_line" ["_law_wide", "_law_far_here", "_law_many"] spLine) (c_capacity : Cal P w K mg base 3 "capacity" ["width", "reach"] (spC (fun w r => Cb (w + r) r) fun w r => 1 ≤ w ∧ 1 ≤ r ∧ w + r ≤ 18000)) (k_capacity : CalK P w K mg base 3 "capacity" ["width", "reach"] ["reach", "width"] (spC (fun w r => Cb (w + r) r) fun w r => 1 ≤ w ∧ 1 ≤ r ∧ w + r ≤ 18000))  : Cal P w K mg base 26 "law" ["_law_script"] (spLaw K) := by
  refine D.cal sc_law (fun vs H Q E h => ?_) (fun _ _ _ _ _ _ us hl => match us, hl with | [_], _ => rfl) (fun f cdv A outer s H vs Q E hr h => ?_)
  · obtain ⟨_, _, rfl, _⟩ := h
    rfl
  obtain ⟨a, xs, rfl, ha, q⟩ := h
  refine ⟨_, (pss_cons (ps_set (i := 1) sc_law.nd rfl (.inl rfl) (pe_cal c__law_hand hr (by first | decide | omega) rfl (pa_cons (pv 0) pa_nil)))
     (pss_cons (ps_set (i := 2) sc_law.nd rfl (.inl rfl) (pe_op op_add pe_int (pe_cal c__law_take hr (by first | decide | omega) rfl (pa_cons (pv 1) (pa_cons pe_int pa_nil)))))
     (pss_cons (ps_set (i := 3) sc_law.nd rfl (.inl rfl) (pe_op op_add pe_int (pe_cal c__law_take hr (by first | decide | omega) rfl (pa_cons (pv 1) (pa_cons (pe_ix ix_list (pe_lst (pa_cons pe_int (pa_cons pe_int (pa_cons pe_int (pa_cons pe_int pa_nil))))) (pe_op op_sub (pv 2) pe_int) (fun _ _ => rfl)) pa_nil)))))
     (C8.pss_cut (ps_if (pt_cmpR op_eq (pe_cal c__law_take hr (by first | decide | omega) rfl (pa_cons (pv 1) (pa_cons pe_int pa_nil))) pe_int (nomark _))
     (pss_cons (ps_set (i := 4) sc_law.nd rfl (.inl rfl) (pe_lst (pa_cons (pv 3) (pa_cons (pv 2) pa_nil))))
     (pss_cons (ps_set (i := 2) sc_law.nd rfl (.inl rfl) (pe_ix ix_list (pv 4) pe_int (fun _ _ => rfl)))
     (pss_one (ps_set (i := 3) sc_law.nd rfl (.inl rfl) (pe_ix ix_list (pv 4) pe_int (fun _ _ => rfl))))))
     pss_nil)
     (pss_cons (ps_set (i := 5) sc_law.nd rfl (.inl rfl) (pe_cal c__law_choose hr (by first | decide | omega) rfl (pa_cons (pe_op op_add (pv 2) (pv 3)) (pa_cons (pv 3) pa_nil))))
     (pss_cons (ps_if (PW.pt (pw_or (pt_not (pt_val (pe_cal c__law_same hr (by first | decide | omega) rfl (pa_cons (pe_cal c_capacity hr (by first | decide | omega) rfl (pa_cons (pv 2) (pa_cons (pv 3) pa_nil))) (pa_cons (pv 5) pa_nil))))) (pw_or1 (pt_not (pt_val (pe_cal c__law_line hr (by first | decide | omega) rfl (pa_cons (pv 2) (pa_cons (pv 3) (pa_cons (pv 5) pa_nil)))))))))
     (pss_one (ps_ret pe_bl))
     pss_nil)
     (pss_cons (ps_set (i := 6) sc_law.nd rfl (.inl rfl) (pe_cal c__law_tree hr (by first | decide | omega) rfl (pa_cons (pv 1) (pa_cons (pe_cal c__law_take hr (by first | decide | omega) rfl (pa_cons (pv 1) (pa_cons pe_int pa_nil))) pa_nil))))
     (pss_cons (ps_if (pt_not (pt_val (pe_cal c__law_any hr (by first | decide | omega) rfl (pa_cons (pv 6) (pa_cons (pv 2) (pa_cons (pv 3) (pa_cons (pv 5) pa_nil)))))))
     (pss_one (ps_ret pe_bl))
     pss_nil)
     (pss_cons (ps_set (i := 2) sc_law.nd rfl (.inl rfl) (pe_op op_add pe_int (pe_cal c__law_take hr (by first | decide | omega) rfl (pa_cons (pv 1) (pa_cons pe_int pa_nil)))))
     (pss_cons (ps_set (i := 3) sc_law.nd rfl (.inl rfl) (pe_op op_add pe_int (pe_cal c__law_take hr (by first | decide | omega) rfl (pa_cons (pv 1) (pa_cons pe_int pa_nil)))))
     (C8.pss_cut (ps_if (pt_cmpR op_eq (pe_cal c__law_take hr (by first | decide | omega) rfl (pa_cons (pv 1) (pa_cons pe_int pa_nil))) pe_int (nomark _))
     (pss_cons (ps_set (i := 2) sc_law.nd rfl (.inl rfl) (pe_op op_add pe_int (pe_cal c__law_take hr (by first | decide | omega) rfl (pa_cons (pv 1) (pa_cons pe_int pa_nil)))))
     (pss_one (ps_set (i := 3) sc_law.nd rfl (.inl rfl) (pe_op op_add pe_int (pe_cal c__law_take hr (by first | decide | omega) rfl (pa_cons (pv 1) (pa_cons pe_int pa_nil)))))))
     pss_nil)
     (pss_cons (ps_set (i := 5) sc_law.nd rfl (.inl rfl) (pe_cal c__law_choose hr (by first | decide | omega) rfl (pa_cons (pe_op op_add (pv 2) (pv 3)) (pa_cons (pv 2) pa_nil))))
     (pss_cons (ps_if (pt_not (pt_val (pe_cal c__law_same hr (by first | decide | omega) rfl (pa_cons (pe_calK k_capacity hr (by decide) rfl (pk_cons (pv 3) (pk_cons (pv 2) pk_nil))) (pa_cons (pv 5) pa_nil)))))
     (pss_one (ps_ret pe_bl))
     pss_nil)
     (pss_one (ps_ret (pe_cal c__law_far hr (by first | decide | omega) rfl (pa_cons (pv 2) (pa_cons (pv 3) (pa_cons (pe_op op_add (pe_op op_sub (pv 5) pe_int) (pe_cal c__law_take hr (by first | decide | omega) rfl (pa_cons (pv 1) (pa_cons pe_int pa_nil)))) pa_nil))))))))))))))))))), ?_⟩
  refine ⟨_, rfl, a, xs, rfl, ha, fun h c H1 s1 nh hC1 => ?_⟩
  refine ⟨_, rfl, h, 4, c, rfl, hC1, by decide, by decide, fun x H2 hx x2 hC2 => ⟨_, _, rfl, rfl, ?_⟩⟩
  obtain ⟨ca, cb, cc⟩ := caps_at hx
  refine ⟨_, rfl, by show 4 ≤ sizeLine; decide, fun L0 nL0 => ⟨_, rfl, _, _, rfl, rfl, L0, _, _, _, rfl, rfl, SqL.of upd_same, ?_, h, capsL (x + 1), c, rfl, hC2.same (same_new nL0 _), cb, by omega, fun y H3 hy x3 hC3 => ⟨_, _, rfl, rfl, ?_⟩⟩⟩
  · rw [show (1 : Int) + ((x : Nat) : Int) - 1 = (x : Int) by omega]
    exact atI_nat ca
  have hl := lvl_get hx hy
  refine ⟨fun σ' H' => ∃ (w' r : Nat) (y4 : Option V), σ' = [some (.ref a), some (.ref h), some (.int (w' : Int)), some (.int (r : Int)), y4, none, none] ∧ Lvl w' r ∧ HandC H' h c, ?_, ?_⟩
  · refine ⟨_, rfl, h, 2, c, rfl, hC3, by decide, by decide, fun z H4 hz x4 hC4 => ⟨rfl, _, rfl, ite2 (fun _ => ?_) (fun _ => ?_)⟩⟩
    · refine ⟨_, rfl, _, rfl, by show 2 ≤ sizeLine; decide, fun b nb => ?_⟩
      refine ⟨_, rfl, b, _, _, _, rfl, rfl, SqL.of upd_same, atI_nat (j := 0) rfl, ?_⟩
      refine ⟨_, rfl, b, _, _, _, rfl, rfl, SqL.of upd_same, atI_nat (j := 1) rfl, ?_⟩
      refine ⟨y + 1, x + 1, some (.ref b), ?_, .inr hl, hC4.same (same_new nb _)⟩
      rw [show ((y + 1 : Nat) : Int) = 1 + (y : Int) by omega, show ((x + 1 : Nat) : Int) = 1 + (x : Int) by omega]
      rfl
    · refine ⟨x + 1, y + 1, none, ?_, .inl hl, hC4⟩
      rw [show ((y + 1 : Nat) : Int) = 1 + (y : Int) by omega, show ((x + 1 : Nat) : Int) = 1 + (x : Int) by omega]
      rfl
  rintro σ' H4 ⟨w', r, y4, rfl, hL, hC4⟩
  obtain ⟨w1, r1, w2, r2, c2, c40, _, _⟩ := hL.ok
  refine ⟨_, rfl, _, rfl, _, _, rfl, rfl, _, rfl, w' + r, r, two_int (by omega) rfl, ⟨by omega, by omega⟩, ?_⟩
  refine ⟨_, rfl, _, rfl, w', r, rfl, ⟨w1, r1, by omega⟩, _, rfl, _, _, rfl, .inl (.inl ⟨_, rfl, rfl⟩), true, rfl, iteF ?_⟩
  refine ⟨_, rfl, _, rfl, _, rfl, w', r, rfl, hL, fun H5 s5 => ⟨true, rfl, iteF ?_⟩⟩
  have hC5 := hC4.same s5
  refine ⟨_, rfl, _, rfl, h, 13, c, rfl, hC5, by decide, by decide, fun m H6 hm x6 hC6 => ⟨h, m, c, rfl, hC6, by omega, fun T hs H7 hlen hist x7 hC7 hT => ?_⟩⟩
  refine ⟨_, rfl, _, rfl, _, rfl, _, rfl, T, hs, w', r, rfl, ⟨hT, hist, by omega⟩, hL, fun H8 s8 => ⟨true, rfl, iteF ?_⟩⟩
  have hC8 := hC7.same s8
  refine ⟨_, rfl, h, 8, c, rfl, hC8, by decide, by decide, fun x2 H9 hx2 _ hC9 => ⟨_, _, rfl, rfl, ?_⟩⟩
  refine ⟨_, rfl, h, 9, c, rfl, hC9, by decide, by decide, fun y2 H10 hy2 _ hC10 => ⟨_, _, rfl, rfl, ?_⟩⟩
  refine ⟨fun σ' H' => ∃ (w2 r2 : Nat) (y5 y6 : Option V), σ' = [some (.ref a), some (.ref h), some (.int (w2 : Int)), some (.int (r2 : Int)), y4, y5, y6] ∧ 1 ≤ w2 ∧ w2 ≤ 40 ∧ 1 ≤ r2 ∧ r2 ≤ 60 ∧ HandC H' h c, ?_, ?_⟩
  · refine ⟨_, rfl, h, 4, c, rfl, hC10, by decide, by decide, fun z H11 hz _ hC11 => ⟨rfl, _, rfl, ite2 (fun _ => ?_) (fun _ => ?_)⟩⟩
    · refine ⟨_, rfl, h, 40, c, rfl, hC11, by decide, by decide, fun x3 H12 hx3 _ hC12 => ⟨_, _, rfl, rfl, ?_⟩⟩
      refine ⟨_, rfl, h, 60, c, rfl, hC12, by decide, by decide, fun y3 H13 hy3 _ hC13 => ⟨_, _, rfl, rfl, ?_⟩⟩
      refine ⟨x3 + 1, y3 + 1, some (.int ((Cb (w' + r) r : Nat) : Int)), some (.ref T), ?_, by omega, by omega, by omega, by omega, hC13⟩
      rw [show ((y3 + 1 : Nat) : Int) = 1 + (y3 : Int) by omega, show ((x3 + 1 : Nat) : Int) = 1 + (x3 : Int) by omega]
      rfl
    · refine ⟨x2 + 1, y2 + 1, some (.int ((Cb (w' + r) r : Nat) : Int)), some (.ref T), ?_, by omega, by omega, by omega, by omega, hC11⟩
      rw [show ((y2 + 1 : Nat) : Int) = 1 + (y2 : Int) by omega, show ((x2 + 1 : Nat) : Int) = 1 + (x2 : Int) by omega]
      rfl
  rintro σ' H14 ⟨u, v, y5, y6, rfl, u1, u2, v1, v2, hC14⟩
  have cp := Cb_pos (u + v) u (by omega)
  refine ⟨_, rfl, _, rfl, _, _, rfl, rfl, _, rfl, u + v, u, two_int (by omega) rfl, ⟨by omega, by omega⟩, ?_⟩
  refine ⟨_, rfl, _, rfl, rfl, u, v, rfl, ⟨u1, v1, by omega⟩, _, rfl, _, _, rfl, .inl (.inl ⟨((Cb (u + v) u : Nat) : Int), int_eq (by rw [Cb_symm]), rfl⟩), true, rfl, iteF ?_⟩
  refine ⟨_, rfl, _, rfl, _, rfl, _, _, rfl, rfl, _, rfl, h, 3, c, rfl, hC14, by decide, by decide, fun z H15 hz _ hC15 => ⟨_, _, rfl, rfl, u, v, Cb (u + v) u - 1 + z, ?_, u1, by omega, v1, by omega, by omega, by omega, fun H16 _ => q H16⟩⟩
  show [_, _, V.int (((Cb (u + v) u : Nat) : Int) - 1 + (z : Int))] = _
  rw [show ((Cb (u + v) u : Nat) : Int) - 1 + (z : Int) = ((Cb (u + v) u - 1 + z : Nat) : Int) by omega]
end K67
set_option maxHeartbeats 1000000
namespace K67
open PySem PySem.Spec PyProof.Rows L2
/-! ### what the top leaves behind -/
def dfs0 : List (Str × Stmt) := [("is_integer", s_is_integer), ("is_number", s_is_number), ("is_natural", s_is_natural), ("choose", s_choose), ("capacity", s_capacity), ("up_to", s_up_to), ("is_pair", s_is_pair), ("bound_fault", s_bound_fault), ("need_bounds", s_need_bounds), ("all_versions", s_all_versions), ("falling", s_falling), ("row_after", s_row_after), ("step_of", s_step_of), ("near_elder", s_near_elder), ("walked", s_walked), ("goes_above", s_goes_above), ("is_row", s_is_row), ("merged", s_merged), ("stepped", s_stepped), ("_check_row", s__check_row), ("_greatest_member", s__greatest_member), ("number_of", s_number_of), ("row_of", s_row_of), ("_rows_within", s__rows_within), ("weights_of", s_weights_of), ("forest_weight", s_forest_weight), ("fits_level", s_fits_level), ("least_reach", s_least_reach), ("least_width", s_least_width), ("level_bounds", s_level_bounds)]
def dfs1 : List (Str × Stmt) := [("need_number", s_need_number), ("need_natural", s_need_natural), ("_counted", s__counted), ("plans_within", s_plans_within), ("least_greatest", s_least_greatest), ("joined_all", s_joined_all), ("joined_many", s_joined_many), ("is_shape", s_is_shape), ("_is_part", s__is_part), ("_check_shape", s__check_shape), ("_size", s__size), ("shape_size", s_shape_size), ("_weight", s__weight), ("shape_weight", s_shape_weight), ("_depth", s__depth), ("shape_depth", s_shape_depth), ("shape_fits", s_shape_fits), ("shape_reach", s_shape_reach), ("is_heights", s_is_heights), ("bases_by", s_bases_by), ("wall_in", s_wall_in), ("rows_of", s_rows_of), ("walk_heights", s_walk_heights), ("top_of", s_top_of), ("can_keep", s_can_keep), ("plan_for", s_plan_for), ("_law_hand", s__law_hand), ("_law_take", s__law_take), ("_law_tree", s__law_tree), ("_law_same", s__law_same)]
def dfs2 : List (Str × Stmt) := [("_law_choose", s__law_choose), ("_law_is_plan", s__law_is_plan), ("_law_within", s__law_within), ("_law_line", s__law_line), ("_law_short", s__law_short), ("_law_any", s__law_any), ("_law_far", s__law_far), ("law", s_law)]
def dfs : List (Str × Stmt) := dfs0 ++ dfs1 ++ dfs2
def dfD (x : Str) (st : Stmt) : He.DefD := ⟨(x, none), x, x, defArgs st, defBody st, defScope st, [], []⟩
def fn : List He.DefD := dfs.map (fun p => dfD p.1 p.2) ++ [⟨("Unkept", some "__init__"), "__init__", "Unkept.__init__", defArgs sUnkI, defBody sUnkI, defScope sUnkI, [], []⟩]
def fa : List He.Fa := dfs.map (fun p => He.Fa.glo p.1) ++ [.glo "Unkept", .int "GREATEST_BOUND" 999] ++ [.free "len", .free "isinstance", .free "int", .free "bool", .free "tuple", .free "str", .free "sorted", .free "min", .free "max", .free "abs", .free "any", .free "all", .free "range", .free "zip", .free "enumerate", .free "list"]
def oexB (K : PySem.W.Frag) (C : Addr) : Bool := (match K.lookup C with
  | some ⟨.type "type", _, .cls cd, sl⟩ => (match cd.mro, sl.toList with
    | .ref C' :: bm, [_, _, _, _, some (.builtin n), _] => decide (C' = C) && (decide (n = "ValueError.__new__") && (!cd.hasDel && (cd.hasDict && PySem.HandSPX.refsVE bm)))
    | _, _ => false)
  | _ => false) && (decide (PySem.W.findIn K (.ref C) "__setattr__" = some (some (.builtin "object.__setattr__"))) && (decide (PySem.W.subIn K (.ref C) (.type "BaseException") = some true) && (decide (PySem.W.typeIn K (.ref C) = some (.type "type")) && PySem.W.keepIn K (.ref C))))
def exB (K : PySem.W.Frag) : Bool := decide (PySem.W.nsIn K mainGlobals "comb" = some (some (.builtin "math.comb"))) && (oexB K (He.ga K "Unkept") && (xfB K (He.ga K "Unkept") && (decide (PySem.W.findIn K (.ref (He.ga K "Unkept")) "wall" = some none) &&
  (decide (PySem.W.findIn K (.ref (He.ga K "Unkept")) "__init__" = some (some (.ref (He.ma K (He.ga K "Unkept") "__init__")))) && (decide (PySem.W.typeIn K (.ref (He.ma K (He.ga K "Unkept") "__init__")) = some (.type "function")) &&
  decide (PySem.W.exmOne K (.ref (He.ga K "Unkept")) (.ref (He.ga K "Unkept")) = some true))))))
abbrev AlX : Type := Bool × He.AlD
def obsX (K : PySem.W.Frag) : AlX := (exB K, He.obsD fa fn K)
def valX : AlX := (true, He.valD fn)
def SaysX (K : PySem.W.Frag) : Prop := obsX K = valX

theorem dec_and {a b : Bool} (h : (a && b) = true) : a = true ∧ b = true := Bool.and_eq_true_iff.mp h
theorem oexB_ok {K : PySem.W.Frag} {C : Addr} (h : oexB K C = true) : OexC K C := by
  unfold oexB at h
  obtain ⟨h1, h2⟩ := dec_and h
  obtain ⟨h2, h3⟩ := dec_and h2
  obtain ⟨h3, h4⟩ := dec_and h3
  obtain ⟨h4, h5⟩ := dec_and h4
  refine ⟨?_, of_decide_eq_true h2, of_decide_eq_true h3, of_decide_eq_true h4, h5⟩
  cases e : K.lookup C with
  | none => rw [e] at h1; cases h1
  | some o =>
    rw [e] at h1
    obtain ⟨oc, od, dat, sl⟩ := o
    split at h1
    · rename_i heq
      injection heq with heq
      injection heq with e1 e2 e3 e4
      subst e1 e2 e3 e4
      split at h1
      · rename_i cd m1 m2 C' bm k0 k1 k2 k3 n k5 em es
        obtain ⟨g1, g2⟩ := dec_and h1
        obtain ⟨g2, g3⟩ := dec_and g2
        obtain ⟨g3, g4⟩ := dec_and g3
        obtain ⟨g4, g5⟩ := dec_and g4
        have g1 := of_decide_eq_true g1
        have g2 := of_decide_eq_true g2
        subst g1 g2
        have hs : sl = #[k0, k1, k2, k3, some (.builtin "ValueError.__new__"), k5] := by
          apply Array.ext'
          rw [es]
        subst hs
        obtain ⟨nm, bases, mro, ns, qn, hd, sn, sub, ab, col, hdel⟩ := cd
        have q3 : hdel = false := by simpa using g3
        have q4 : hd = true := g4
        have q1 : mro = .ref C' :: bm := em
        clear em
        subst q1 q3 q4
        exact ⟨_, _, _, _, _, _, _, _, _, _, _, _, _, _, _, rfl, g5⟩
      · cases h1
    · cases h1
section
variable {P : Program} {w : World} {K : PySem.W.Frag} {h : Heap} {mg : Str → Option Value} {base : Heap}
theorem dfn_of (c : He.SaysD fa fn K) (X : K.In h) (G : h.Ns mainGlobals mg) (i : Nat) {x : Str} {st : Stmt} (h1 : fn[i]? = some (dfD x st)) (h2 : fa[i]? = some (.glo x)) : Dfn K mg x st := by
  obtain ⟨fd, F⟩ := c.def_ i h1
  exact ⟨_, fd, He.glo_ok X G (c.fact i h2), F⟩
theorem bn_of (c : He.SaysD fa fn K) (X : K.In h) (G : h.Ns mainGlobals mg) (hc : PySem.W.nsIn K mainGlobals "comb" = some (some (.builtin "math.comb"))) : Bn mg where
  len_ := He.free_ok X G (c.fact 70 (f := .free "len") rfl)
  isinstance_ := He.free_ok X G (c.fact 71 (f := .free "isinstance") rfl)
  int_ := He.free_ok X G (c.fact 72 (f := .free "int") rfl)
  bool_ := He.free_ok X G (c.fact 73 (f := .free "bool") rfl)
  tuple_ := He.free_ok X G (c.fact 74 (f := .free "tuple") rfl)
  str_ := He.free_ok X G (c.fact 75 (f := .free "str") rfl)
  sorted_ := He.free_ok X G (c.fact 76 (f := .free "sorted") rfl)
  min_ := He.free_ok X G (c.fact 77 (f := .free "min") rfl)
  max_ := He.free_ok X G (c.fact 78 (f := .free "max") rfl)
  abs_ := He.free_ok X G (c.fact 79 (f := .free "abs") rfl)
  any_ := He.free_ok X G (c.fact 80 (f := .free "any") rfl)
  all_ := He.free_ok X G (c.fact 81 (f := .free "all") rfl)
  range_ := He.free_ok X G (c.fact 82 (f := .free "range") rfl)
  zip_ := He.free_ok X G (c.fact 83 (f := .free "zip") rfl)
  enumerate_ := He.free_ok X G (c.fact 84 (f := .free "enumerate") rfl)
  list_ := He.free_ok X G (c.fact 85 (f := .free "list") rfl)
  comb_ := PySem.W.mg_of X G hc
  gb := He.int_ok X G (c.fact 69 (f := .int "GREATEST_BOUND" 999) rfl)
theorem unk_of (c : He.SaysD fa fn K) (X : K.In h) (G : h.Ns mainGlobals mg) (e : exB K = true) : ∃ (C fI : Addr) (fd : FuncData), Unk K mg C fI fd := by
  unfold exB at e
  obtain ⟨_, e⟩ := dec_and e
  obtain ⟨e1, e⟩ := dec_and e
  obtain ⟨e2, e⟩ := dec_and e
  obtain ⟨e3, e⟩ := dec_and e
  obtain ⟨e4, e⟩ := dec_and e
  obtain ⟨e5, e6⟩ := dec_and e
  obtain ⟨fd, F⟩ := c.def_ 68 (d := ⟨("Unkept", some "__init__"), "__init__", "Unkept.__init__", defArgs sUnkI, defBody sUnkI, defScope sUnkI, [], []⟩) rfl
  exact ⟨_, _, fd, He.glo_ok X G (c.fact 68 (f := .glo "Unkept") rfl), oexB_ok e1, xfB_ok e2, of_decide_eq_true e3, of_decide_eq_true e4, of_decide_eq_true e5, of_decide_eq_true e6, F⟩
theorem law_of (e : SaysX K) (X : K.In h) (G : h.Ns mainGlobals mg) : Dfn K mg "law" s_law ∧ Cal P w K mg base 26 "law" ["_law_script"] (spLaw K) := by
  have e' : obsX K = valX := e
  have e1 : exB K = true := congrArg Prod.fst e'
  have c : He.SaysD fa fn K := congrArg Prod.snd e'
  have hc : PySem.W.nsIn K mainGlobals "comb" = some (some (.builtin "math.comb")) := of_decide_eq_true (dec_and e1).1
  have B := bn_of c X G hc
  obtain ⟨C, fI, fdI, U⟩ := unk_of c X G e1
  have d_is_integer : Dfn K mg "is_integer" s_is_integer := dfn_of c X G 0 rfl rfl
  have d_is_number : Dfn K mg "is_number" s_is_number := dfn_of c X G 1 rfl rfl
  have d_is_natural : Dfn K mg "is_natural" s_is_natural := dfn_of c X G 2 rfl rfl
  have d_choose : Dfn K mg "choose" s_choose := dfn_of c X G 3 rfl rfl
  have d_capacity : Dfn K mg "capacity" s_capacity := dfn_of c X G 4 rfl rfl
  have d_up_to : Dfn K mg "up_to" s_up_to := dfn_of c X G 5 rfl rfl
  have d_is_pair : Dfn K mg "is_pair" s_is_pair := dfn_of c X G 6 rfl rfl
  have d_bound_fault : Dfn K mg "bound_fault" s_bound_fault := dfn_of c X G 7 rfl rfl
  have d_need_bounds : Dfn K mg "need_bounds" s_need_bounds := dfn_of c X G 8 rfl rfl
  have d_all_versions : Dfn K mg "all_versions" s_all_versions := dfn_of c X G 9 rfl rfl
  have d_falling : Dfn K mg "falling" s_falling := dfn_of c X G 10 rfl rfl
  have d_row_after : Dfn K mg "row_after" s_row_after := dfn_of c X G 11 rfl rfl
  have d_step_of : Dfn K mg "step_of" s_step_of := dfn_of c X G 12 rfl rfl
  have d_near_elder : Dfn K mg "near_elder" s_near_elder := dfn_of c X G 13 rfl rfl
  have d_walked : Dfn K mg "walked" s_walked := dfn_of c X G 14 rfl rfl
  have d_goes_above : Dfn K mg "goes_above" s_goes_above := dfn_of c X G 15 rfl rfl
  have d_is_row : Dfn K mg "is_row" s_is_row := dfn_of c X G 16 rfl rfl
  have d_merged : Dfn K mg "merged" s_merged := dfn_of c X G 17 rfl rfl
  have d_stepped : Dfn K mg "stepped" s_stepped := dfn_of c X G 18 rfl rfl
  have d__check_row : Dfn K mg "_check_row" s__check_row := dfn_of c X G 19 rfl rfl
  have d__greatest_member : Dfn K mg "_greatest_member" s__greatest_member := dfn_of c X G 20 rfl rfl
  have d_number_of : Dfn K mg "number_of" s_number_of := dfn_of c X G 21 rfl rfl
  have d_row_of : Dfn K mg "row_of" s_row_of := dfn_of c X G 22 rfl rfl
  have d__rows_within : Dfn K mg "_rows_within" s__rows_within := dfn_of c X G 23 rfl rfl
  have d_weights_of : Dfn K mg "weights_of" s_weights_of := dfn_of c X G 24 rfl rfl
  have d_forest_weight : Dfn K mg "forest_weight" s_forest_weight := dfn_of c X G 25 rfl rfl
  have d_fits_level : Dfn K mg "fits_level" s_fits_level := dfn_of c X G 26 rfl rfl
  have d_least_reach : Dfn K mg "least_reach" s_least_reach := dfn_of c X G 27 rfl rfl
  have d_least_width : Dfn K mg "least_width" s_least_width := dfn_of c X G 28 rfl rfl
  have d_level_bounds : Dfn K mg "level_bounds" s_level_bounds := dfn_of c X G 29 rfl rfl
  have d_need_number : Dfn K mg "need_number" s_need_number := dfn_of c X G 30 rfl rfl
  have d_need_natural : Dfn K mg "need_natural" s_need_natural := dfn_of c X G 31 rfl rfl
  have d__counted : Dfn K mg "_counted" s__counted := dfn_of c X G 32 rfl rfl
  have d_plans_within : Dfn K mg "plans_within" s_plans_within := dfn_of c X G 33 rfl rfl
  have d_least_greatest : Dfn K mg "least_greatest" s_least_greatest := dfn_of c X G 34 rfl rfl
  have d_joined_all : Dfn K mg "joined_all" s_joined_all := dfn_of c X G 35 rfl rfl
  have d_joined_many : Dfn K mg "joined_many" s_joined_many := dfn_of c X G 36 rfl rfl
  have d_is_shape : Dfn K mg "is_shape" s_is_shape := dfn_of c X G 37 rfl rfl
  have d__is_part : Dfn K mg "_is_part" s__is_part := dfn_of c X G 38 rfl rfl
  have d__check_shape : Dfn K mg "_check_shape" s__check_shape := dfn_of c X G 39 rfl rfl
  have d__size : Dfn K mg "_size" s__size := dfn_of c X G 40 rfl rfl
  have d_shape_size : Dfn K mg "shape_size" s_shape_size := dfn_of c X G 41 rfl rfl
  have d__weight : Dfn K mg "_weight" s__weight := dfn_of c X G 42 rfl rfl
  have d_shape_weight : Dfn K mg "shape_weight" s_shape_weight := dfn_of c X G 43 rfl rfl
  have d__depth : Dfn K mg "_depth" s__depth := dfn_of c X G 44 rfl rfl
  have d_shape_depth : Dfn K mg "shape_depth" s_shape_depth := dfn_of c X G 45 rfl rfl
  have d_shape_fits : Dfn K mg "shape_fits" s_shape_fits := dfn_of c X G 46 rfl rfl
  have d_shape_reach : Dfn K mg "shape_reach" s_shape_reach := dfn_of c X G 47 rfl rfl
  have d_is_heights : Dfn K mg "is_heights" s_is_heights := dfn_of c X G 48 rfl rfl
  have d_bases_by : Dfn K mg "bases_by" s_bases_by := dfn_of c X G 49 rfl rfl
  have d_wall_in : Dfn K mg "wall_in" s_wall_in := dfn_of c X G 50 rfl rfl
  have d_rows_of : Dfn K mg "rows_of" s_rows_of := dfn_of c X G 51 rfl rfl
  have d_walk_heights : Dfn K mg "walk_heights" s_walk_heights := dfn_of c X G 52 rfl rfl
  have d_top_of : Dfn K mg "top_of" s_top_of := dfn_of c X G 53 rfl rfl
  have d_can_keep : Dfn K mg "can_keep" s_can_keep := dfn_of c X G 54 rfl rfl
  have d_plan_for : Dfn K mg "plan_for" s_plan_for := dfn_of c X G 55 rfl rfl
  have d__law_hand : Dfn K mg "_law_hand" s__law_hand := dfn_of c X G 56 rfl rfl
  have d__law_take : Dfn K mg "_law_take" s__law_take := dfn_of c X G 57 rfl rfl
  have d__law_tree : Dfn K mg "_law_tree" s__law_tree := dfn_of c X G 58 rfl rfl
  have d__law_same : Dfn K mg "_law_same" s__law_same := dfn_of c X G 59 rfl rfl
  have d__law_choose : Dfn K mg "_law_choose" s__law_choose := dfn_of c X G 60 rfl rfl
  have d__law_is_plan : Dfn K mg "_law_is_plan" s__law_is_plan := dfn_of c X G 61 rfl rfl
  have d__law_within : Dfn K mg "_law_within" s__law_within := dfn_of c X G 62 rfl rfl
  have d__law_line : Dfn K mg "_law_line" s__law_line := dfn_of c X G 63 rfl rfl
  have d__law_short : Dfn K mg "_law_short" s__law_short := dfn_of c X G 64 rfl rfl
  have d__law_any : Dfn K mg "_law_any" s__law_any := dfn_of c X G 65 rfl rfl
  have d__law_far : Dfn K mg "_law_far" s__law_far := dfn_of c X G 66 rfl rfl
  have d_law : Dfn K mg "law" s_law := dfn_of c X G 67 rfl rfl
  have c_is_integer := ok_is_integer (P := P) (w := w) (base := base) d_is_integer B 
  have c_is_number := ok_is_number (P := P) (w := w) (base := base) d_is_number B c_is_integer
  have c_is_natural := ok_is_natural (P := P) (w := w) (base := base) d_is_natural B c_is_integer
  have c_up_to := ok_up_to (P := P) (w := w) (base := base) d_up_to B c_is_natural
  have c_choose := ok_choose (P := P) (w := w) (base := base) d_choose B c_is_number
  have c_capacity := ok_capacity (P := P) (w := w) (base := base) d_capacity B c_is_natural
  have c_need_number := ok_need_number (P := P) (w := w) (base := base) d_need_number B c_is_number
  have c_need_natural := ok_need_natural (P := P) (w := w) (base := base) d_need_natural B c_is_natural
  have c_is_pair := ok_is_pair (P := P) (w := w) (base := base) d_is_pair B 
  have c_falling := ok_falling (P := P) (w := w) (base := base) d_falling B 
  have c_row_after := ok_row_after (P := P) (w := w) (base := base) d_row_after B 
  have c_step_of := ok_step_of (P := P) (w := w) (base := base) d_step_of B c_row_after c_falling
  have c_is_row := ok_is_row (P := P) (w := w) (base := base) d_is_row B c_is_natural
  have c_merged := ok_merged (P := P) (w := w) (base := base) d_merged B c_falling c_is_row
  have c_stepped := ok_stepped (P := P) (w := w) (base := base) d_stepped B c_row_after c_is_natural c_is_row
  have c__check_row := ok__check_row (P := P) (w := w) (base := base) d__check_row B c_is_natural c_is_row
  have c_number_of := ok_number_of (P := P) (w := w) (base := base) d_number_of B c__check_row
  have c__greatest_member := ok__greatest_member (P := P) (w := w) (base := base) d__greatest_member B 
  have c_row_of := ok_row_of (P := P) (w := w) (base := base) d_row_of B c_is_natural c_is_number c__greatest_member
  have c__rows_within := ok__rows_within (P := P) (w := w) (base := base) d__rows_within B c_stepped c_merged
  have c_forest_weight := ok_forest_weight (P := P) (w := w) (base := base) d_forest_weight B c__rows_within c_number_of c_is_natural
  have c_least_reach := ok_least_reach (P := P) (w := w) (base := base) d_least_reach B c__rows_within c_is_natural
  have c_fits_level := ok_fits_level (P := P) (w := w) (base := base) d_fits_level B c_is_natural c_forest_weight c_capacity
  have c_least_width := ok_least_width (P := P) (w := w) (base := base) d_least_width B c_is_natural c_least_reach
  have c_weights_of := ok_weights_of (P := P) (w := w) (base := base) d_weights_of B c__rows_within c_is_natural c_number_of
  have c_level_bounds := ok_level_bounds (P := P) (w := w) (base := base) d_level_bounds B c_up_to
  have c_all_versions := ok_all_versions (P := P) (w := w) (base := base) d_all_versions B 
  have c_bound_fault := ok_bound_fault (P := P) (w := w) (base := base) d_bound_fault B c_is_pair c_up_to
  have c_need_bounds := ok_need_bounds (P := P) (w := w) (base := base) d_need_bounds B c_bound_fault
  have c_near_elder := ok_near_elder (P := P) (w := w) (base := base) d_near_elder B 
  have c_walked := ok_walked (P := P) (w := w) (base := base) d_walked B c_step_of c_near_elder
  have c_goes_above := ok_goes_above (P := P) (w := w) (base := base) d_goes_above B c_walked
  have c_rows_of := ok_rows_of (P := P) (w := w) (base := base) d_rows_of B c_need_bounds c_walked c_all_versions
  have c_walk_heights := ok_walk_heights (P := P) (w := w) (base := base) d_walk_heights B c_rows_of
  have c_top_of := ok_top_of (P := P) (w := w) (base := base) d_top_of B c_rows_of
  have c_can_keep := ok_can_keep (P := P) (w := w) (base := base) d_can_keep B c_need_bounds c_goes_above c_all_versions
  have c_wall_in := ok_wall_in (P := P) (w := w) (base := base) d_wall_in B c_need_bounds c_all_versions c_goes_above
  have c_is_heights := ok_is_heights (P := P) (w := w) (base := base) d_is_heights B c_is_natural
  have c_bases_by := ok_bases_by (P := P) (w := w) (base := base) d_bases_by B c_is_heights
  have c_plan_for := ok_plan_for (P := P) (w := w) (base := base) d_plan_for B c_walk_heights c_wall_in c_bases_by
  have c__law_same := ok__law_sameI (P := P) (w := w) (base := base) d__law_same B 
  have c__law_same := ok__law_same (P := P) (w := w) (base := base) d__law_same B c__law_same
  have h__law_same := ok__law_sameIH (P := P) (w := w) (base := base) d__law_same B 
  have h__law_same := ok__law_sameH (P := P) (w := w) (base := base) d__law_same B h__law_same
  have x_plan_for := ok_plan_forX (P := P) (w := w) (base := base) d_plan_for B c_walk_heights c_wall_in c_bases_by U
  have c__counted := counted_all (P := P) (w := w) (base := base) d__counted B 21
  have c_plans_within := ok_plans_within (P := P) (w := w) (base := base) d_plans_within B c_need_number c__counted
  have c_least_greatest := ok_least_greatest (P := P) (w := w) (base := base) d_least_greatest B c_need_number c_need_natural c_choose
  have c_joined_many := ok_joined_many (P := P) (w := w) (base := base) d_joined_many B c_row_of c_merged c_number_of c_is_natural c_is_number
  have c_joined_all := ok_joined_all (P := P) (w := w) (base := base) d_joined_all B c_merged c_number_of c_is_natural c_row_of c_is_number
  have c__is_part := Dfn.bot (P := P) (w := w) (base := base) d__is_part sc__is_part (fun _ _ _ _ _ _ us hl => match us, hl with | [_], _ => rfl)
  have c_is_shape := ok_is_shapeZ (P := P) (w := w) (base := base) d_is_shape B c__is_part
  have c__is_part := ok__is_part (P := P) (w := w) (base := base) d__is_part B c_is_natural c_is_shape
  have c_is_shape := ok_is_shape (P := P) (w := w) (base := base) d_is_shape B c__is_part
  have c__check_shape := ok__check_shape (P := P) (w := w) (base := base) d__check_shape B c_is_shape
  have c__size := Dfn.bot (P := P) (w := w) (base := base) d__size sc__size (fun _ _ _ _ _ _ us hl => match us, hl with | [_], _ => rfl)
  have c__size := ok__sizeZ (P := P) (w := w) (base := base) d__size B c__size
  have c__size := ok__size (P := P) (w := w) (base := base) d__size B c__size
  have c_shape_size := ok_shape_size (P := P) (w := w) (base := base) d_shape_size B c__check_shape c__size
  have c__weight := Dfn.bot (P := P) (w := w) (base := base) d__weight sc__weight (fun _ _ _ _ _ _ us hl => match us, hl with | [_, _], _ => rfl)
  have c__weight := ok__weightZ (P := P) (w := w) (base := base) d__weight B c_joined_all c_joined_many c__weight
  have c__weight := ok__weight (P := P) (w := w) (base := base) d__weight B c_joined_all c_joined_many c__weight
  have c_shape_weight := ok_shape_weight (P := P) (w := w) (base := base) d_shape_weight B c__check_shape c__weight c_is_natural
  have c__depth := Dfn.bot (P := P) (w := w) (base := base) d__depth sc__depth (fun _ _ _ _ _ _ us hl => match us, hl with | [_], _ => rfl)
  have c__depth := ok__depthZ (P := P) (w := w) (base := base) d__depth B c__depth
  have c__depth := ok__depth (P := P) (w := w) (base := base) d__depth B c__depth
  have c_shape_depth := ok_shape_depth (P := P) (w := w) (base := base) d_shape_depth B c__check_shape c__depth
  have c_shape_fits := ok_shape_fits (P := P) (w := w) (base := base) d_shape_fits B c__check_shape c_is_natural c__weight c_capacity
  have c_shape_reach := ok_shape_reach (P := P) (w := w) (base := base) d_shape_reach B c_row_of c_shape_weight
  have c__law_hand := ok__law_hand (P := P) (w := w) (base := base) d__law_hand B 
  have c__law_take := ok__law_take (P := P) (w := w) (base := base) d__law_take B 
  have c__law_choose := ok__law_choose (P := P) (w := w) (base := base) d__law_choose B 
  have c__law_tree := ok__law_tree (P := P) (w := w) (base := base) d__law_tree B c__law_take
  have c__law_is_plan := ok__law_is_plan (P := P) (w := w) (base := base) d__law_is_plan B 
  have c__law_within := ok__law_within (P := P) (w := w) (base := base) d__law_within B 
  have c__law_short := ok__law_short (P := P) (w := w) (base := base) d__law_short B c__law_same c_plan_for c_wall_in c_plans_within U x_plan_for h__law_same
  have c__law_any := ok__law_any (P := P) (w := w) (base := base) d__law_any B c_level_bounds c_can_keep c_wall_in c__law_same c_fits_level
  have c__law_far := ok__law_far (P := P) (w := w) (base := base) d__law_far B c_row_of c__law_same c__law_choose c_shape_depth c_shape_fits c_shape_size c_shape_weight c_shape_reach c_least_greatest
  have k_plan_for := Dfn.calK (ks := ["bounds", "history"]) d_plan_for c_plan_for (fun _ _ _ _ _ _ us hl => match us, hl with | [_, _], _ => rfl)
  have k_fits_level := Dfn.calK (ks := ["reach", "width", "history"]) d_fits_level c_fits_level (fun _ _ _ _ _ _ us hl => match us, hl with | [_, _, _], _ => rfl)
  have k_top_of := Dfn.calK (ks := ["bounds", "history"]) d_top_of c_top_of (fun _ _ _ _ _ _ us hl => match us, hl with | [_, _], _ => rfl)
  have c__law_line := ok__law_line (P := P) (w := w) (base := base) d__law_line B c_level_bounds c__law_same c__law_short c_weights_of c__law_is_plan c__law_within c_can_keep c_fits_level c_least_reach c_least_width k_plan_for k_fits_level k_top_of
  have k_capacity := Dfn.calK (ks := ["reach", "width"]) d_capacity c_capacity (fun _ _ _ _ _ _ us hl => match us, hl with | [_, _], _ => rfl)
  have c_law := ok_law (P := P) (w := w) (base := base) d_law B c__law_hand c__law_choose c__law_tree c__law_far c__law_take c__law_any c__law_same c__law_line c_capacity k_capacity
  exact ⟨d_law, c_law⟩
end
theorem fin_walk {l : PySem.W.OpenLaw} {q : Program} {loose : List Str} {XP : (Str → Option Value) → Heap → Prop} {YP : World → Heap → Prop} {d : DefRec} {K : Params → PySem.W.Frag} (hn : l.most = some 63) (hdf : d.params.defaults = []) (hnm : d.name = "law")
    (hY : ∀ (w : World) (h : Heap), YP w h → (K w.params).In h) (hS : ∀ w : World, SaysX (K w.params)) : PySem.W.WalkO q loose XP YP l.row.toRowW d [] (fun f vs => PySem.call f vs) := by
  refine L2.walk_of (n := 63) (k := 26) (CX := fun _ => CX0) (sp := fun w => spLaw (K w.params)) (x := "_law_script") hn (sz_ok (by decide)) hdf ⟨rfl, by decide, by decide⟩ hY (fun w mg fa h X G hmg => ?_) (fun w H a ns _ _ ha => ⟨a, ns, rfl, ha, fun _ => rfl⟩) (fun _ _ _ _ _ z => z)
  rw [hnm] at hmg
  obtain ⟨D, _⟩ := law_of (P := l.prog) (w := w) (base := h) (hS w) X G
  obtain ⟨f0, fd0, g0, F0⟩ := D.ex
  have ef : f0 = fa := by
    rw [g0] at hmg
    injection hmg with e
    injection e
  subst ef
  obtain ⟨oc', od', dV, kV, doc, pm, an, cdv, ct, osl', efd, lk', _, hd, _⟩ := F0.ex
  have edV : dV = .none := by
    rcases hd with h | h
    · exact h.2
    · exact absurd rfl h.1
  subst edV
  refine ⟨fd0, fun s u => .of_eq ?_, fun base XB GB => ?_⟩
  · rw [efd]
    rfl
  · obtain ⟨_, c⟩ := law_of (P := l.prog) (w := w) (base := base) (hS w) X G
    obtain ⟨f, fd, gm, F, b, kp, oc, od, osl, lk⟩ := c.ex
    have ef : f = f0 := by
      rw [gm] at hmg
      injection hmg with e
      injection e
    subst ef
    have e2 : fd = fd0 := by
      rw [lk] at lk'
      injection lk' with e
      injection e with _ _ e3 _
      injection e3
    subst e2
    exact F
end K67
open PySem PySem.W PyProof.Rows
set_option maxRecDepth 100000 in
set_option maxHeartbeats 0 in
theorem PySem.Challenge.cw_sincemarks_k67_whole_capacity_and_lines_holds : PySem.Challenge.rw_sincemarks_k67_whole_capacity_and_lines.Holds := by
  w_on; o_law; k_head; (case hw => w_witness2)
  k_fill
  refine K67.fin_walk (l := PySem.Challenge.rw_sincemarks_k67_whole_capacity_and_lines) rfl rfl rfl (fun w h Y => PySem.W.kIn_of Y) ?hS
  case hS =>
    intro w
    show K67.obsX _ = K67.valX
    kernel_rfl
