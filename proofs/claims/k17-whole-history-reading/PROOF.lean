import PyProof.Rows.All
import Wide.All
import OpenK.AllK
import Wide.FinOn
import KE.KStateDown
import KE.KExcSuper
import Lean
import HandS.ForExc
import HandS.ExcSuper
import HandS.ExcField
import PySem.Challenge.RW_scanpages_k17_whole_history_reading
import HandS.Evl
import HandS.Style
import HandS.TupAny
import HandS.IsInst
import HandS.HotCalls
import HandS.HeadNt
import HandS.More
import HandS.Words
import HandS.WordsExc
import HandS.Defaults
import HandS.Head0
import HandS.Head1
import HandS.Head2
import HandS.HeadEnd
import HandS.HeadHook1
import HandS.HeadHook2
set_option Elab.async false
set_option linter.all false
set_option maxRecDepth 100000
set_option maxHeartbeats 4000000
/-! The mirror: what the two readers of a history do, as plain functions, and that what is read is written again. -/
namespace K17
def Oct (l : List Int) : Prop := ∀ x ∈ l, 0 ≤ x ∧ x < 256
theorem Oct.nil : Oct [] := fun _ h => by cases h
theorem Oct.app {a b : List Int} (ha : Oct a) (hb : Oct b) : Oct (a ++ b) := fun x h => (List.mem_append.mp h).elim (ha x) (hb x)
theorem Oct.one {a : Int} (h : 0 ≤ a ∧ a < 256) : Oct [a] := fun x m => by
  have e : x = a := by simpa using m
  rw [e]; exact h
theorem Oct.take {a : List Int} (n : Nat) (ha : Oct a) : Oct (a.take n) := fun x h => ha x (List.mem_of_mem_take h)
theorem Oct.drop {a : List Int} (n : Nat) (ha : Oct a) : Oct (a.drop n) := fun x h => ha x (List.mem_of_mem_drop h)
theorem Oct.get {a : List Int} (ha : Oct a) {i : Nat} {x : Int} (h : a[i]? = some x) : 0 ≤ x ∧ x < 256 := ha x (List.mem_of_getElem? h)
theorem drop_at {α : Type} {l : List α} {i : Nat} {x : α} (h : l[i]? = some x) : l.drop i = x :: l.drop (i + 1) := by
  obtain ⟨h1, h2⟩ := List.getElem?_eq_some_iff.mp h
  rw [← h2]
  exact List.drop_eq_getElem_cons h1
theorem at_lt {α : Type} {l : List α} {i : Nat} {x : α} (h : l[i]? = some x) : i < l.length := (List.getElem?_eq_some_iff.mp h).1
theorem take_next {α : Type} {l : List α} {i : Nat} {x : α} (h : l[i]? = some x) : l.take (i + 1) = l.take i ++ [x] := by
  rw [List.take_succ, h]; rfl

/-! ### numbers -/
inductive Rd where
  | ok (n : Int) (a : Nat)
  | bad (p : Nat)
def rdF (os : List Int) : Nat → Nat → Bool → Int → Int → Rd
  | 0, a, _, _, _ => .bad (a - 1)
  | f + 1, a, fst, n, w => match os[a]? with
    | none => .bad os.length
    | some o => if o < 128 then (if o = 0 ∧ fst = false then .bad a else .ok (n + w * o) (a + 1)) else rdF os f (a + 1) false (n + w * (o - 128)) (w * 128)
def rd (os : List Int) (s : Nat) : Rd := rdF os 5 s true 0 1
def ps (os : List Int) (s : Nat) : Rd := match rd os s with
  | .bad p => .bad p
  | .ok n a => if n = 0 then .bad s else .ok n a

def num (n : Nat) : List Int := if n < 128 then [(n : Int)] else ((128 + n % 128 : Nat) : Int) :: num (n / 128)
termination_by n
decreasing_by omega
theorem num_lt {n : Nat} (h : n < 128) : num n = [(n : Int)] := by rw [num, if_pos h]
theorem num_ge {n : Nat} (h : 128 ≤ n) : num n = ((128 + n % 128 : Nat) : Int) :: num (n / 128) := by
  rw [num, if_neg (by omega)]
theorem num_pos (n : Nat) : 0 < (num n).length := by
  by_cases h : n < 128
  · rw [num_lt h]; exact Nat.one_pos
  · rw [num_ge (by omega)]; exact Nat.succ_pos _
theorem num_len : ∀ (f n : Nat), n < 128 ^ (f + 1) → (num n).length ≤ f + 1
  | 0, n, h => by rw [num_lt (by simpa using h)]; exact Nat.le_refl _
  | f + 1, n, h => by
    by_cases h1 : n < 128
    · rw [num_lt h1]; simp
    · rw [num_ge (by omega)]
      have : n / 128 < 128 ^ (f + 1) := by
        rw [Nat.pow_succ] at h
        exact Nat.div_lt_of_lt_mul (by rw [Nat.mul_comm]; exact h)
      have := num_len f (n / 128) this
      simp only [List.length_cons]
      omega
theorem num_len5 {n : Nat} (h : n < 34359738368) : (num n).length ≤ 5 := num_len 4 n (by simpa using h)

theorem rdF_ok {os : List Int} (ho : Oct os) : ∀ (f a : Nat) (fst : Bool) (n w m : Int) (b : Nat), rdF os f a fst n w = .ok m b →
    ∃ d : Nat, m = n + w * d ∧ (fst = false → d ≠ 0) ∧ d < 128 ^ f ∧ os.drop a = num d ++ os.drop b ∧ a < b ∧ b ≤ os.length
  | 0, a, fst, n, w, m, b, h => by cases h
  | f + 1, a, fst, n, w, m, b, h => by
    rw [rdF] at h
    cases e : os[a]? with
    | none => rw [e] at h; cases h
    | some o =>
      rw [e] at h
      have ob := ho.get e
      have lt := at_lt e
      simp only at h
      by_cases c : o < 128
      · rw [if_pos c] at h
        by_cases c2 : o = 0 ∧ fst = false
        · rw [if_pos c2] at h; cases h
        · rw [if_neg c2] at h
          injection h with h1 h2
          subst h2
          obtain ⟨d, hd⟩ : ∃ d : Nat, o = d := ⟨o.toNat, by omega⟩
          subst hd
          refine ⟨d, h1.symm, fun hf hz => c2 ⟨by omega, hf⟩, ?_, ?_, by omega, by omega⟩
          · have : 128 ^ 1 ≤ 128 ^ (f + 1) := Nat.pow_le_pow_right (by decide) (by omega)
            omega
          · rw [num_lt (by omega), drop_at e]; rfl
      · rw [if_neg c] at h
        obtain ⟨d, h1, h2, h3, h4, h5, h6⟩ := rdF_ok ho f (a + 1) false _ _ m b h
        have hd := h2 rfl
        obtain ⟨q, hq⟩ : ∃ q : Nat, o = 128 + q := ⟨(o - 128).toNat, by omega⟩
        refine ⟨q + 128 * d, ?_, fun _ => by omega, ?_, ?_, by omega, h6⟩
        · rw [h1, hq]
          have e1 : ((q + 128 * d : Nat) : Int) = (q : Int) + 128 * (d : Int) := by omega
          rw [e1, show (128 : Int) + q - 128 = q by omega, Int.mul_add, ← Int.mul_assoc, Int.add_assoc]
        · rw [Nat.pow_succ]
          omega
        · rw [num_ge (by omega), drop_at e, h4]
          have e1 : (q + 128 * d) % 128 = q := by omega
          have e2 : (q + 128 * d) / 128 = d := by omega
          rw [e1, e2, hq]
          have e3 : ((128 + q : Nat) : Int) = 128 + (q : Int) := by omega
          rw [e3]; rfl
theorem rd_ok {os : List Int} (ho : Oct os) {s : Nat} {m : Int} {b : Nat} (h : rd os s = .ok m b) : ∃ d : Nat, m = d ∧ d < 34359738368 ∧ os.drop s = num d ++ os.drop b ∧ s < b ∧ b ≤ os.length := by
  obtain ⟨d, h1, _, h3, h4, h5, h6⟩ := rdF_ok ho 5 s true 0 1 m b h
  exact ⟨d, by rw [h1]; omega, by simpa using h3, h4, h5, h6⟩
theorem ps_ok {os : List Int} (ho : Oct os) {s : Nat} {m : Int} {b : Nat} (h : ps os s = .ok m b) : ∃ d : Nat, m = d ∧ 0 < d ∧ d < 34359738368 ∧ os.drop s = num d ++ os.drop b ∧ s < b ∧ b ≤ os.length := by
  unfold ps at h
  cases e : rd os s with
  | bad p => rw [e] at h; cases h
  | ok n a =>
    rw [e] at h
    simp only at h
    by_cases c : n = 0
    · rw [if_pos c] at h; cases h
    · rw [if_neg c] at h
      injection h with h1 h2
      subst h1 h2
      obtain ⟨d, h1, h2, h3, h4, h5⟩ := rd_ok ho e
      exact ⟨d, h1, by omega, h2, h3, h4, h5⟩

/-! ### steps -/
inductive Step where
  | keep (n : Int)
  | drop (n : Int)
  | add (xs : List Int)
def cnt : Step → Int
  | .keep n => n
  | .drop n => n
  | .add _ => 0
def alen : Step → Nat
  | .add xs => xs.length
  | _ => 0
def dcnt : Step → Int
  | .drop n => n
  | _ => 0
def code : Step → Int
  | .keep _ => 0
  | .drop _ => 1
  | .add _ => 2
def eStp : Step → List Int
  | .keep n => 0 :: num n.toNat
  | .drop n => 1 :: num n.toNat
  | .add xs => 2 :: (num xs.length ++ xs)
/-- what a step that was read is -/
def SOk : Step → Prop
  | .keep n => 1 ≤ n ∧ n < 34359738368
  | .drop n => 1 ≤ n ∧ n < 34359738368
  | .add xs => xs.length < 34359738368 ∧ Oct xs
theorem SOk.cnt {s : Step} (h : SOk s) : 0 ≤ cnt s := by
  cases s with
  | keep n => have := h.1; show 0 ≤ n; omega
  | drop n => have := h.1; show 0 ≤ n; omega
  | add xs => exact Int.le_refl _
inductive St1 where
  | ok (s : Step) (a : Nat)
  | bad (p : Nat)
def stp (os : List Int) (a : Nat) (before left : Int) : St1 := match os[a]? with
  | none => .bad os.length
  | some c => if c > 2 ∨ c = before ∨ (c = 1 ∧ before = 2) then .bad a else
    match ps os (a + 1) with
    | .bad p => .bad p
    | .ok n b => if c = 2 then (if (b : Int) + n > os.length then .bad os.length else .ok (.add ((os.drop b).take n.toNat)) (b + n.toNat))
      else if n > left then .bad a else .ok (if c = 0 then .keep n else .drop n) b
theorem stp_ok {os : List Int} (ho : Oct os) {a : Nat} {before left : Int} {s : Step} {b : Nat} (hl : 0 ≤ left) (h : stp os a before left = .ok s b) :
    os.drop a = eStp s ++ os.drop b ∧ a < b ∧ b ≤ os.length ∧ SOk s ∧ cnt s ≤ left ∧ os[a]? = some (code s) := by
  unfold stp at h
  cases e : os[a]? with
  | none => rw [e] at h; cases h
  | some c =>
    rw [e] at h
    have cb := ho.get e
    simp only at h
    by_cases c1 : c > 2 ∨ c = before ∨ (c = 1 ∧ before = 2)
    · rw [if_pos c1] at h; cases h
    · rw [if_neg c1] at h
      cases e2 : ps os (a + 1) with
      | bad p => rw [e2] at h; cases h
      | ok n b' =>
        rw [e2] at h
        obtain ⟨d, h1, h2, h3, h4, h5, h6⟩ := ps_ok ho e2
        subst h1
        simp only at h
        by_cases c2 : c = 2
        · rw [if_pos c2] at h
          subst c2
          by_cases c3 : (b' : Int) + (d : Int) > os.length
          · rw [if_pos c3] at h; cases h
          · rw [if_neg c3] at h
            injection h with h7 h8
            subst h7 h8
            have ed : (d : Int).toNat = d := by omega
            have el : ((os.drop b').take d).length = d := by
              rw [List.length_take, List.length_drop]; omega
            refine ⟨?_, by omega, by omega, ?_, hl, rfl⟩
            · rw [drop_at e, h4, ed]
              show _ = 2 :: (num ((os.drop b').take d).length ++ (os.drop b').take d) ++ os.drop (b' + d)
              rw [el]
              have : os.drop b' = (os.drop b').take d ++ os.drop (b' + d) := by
                rw [← List.drop_drop, List.take_append_drop]
              rw [List.cons_append, List.append_assoc, ← this]
            · rw [ed]
              exact ⟨by rw [el]; exact h3, (ho.drop b').take d⟩
        · rw [if_neg c2] at h
          by_cases c3 : (d : Int) > left
          · rw [if_pos c3] at h; cases h
          · rw [if_neg c3] at h
            injection h with h7 h8
            subst h8
            by_cases c4 : c = 0
            · rw [if_pos c4] at h7
              subst h7 c4
              refine ⟨?_, by omega, h6, ⟨by omega, by omega⟩, by show (d : Int) ≤ left; omega, rfl⟩
              rw [drop_at e, h4]; rfl
            · rw [if_neg c4] at h7
              have c5 : c = 1 := by omega
              subst h7 c5
              refine ⟨?_, by omega, h6, ⟨by omega, by omega⟩, by show (d : Int) ≤ left; omega, rfl⟩
              rw [drop_at e, h4]; rfl

/-! ### scripts -/
def csum : List Step → Int
  | [] => 0
  | s :: r => cnt s + csum r
def asum : List Step → Nat
  | [] => 0
  | s :: r => alen s + asum r
def dsum : List Step → Int
  | [] => 0
  | s :: r => dcnt s + dsum r
theorem csum_app (a b : List Step) : csum (a ++ b) = csum a + csum b := by
  induction a with
  | nil => simp [csum]
  | cons s r ih => simp only [List.cons_append, csum, ih]; omega
theorem asum_app (a b : List Step) : asum (a ++ b) = asum a + asum b := by
  induction a with
  | nil => simp [asum]
  | cons s r ih => simp only [List.cons_append, asum, ih]; omega
theorem csum_nn {l : List Step} (h : ∀ s ∈ l, 0 ≤ cnt s) : 0 ≤ csum l := by
  induction l with
  | nil => exact Int.le_refl _
  | cons s r ih =>
    have h1 := h s List.mem_cons_self
    have h2 := ih fun x hx => h x (List.mem_cons_of_mem _ hx)
    show 0 ≤ cnt s + csum r
    omega
def eScr (l : List Step) : List Int := num l.length ++ l.flatMap eStp
inductive Sc1 where
  | ok (s : List Step) (a : Nat)
  | bad (p : Nat)
def scF (os : List Int) : Nat → Nat → Int → Int → List Step → Sc1
  | 0, a, _, left, acc => if left > 0 then .bad a else .ok acc a
  | k + 1, a, before, left, acc => match stp os a before left with
    | .bad p => .bad p
    | .ok s b => scF os k b (code s) (left - cnt s) (acc ++ [s])
def scr (os : List Int) (a : Nat) (size : Int) : Sc1 := match rd os a with
  | .bad p => .bad p
  | .ok n b => scF os n.toNat b (-1) size []
theorem eStp_len (s : Step) : alen s + 2 ≤ (eStp s).length := by
  cases s with
  | keep n => have := num_pos n.toNat; show 0 + 2 ≤ (0 :: num n.toNat).length; rw [List.length_cons]; omega
  | drop n => have := num_pos n.toNat; show 0 + 2 ≤ (1 :: num n.toNat).length; rw [List.length_cons]; omega
  | add xs => have := num_pos xs.length; show xs.length + 2 ≤ (2 :: (num xs.length ++ xs)).length; rw [List.length_cons, List.length_append]; omega
theorem flat_len (l : List Step) : asum l + 2 * l.length ≤ (l.flatMap eStp).length := by
  induction l with
  | nil => simp [asum]
  | cons s r ih =>
    have := eStp_len s
    rw [List.flatMap_cons, List.length_append, List.length_cons]
    show alen s + asum r + _ ≤ _
    omega
theorem scF_ok {os : List Int} (ho : Oct os) : ∀ (k a : Nat) (before left : Int) (acc st : List Step) (b : Nat), 0 ≤ left → a ≤ os.length → scF os k a before left acc = .ok st b →
    ∃ new, st = acc ++ new ∧ new.length = k ∧ os.drop a = new.flatMap eStp ++ os.drop b ∧ a ≤ b ∧ b ≤ os.length ∧ (∀ s ∈ new, SOk s) ∧ csum new = left
  | 0, a, before, left, acc, st, b, hl, ha, h => by
    rw [scF] at h
    by_cases c : left > 0
    · rw [if_pos c] at h; cases h
    · rw [if_neg c] at h
      injection h with h1 h2
      subst h1 h2
      exact ⟨[], by simp, rfl, by simp, Nat.le_refl _, ha, (fun s hs => by cases hs), by show (0 : Int) = left; omega⟩
  | k + 1, a, before, left, acc, st, b, hl, ha, h => by
    rw [scF] at h
    cases e : stp os a before left with
    | bad p => rw [e] at h; cases h
    | ok s b1 =>
      rw [e] at h
      obtain ⟨h1, h2, h3, h4, h5, h6⟩ := stp_ok ho hl e
      obtain ⟨new, g1, g2, g3, g4, g5, g6, g7⟩ := scF_ok ho k b1 (code s) (left - cnt s) (acc ++ [s]) st b (by omega) h3 h
      refine ⟨s :: new, by rw [g1]; simp, by rw [List.length_cons, g2], ?_, by omega, g5, ?_, ?_⟩
      · rw [h1, g3, List.flatMap_cons, List.append_assoc]
      · intro x hx
        rcases List.mem_cons.mp hx with e | hx
        · rw [e]; exact h4
        · exact g6 x hx
      · show cnt s + csum new = left
        omega
structure ScOk (size : Int) (st : List Step) : Prop where
  len : st.length < 34359738368
  all : ∀ s ∈ st, SOk s
  sum : csum st = size
theorem scr_ok {os : List Int} (ho : Oct os) {a : Nat} {size : Int} {st : List Step} {b : Nat} (hs : 0 ≤ size) (h : scr os a size = .ok st b) :
    os.drop a = eScr st ++ os.drop b ∧ a < b ∧ b ≤ os.length ∧ ScOk size st ∧ a + st.length + asum st ≤ b := by
  unfold scr at h
  cases e : rd os a with
  | bad p => rw [e] at h; cases h
  | ok n b1 =>
    rw [e] at h
    obtain ⟨d, h1, h2, h3, h4, h5⟩ := rd_ok ho e
    subst h1
    obtain ⟨new, g1, g2, g3, g4, g5, g6, g7⟩ := scF_ok ho _ b1 (-1) size [] st b hs h5 h
    rw [List.nil_append] at g1
    subst g1
    have ed : (d : Int).toNat = d := by omega
    rw [ed] at g2
    have e1 : os.drop a = eScr st ++ os.drop b := by
      rw [h3, g3]
      unfold eScr
      rw [g2, List.append_assoc]
    refine ⟨e1, by omega, g5, ⟨by rw [g2]; exact h2, g6, g7⟩, ?_⟩
    have l1 := congrArg List.length e1
    have l2 := flat_len st
    unfold eScr at l1
    rw [List.length_append, List.length_append, List.length_drop, List.length_drop] at l1
    omega

/-! ### patch -/
def pt1 (old : List Int) (z : Int × List Int) : Step → Int × List Int
  | .add xs => (z.1, z.2 ++ xs)
  | .keep n => (z.1 + n, z.2 ++ (old.drop z.1.toNat).take n.toNat)
  | .drop n => (z.1 + n, z.2)
def ptF (old : List Int) (st : List Step) : Int × List Int := st.foldl (pt1 old) (0, [])
def ptc (old : List Int) (st : List Step) : List Int := (ptF old st).2
def szF (size : Int) : Step → Int
  | .keep _ => size
  | .drop n => size - n
  | .add xs => size + xs.length
theorem szF_all (st : List Step) : ∀ size : Int, st.foldl szF size = size - dsum st + asum st := by
  induction st with
  | nil => intro z; show z = z - 0 + ((0 : Nat) : Int); omega
  | cons s r ih =>
    intro z
    rw [List.foldl_cons, ih]
    show szF z s - dsum r + asum r = z - (dcnt s + dsum r) + ((alen s + asum r : Nat) : Int)
    cases s with
    | keep n => show z - dsum r + asum r = z - (0 + dsum r) + ((0 + asum r : Nat) : Int); omega
    | drop n => show z - n - dsum r + asum r = z - (n + dsum r) + ((0 + asum r : Nat) : Int); omega
    | add xs => show z + xs.length - dsum r + asum r = z - (0 + dsum r) + ((xs.length + asum r : Nat) : Int); omega
theorem pt_fst {old : List Int} (st : List Step) : ∀ z : Int × List Int, (st.foldl (pt1 old) z).1 = z.1 + csum st := by
  induction st with
  | nil => intro z; show z.1 = z.1 + 0; omega
  | cons s r ih =>
    intro z
    rw [List.foldl_cons, ih]
    show (pt1 old z s).1 + csum r = z.1 + (cnt s + csum r)
    cases s with
    | keep n => show z.1 + n + csum r = _; show _ = z.1 + (n + csum r); omega
    | drop n => show z.1 + n + csum r = _; show _ = z.1 + (n + csum r); omega
    | add xs => show z.1 + csum r = z.1 + (0 + csum r); omega
theorem ptF_fst (old : List Int) (st : List Step) : (ptF old st).1 = csum st := by
  unfold ptF
  rw [pt_fst]
  show 0 + csum st = _
  omega
theorem pt_len {old : List Int} (st : List Step) : ∀ z : Int × List Int, (∀ s ∈ st, 0 ≤ cnt s) → 0 ≤ z.1 → z.1 + csum st ≤ old.length → ((st.foldl (pt1 old) z).2.length : Int) = z.2.length + csum st - dsum st + asum st := by
  induction st with
  | nil => intro z _ _ _; show (z.2.length : Int) = z.2.length + 0 - 0 + ((0 : Nat) : Int); omega
  | cons s r ih =>
    intro z hc h0 hz
    have hs := hc s List.mem_cons_self
    have hr : ∀ x ∈ r, 0 ≤ cnt x := fun x hx => hc x (List.mem_cons_of_mem _ hx)
    have nn := csum_nn hr
    have hz' : z.1 + (cnt s + csum r) ≤ old.length := hz
    rw [List.foldl_cons]
    show _ = (z.2.length : Int) + (cnt s + csum r) - (dcnt s + dsum r) + ((alen s + asum r : Nat) : Int)
    cases s with
    | keep n =>
      have hn : 0 ≤ n := hs
      have hz2 : z.1 + (n + csum r) ≤ old.length := hz'
      rw [ih (pt1 old z (.keep n)) hr (by show 0 ≤ z.1 + n; omega) (by show z.1 + n + csum r ≤ _; omega)]
      show ((z.2 ++ (old.drop z.1.toNat).take n.toNat).length : Int) + csum r - dsum r + asum r = z.2.length + (n + csum r) - (0 + dsum r) + ((0 + asum r : Nat) : Int)
      rw [List.length_append, List.length_take, List.length_drop]
      omega
    | drop n =>
      have hn : 0 ≤ n := hs
      have hz2 : z.1 + (n + csum r) ≤ old.length := hz'
      rw [ih (pt1 old z (.drop n)) hr (by show 0 ≤ z.1 + n; omega) (by show z.1 + n + csum r ≤ _; omega)]
      show (z.2.length : Int) + csum r - dsum r + asum r = z.2.length + (n + csum r) - (n + dsum r) + ((0 + asum r : Nat) : Int)
      omega
    | add xs =>
      have hz2 : z.1 + (0 + csum r) ≤ old.length := hz'
      rw [ih (pt1 old z (.add xs)) hr h0 (by show z.1 + csum r ≤ _; omega)]
      show ((z.2 ++ xs).length : Int) + csum r - dsum r + asum r = z.2.length + (0 + csum r) - (0 + dsum r) + ((xs.length + asum r : Nat) : Int)
      rw [List.length_append]
      omega
theorem ptc_len {old : List Int} {st : List Step} (hc : ∀ s ∈ st, 0 ≤ cnt s) (hs : csum st = old.length) : ((ptc old st).length : Int) = old.length - dsum st + asum st := by
  unfold ptc ptF
  rw [pt_len st (0, []) hc (Int.le_refl _) (by show 0 + csum st ≤ _; omega)]
  show ((0 : Nat) : Int) + csum st - dsum st + asum st = _
  omega
theorem ptc_size {old : List Int} {st : List Step} (hc : ∀ s ∈ st, 0 ≤ cnt s) (hs : csum st = old.length) : st.foldl szF old.length = ((ptc old st).length : Int) := by
  rw [szF_all, ptc_len hc hs]
theorem dsum_nn {l : List Step} (h : ∀ s ∈ l, 0 ≤ cnt s) : 0 ≤ dsum l := by
  induction l with
  | nil => exact Int.le_refl _
  | cons s r ih =>
    have h1 := h s List.mem_cons_self
    have h2 := ih fun x hx => h x (List.mem_cons_of_mem _ hx)
    show 0 ≤ dcnt s + dsum r
    cases s with
    | keep n => show 0 ≤ 0 + dsum r; omega
    | drop n => have h3 : 0 ≤ n := h1; show 0 ≤ n + dsum r; omega
    | add xs => show 0 ≤ 0 + dsum r; omega
theorem ptc_le {old : List Int} {st : List Step} (hc : ∀ s ∈ st, 0 ≤ cnt s) (hs : csum st = old.length) : (ptc old st).length ≤ old.length + asum st := by
  have h1 := ptc_len hc hs
  have h2 := dsum_nn hc
  omega
theorem pt_oct {old : List Int} (ho : Oct old) (st : List Step) : ∀ z : Int × List Int, Oct z.2 → (∀ xs, Step.add xs ∈ st → Oct xs) → Oct (st.foldl (pt1 old) z).2 := by
  induction st with
  | nil => intro z hz _; exact hz
  | cons s r ih =>
    intro z hz hs
    rw [List.foldl_cons]
    refine ih _ ?_ fun xs hx => hs xs (List.mem_cons_of_mem _ hx)
    cases s with
    | keep n => exact hz.app ((ho.drop _).take _)
    | drop n => exact hz
    | add xs => exact hz.app (hs xs List.mem_cons_self)
theorem ptc_oct {old : List Int} (ho : Oct old) {st : List Step} (hs : ∀ xs, Step.add xs ∈ st → Oct xs) : Oct (ptc old st) := pt_oct ho st (0, []) Oct.nil hs

/-! ### histories -/
def ver (f : List Int) (scs : List (List Step)) : List Int := scs.foldl ptc f
theorem ver_more (f : List Int) (scs : List (List Step)) (s : List Step) : ver f (scs ++ [s]) = ptc (ver f scs) s := by
  unfold ver
  rw [List.foldl_append]; rfl
def Chain : List Int → List (List Step) → Prop
  | _, [] => True
  | old, s :: r => ScOk old.length s ∧ Chain (ptc old s) r
theorem chain_app : ∀ {old : List Int} {a : List (List Step)} {s : List Step}, Chain old a → ScOk (ver old a).length s → Chain old (a ++ [s])
  | old, [], s, _, h => ⟨h, True.intro⟩
  | old, x :: r, s, h, h2 => ⟨h.1, chain_app h.2 h2⟩
theorem chain_at : ∀ {old : List Int} {a : List (List Step)} {i : Nat} {s : List Step}, Chain old a → a[i]? = some s → ScOk (ver old (a.take i)).length s
  | old, x :: r, 0, s, h, e => by
    have e1 : x = s := Option.some.inj e
    subst e1
    exact h.1
  | old, x :: r, i + 1, s, h, e => by
    have e1 : r[i]? = some s := e
    exact chain_at (old := ptc old x) h.2 e1
  | old, [], i, s, h, e => by simp at e
inductive Hi1 where
  | ok (first : List Int) (scs : List (List Step))
  | bad (p : Nat)
def hiF (os first : List Int) : Nat → Nat → List Int → List (List Step) → Hi1
  | 0, a, _, acc => if a < os.length then .bad a else .ok first acc
  | k + 1, a, old, acc => match scr os a old.length with
    | .bad p => .bad p
    | .ok s b => hiF os first k b (ptc old s) (acc ++ [s])
def his (os : List Int) : Hi1 := match ps os 0 with
  | .bad p => .bad p
  | .ok c a => match rd os a with
    | .bad p => .bad p
    | .ok n b => if (b : Int) + n > os.length then .bad os.length else hiF os ((os.drop b).take n.toNat) (c - 1).toNat (b + n.toNat) ((os.drop b).take n.toNat) []
def eHis (f : List Int) (scs : List (List Step)) : List Int := num (scs.length + 1) ++ num f.length ++ f ++ scs.flatMap eScr
theorem hiF_ok {os first : List Int} (ho : Oct os) : ∀ (k a : Nat) (old : List Int) (acc : List (List Step)) (f : List Int) (scs : List (List Step)), a ≤ os.length → hiF os first k a old acc = .ok f scs →
    ∃ new, scs = acc ++ new ∧ new.length = k ∧ f = first ∧ os.drop a = new.flatMap eScr ∧ Chain old new
  | 0, a, old, acc, f, scs, ha, h => by
    rw [hiF] at h
    by_cases c : a < os.length
    · rw [if_pos c] at h; cases h
    · rw [if_neg c] at h
      injection h with h1 h2
      subst h1 h2
      exact ⟨[], by simp, rfl, rfl, by rw [List.drop_of_length_le (by omega)]; rfl, True.intro⟩
  | k + 1, a, old, acc, f, scs, ha, h => by
    rw [hiF] at h
    cases e : scr os a old.length with
    | bad p => rw [e] at h; cases h
    | ok s b =>
      rw [e] at h
      obtain ⟨h1, h2, h3, h4, h5⟩ := scr_ok ho (by omega) e
      obtain ⟨new, g1, g2, g3, g4, g5⟩ := hiF_ok ho k b (ptc old s) (acc ++ [s]) f scs h3 h
      exact ⟨s :: new, by rw [g1]; simp, by rw [List.length_cons, g2], g3, by rw [h1, g4, List.flatMap_cons], h4, g5⟩
theorem his_ok {os : List Int} (ho : Oct os) {f : List Int} {scs : List (List Step)} (h : his os = .ok f scs) :
    os = eHis f scs ∧ Chain f scs ∧ scs.length + 1 < 34359738368 ∧ f.length < 34359738368 := by
  unfold his at h
  cases e : ps os 0 with
  | bad p => rw [e] at h; cases h
  | ok c a =>
    rw [e] at h
    simp only at h
    obtain ⟨d, h1, h2, h3, h4, h5, h6⟩ := ps_ok ho e
    subst h1
    cases e2 : rd os a with
    | bad p => rw [e2] at h; cases h
    | ok n b =>
      rw [e2] at h
      simp only at h
      obtain ⟨m, g1, g2, g3, g4, g5⟩ := rd_ok ho e2
      subst g1
      by_cases c1 : (b : Int) + (m : Int) > os.length
      · rw [if_pos c1] at h; cases h
      · rw [if_neg c1] at h
        have em : (m : Int).toNat = m := by omega
        rw [em] at h
        obtain ⟨new, k1, k2, k3, k4, k5⟩ := hiF_ok ho _ (b + m) _ _ f scs (by omega) h
        rw [List.nil_append] at k1
        subst k1 k3
        have el : ((os.drop b).take m).length = m := by rw [List.length_take, List.length_drop]; omega
        have ek : scs.length + 1 = d := by omega
        refine ⟨?_, k5, by omega, by omega⟩
        unfold eHis
        rw [ek, el, ← k4]
        have e3 : os.drop b = (os.drop b).take m ++ os.drop (b + m) := by rw [← List.drop_drop, List.take_append_drop]
        rw [List.append_assoc, List.append_assoc, ← e3, ← g3, ← h4]
        rfl
end K17
set_option maxHeartbeats 4000000
/-! EncodingError: made by super().__init__(f"..") and self.position = position; skel/42's road, turned to a class over ValueError with a class between. -/
namespace K17
open PySem PySem.Spec PyProof.Rows L2
def top (i : Nat) : Stmt := PySem.Challenge.pw_scanpages_k17_whole_history_reading.main.body.getD i (.Pass ⟨0, 0, 0, 0⟩)
abbrev sEI : Stmt := inClass (top 6) 0
abbrev mainFile : Str := PySem.Challenge.pw_scanpages_k17_whole_history_reading.main.file
abbrev topNames := PySem.Challenge.pw_scanpages_k17_whole_history_reading.main.scope.names
/-- what the written part says of EncodingError, at C, and of its __init__, at fI -/
structure EncTxt (K : PySem.W.Frag) (mg : Str → Option Value) (C fI : Addr) : Prop where
  gC : mg "EncodingError" = some (.ref C)
  gS : mg "super" = none
  cls : ∃ nm q N bs bm sn sub ab col dd k0 k1 k2 k3 k5, K.lookup C = some (excClassObj nm q C N bs bm true sn sub ab col dd k0 k1 k2 k3 k5 "ValueError.__new__") ∧ PySem.HandSPX.refsVE bm = true
  sa : PySem.W.findIn K (.ref C) "__setattr__" = some (some (.builtin "object.__setattr__"))
  noN : PySem.W.findIn K (.ref C) "position" = some none
  iC : PySem.W.findIn K (.ref C) "__init__" = some (some (.ref fI))
  tI : PySem.W.typeIn K (.ref fI) = some (.type "function")
  kC : PySem.W.keepIn K (.ref C) = true
  exC : PySem.W.subIn K (.ref C) (.type "BaseException") = some true
  tyC : PySem.W.typeIn K (.ref C) = some (.type "type")
  te : PySem.W.exmOne K (.ref C) (.ref C) = some true
  xf : XfC K C
  th : PySem.W.nsIn K cStatics "thirdparty.any" = some none
  al : PySem.W.ks_superIn K C C "__init__" = some (some (.builtin "ValueError.__init__"))
  inV : PySem.W.subIn K (.ref C) (.type "ValueError") = some true
  mr : PySem.W.mroIn K C (.ref C) = some true
  fn : ∃ (oc : Value) (od : Option Addr) (kV doc pm : Value) (an : Option Addr) (cda : Addr) (ct : Value) (osl : Array (Option Value)) (cc : Addr),
    K.lookup fI = some ⟨oc, od, .func (PySem.W.ksFn "__init__" "EncodingError.__init__" (defArgs sEI) (defBody sEI) (defScope sEI) .none kV doc pm an (.ref cda) ct cc), osl⟩ ∧ PySem.W.codeIn K (.ref cda) "EncodingError.__init__" = true ∧
    (∃ cl cld csl, K.lookup cc = some ⟨cl, cld, .cell (some (.ref C)), csl⟩) ∧ ∃ ccl cdd vs ccs file tf, K.lookup cda = some ⟨ccl, cdd, .fields vs, ccs⟩ ∧ vs[2]? = some (.str file tf) ∧ (mainFile == file) = true
/-- what __init__ leaves of a fresh exception at x -/
structure EndI (h h' : Heap) (x C dx t1 : Addr) (v : Value) : Prop where
  keep : ∀ b o, b ≠ x → h.get? b = some o → h'.get? b = some o
  obj : h'.get? x = some { cls := .ref C, dict := some dx, data := .fields #[.ref t1, .none, .none, .none, .bool false, .none] }
  dbig : h.objs.size ≤ dx
  dne : dx ≠ x
  ns : h'.Ns1 dx (fun y => if y = "position" then some v else none)
section
open PySem.W PySem.Calls PySem.HandSPX
variable {w : World} {A : Around} {E : Value → Shared → Prop} {K : Frag} {mg : Str → Option Value} {C fI : Addr}
abbrev prog17 : Program := PySem.Challenge.pw_scanpages_k17_whole_history_reading
/-- ValueError.__init__ bound to the exception at e, called -/
theorem mw_call {u e t0 : Addr} {nm qn : Str} {N : Addr} {bs bm : List Value} {hdct : Bool} {sn : List Str} {sub : List Value} {ab : Bool} {col : Option Bool} {dd : Option Addr} {k0 k1 k2 k3 k5 : Option Value}
    {h : Heap} {g : Array GenState} {d : Drawn} {t : Nat} {os : OsState} {rest : List Value} {Q : Value → Shared → Prop}
    (hC : h.get? C = some (excClassObj nm qn C N bs bm hdct sn sub ab col dd k0 k1 k2 k3 k5 "ValueError.__new__")) (he : h.get? e = some (excO C t0)) (hu : h.get? u = some (kxs_mw "ValueError.__init__" e)) (hr : rest.length ≤ sizeLine)
    (hq : ∀ h' t1, (∀ b o, b ≠ e → h.get? b = some o → h'.get? b = some o) → h'.get? e = some (excO C t1) → Q .none ⟨h', g, d, t, os⟩) : wpAny (model prog17 w) A (call (.ref u) rest) Q E ⟨h, g, d, t, os⟩ := by
  refine wpAny_call (codeAny_of_tree ?_)
  show wpAny _ A.in1 (callAny (.ref u) ⟨rest, []⟩) _ _ _
  simp only [callAny]
  refine wpAny_bind (wpAny_load hu ?_)
  simp only [kxs_mw, (by decide : (Value.type "method-wrapper" == Value.type "method" || Value.type "method-wrapper" == Value.type "builtin_function_or_method" || Value.type "method-wrapper" == Value.type "method-wrapper") = true), if_true]
  refine KFB.if_so (by decide) (wpAny_bind (check_bound_init F.excBase_ValueError.toExcCallFacts hC he rfl (wpAny_bind (wpAny_pure (wpAny_pure ⟨plainId_quiet F.excBase_ValueError.init.plain _, codeAny_builtin F.excBase_ValueError.initEntry ?_⟩)))))
  exact exc_init_tree (cls := .ref C) (t0 := t0) (dv := none) (c2 := .none) (c3 := .none) (b4 := .bool false) he hr fun h' k1 e1 _ => hq h' _ k1 e1

theorem arg_one {M : Model} {s : Shared} {e : Expr} {env : Env} {pos : Pos} {Q : List Value → Shared → Prop} (h : wpAny M A (eval e env) (fun v s1 => Q [v] s1) E s) (he : starEach [e] env = (false, eval e env) :: starEach [] env := by rfl) :
    wpAny M A (spliced (backTo pos (starEach [e] env))) Q E s := by
  rw [he]
  show wpAny M A (spliced ((false, eval e env) :: backTo pos (starEach [] env))) Q E s
  exact Calls.spliced_cons (wpAny_mono h (fun v s1 q => Calls.spliced_nil q) fun _ _ z => z)
theorem enc_init (T : EncTxt K mg C fI) {s : Shared} {R : Result → Shared → Prop} {x t0 : Addr} {i : Int} {ti : Tok} (X : K.In s.heap) (G : s.heap.Ns mainGlobals mg) (B : ∃ mb, s.heap.Ns builtinsNs mb ∧ ∀ y : Str, y ≠ "__name__" → mb y = bootBuiltins y)
    (hlim : s.heap.NoLimit) (hi : i.natAbs.log2 < 1920) (hx : s.heap.get? x = some (excO C t0)) (hnx : K.lookup x = none) (hroom : A.depth < recursionLimit)
    (hq : ∀ h' tk dx t1, EndI s.heap h' x C dx t1 (.int i ti) → R (.ok (.ret .none)) { s with heap := h', toks := tk }) :
    codeAny (model prog17 w) A (.call (.ref fI) ⟨[.ref x, .int i ti], []⟩) R s := by
  obtain ⟨oc, od, kV, doc, pm, an, cda, ct, osl, cc, ho, hcd, ⟨cl, cld, csl, hcell⟩, ccl, cdd, vs, ccs, file, tf, hcode, hvs, hfile⟩ := T.fn
  obtain ⟨nm, q, N, bs, bm, sn, sub, ab, col, dd, k0, k1, k2, k3, k5, hC, hbm⟩ := T.cls
  obtain ⟨mb, B0, B1⟩ := B
  obtain ⟨hp, g, d, t, os⟩ := s
  have hcl : clsIn K C = some { name := nm, bases := bs, mro := .ref C :: bm, ns := N, qualname := q, hasDict := true, slotNames := sn, subclasses := sub, abstract := ab, collection := col, hasDel := false } := by unfold clsIn; rw [hC] <;> rfl
  refine ks_codeAny_call_defAt (fd := ksFn "__init__" "EncodingError.__init__" (defArgs sEI) (defBody sEI) (defScope sEI) .none kV doc pm an (.ref cda) ct cc) (body := defBody sEI) (binds := [("self", .ref x), ("position", .int i ti)])
    hroom (X _ _ ho) rfl hlim (codeRec_of X hcd) rfl (BindsTo.of_eq (by first | rfl | with_unfolding_all rfl)) (show ∀ y ∈ (defScope sEI).names, y.2 ≠ .cell by decide +kernel) (locs rfl) (fun h1 hns kp1 => ?_) rfl rfl rfl
  have X1 : K.In h1 := X.keeps kp1
  have hx1 := kp1 _ _ hx
  have I1 : InstAt h1 x (excO C t0) C none := ⟨hx1, rfl, rfl, trivial⟩
  refine ks_wpAt_execs_cons (ks_wpAt_Expr_any (ks_wpAt_MethodCall (ks_wpAt_super_base (f := fI) (cc := cda) (ar := { arg := "self", annotation := none, pos := ⟨15, 17, 15, 21⟩ }) rfl rfl (by decide) rfl (X1 _ _ ho) rfl rfl rfl (X1 _ _ hcode) rfl hvs hfile (by decide +kernel) ?_)))
  refine ks_loadName_global rfl rfl (loadGlobal_builtin (G.keeps kp1) T.gS (B0.keeps kp1) ((B1 _ (by decide +kernel)).trans (by decide +kernel : bootBuiltins "super" = some (.type "super"))) ⟨rfl, ?_⟩)
  refine wpAny_loadName_free rfl rfl rfl ⟨_, X1 _ _ hcell, rfl⟩ ?_
  refine wpAny_loadName_local (v := .ref x) rfl rfl hns (by first | rfl | with_unfolding_all rfl | kernel_rfl) ?_
  refine ks_wpAny_isType_cls (X1 _ _ hC) rfl ⟨rfl, ?_⟩
  refine ks_wpAny_call_super (X1 _ _ hC) rfl hx1 rfl (fun c e => by cases e) (looks_mroIn X1 T.mr) (fun h2 e2 kp2 => ?_)
  have X2 : K.In h2 := X1.keeps kp2
  have hx2 := kp2 _ _ hx1
  have I2 : InstAt h2 x (excO C t0) C none := ⟨hx2, rfl, rfl, trivial⟩
  have hal := T.al
  unfold ks_superIn at hal
  rw [hcl] at hal
  refine kxs_getMethod kxs_ValueError e2 (looks_opaque X2 T.th) (l₀ := .ref C :: bm) (fun A Q E s k q => wpAny_bind ((looks_clsIn X2 hcl) A _ E s k (wpAny_pure q))) rfl X2 hal (I2.type.andThen (looks_subIn X2 T.inV)) (ks_ne X2 I2 hcl) (by decide) ?_
  have hu3 : (h2.push (kxs_mw "ValueError.__init__" x)).get? h2.objs.size = some (kxs_mw "ValueError.__init__" x) := Heap.get?_push_size h2 rfl
  have kp3 : ∀ b o, h2.get? b = some o → (h2.push (kxs_mw "ValueError.__init__" x)).get? b = some o := fun b o e => Heap.get?_push_of_some _ e
  have hns3 := (hns.keeps kp2).keeps kp3
  have hx3 := kp3 _ _ hx2
  have hC3 := kp3 _ _ (X2 _ _ hC)
  have X3 : K.In (h2.push (kxs_mw "ValueError.__init__" x)) := X2.keeps kp3
  have old3 : ∀ b o, hp.get? b = some o → (h2.push (kxs_mw "ValueError.__init__" x)).get? b = some o := fun b o e => kp3 _ _ (kp2 _ _ (kp1 _ _ e))
  have hxL : hp.objs.size ≠ x := Nat.ne_of_gt (Heap.lt_size hx)
  refine kxs_callWith1 (h₀ := h2) (L := x) (u := h2.objs.size) (i := "ValueError.__init__") (x := x) (news := [(h2.objs.size, kxs_mw "ValueError.__init__" x)]) (fun p hp => ?_) (by simp) ?_
  · have e : p = (h2.objs.size, kxs_mw "ValueError.__init__" x) := by simpa using hp
    subst e
    exact ⟨hu3, Nat.ne_of_gt (Heap.lt_size hx2), Heap.get?_none_of_le (Nat.le_refl _)⟩
  refine arg_one (wpAny_JoinedStr ?_)
  refine Calls.Constant_str ⟨_, _, rfl, by decide +kernel, ?_⟩
  have fit : ((Str.empty ++ ("the octets cannot be read at index " : Str)) ++ Str.ofString (toString i)).length ≤ sizeLine := by
    have e1 := int_text_length_le (k := 1920) (by decide) hi
    rw [PySem.Str.length_append, PySem.ofString_length, sizeLine_eq]
    have e2 : (Str.empty ++ ("the octets cannot be read at index " : Str)).length = 35 := by decide +kernel
    rw [e2]
    omega
  refine wpAny_FormattedValue_plain (ESX.ldL (v := .int i ti) hns3 (by first | rfl | with_unfolding_all rfl | kernel_rfl) (wpAny_formatField_int hi ⟨_, _, rfl, fit, ?_⟩))
  refine ⟨fit, hu3, mw_call hC3 hx3 hu3 (by show 1 ≤ sizeLine; decide) fun h4 t1 kp4 hx4 => ?_⟩
  refine wpAt_of_wpAny ?_
  have X4 : K.In h4 := fun a o e => kp4 a o (fun z => by rw [z, hnx] at e; cases e) (X3 a o e)
  have hne : hp.objs.size ≠ x := hxL
  have hns4 : h4.Ns hp.objs.size _ := hns3.at fun o e => kp4 _ _ hne e
  -- self.position = position
  refine wpAny_execs_cons (plainObj_wpAny_Assign_Attribute ?_)
  refine ESX.ldL (v := .int i ti) hns4 (by first | rfl | with_unfolding_all rfl | kernel_rfl) (ESX.ldL (v := .ref x) hns4 (by first | rfl | with_unfolding_all rfl | kernel_rfl) ?_)
  refine set_plain X4 (ox := excO C t1) (od := none) ⟨hx4, rfl, rfl, trivial⟩ T.sa ?_
  refine exc_osa X4 hx4 hcl (show refsVE (.ref C :: bm) = true from hbm) rfl T.noN (fun h5 tk5 dx kp5 dn dne hx5 hn5 => ?_)
  refine wpAny_execs_nil (hq h5 tk5 dx t1 ⟨fun b o hb e => kp5 b o hb (kp4 b o hb (old3 b o e)), hx5, ?_, dne, hn5⟩)
  have z : hp.objs.size < h4.objs.size := hns4.lt
  exact Nat.le_of_lt (Nat.lt_of_lt_of_le z dn)
/-- a made EncodingError -/
structure Made (h h' : Heap) (e C d : Addr) (v : Value) : Prop where
  keep : ∀ b o, h.get? b = some o → h'.get? b = some o
  new : h.objs.size ≤ e
  obj : ∃ oe fv, h'.get? e = some oe ∧ oe.cls = .ref C ∧ oe.dict = some d ∧ oe.data = .fields fv ∧ fv[1]? = some .none
  dbig : h.objs.size ≤ d
  dne : d ≠ e
  ns : h'.Ns1 d (fun y => if y = "position" then some v else none)
theorem enc_made (T : EncTxt K mg C fI) {s : Shared} {R : Result → Shared → Prop} {i : Int} {ti : Tok} (X : K.In s.heap) (G : s.heap.Ns mainGlobals mg) (B : ∃ mb, s.heap.Ns builtinsNs mb ∧ ∀ y : Str, y ≠ "__name__" → mb y = bootBuiltins y)
    (hlim : s.heap.NoLimit) (hi : i.natAbs.log2 < 1920) (hroom : A.depth + 1 < recursionLimit) (hq : ∀ h' tk e d, Made s.heap h' e C d (.int i ti) → R (.ok (.ret (.ref e))) { s with heap := h', toks := tk }) :
    codeAny (model prog17 w) A (.call (.ref C) ⟨[.int i ti], []⟩) R s := by
  obtain ⟨nm, q, N, bs, bm, sn, sub, ab, col, dd, k0, k1, k2, k3, k5, hC, hbm⟩ := T.cls
  obtain ⟨mb, B0, B1⟩ := B
  obtain ⟨hp, g, d, t, os⟩ := s
  obtain ⟨G1, hG1⟩ : ∃ G1, G1 = (hp.push (kdv_tup [.int i ti])).push (excO C hp.objs.size) := ⟨_, rfl⟩
  have kp : ∀ b o, hp.get? b = some o → G1.get? b = some o := fun b o e => by
    rw [hG1]
    exact Heap.get?_push_of_some _ (Heap.get?_push_of_some _ e)
  have he : G1.get? (hp.objs.size + 1) = some (excO C hp.objs.size) := by rw [hG1]; heap_get
  have hnx : K.lookup (hp.objs.size + 1) = none := by
    cases e : K.lookup (hp.objs.size + 1) with
    | none => rfl
    | some o => exact absurd (Nat.lt_of_succ_lt (Heap.lt_size (show hp.get? (hp.objs.size + 1) = some o from X _ _ e))) (Nat.lt_irrefl _)
  refine call_own F.excBase_ValueError (fun Y => refsVE_contains Y bm hbm) (X _ _ hC) (looks_findIn X T.iC) (fun self => bind_fn X self T.tI) (by show 1 ≤ sizeLine; decide) ?_
  rw [← hG1]
  refine enc_init (s := ⟨G1, g, d, t, os⟩) T (X.keeps kp) (G.keeps kp) ⟨mb, B0.keeps kp, B1⟩ (hlim.keeps kp) hi he hnx ?_ fun h' tk' dx t1 J => ?_
  · show A.depth + 1 < recursionLimit
    exact hroom
  · have sz : G1.objs.size = hp.objs.size + 1 + 1 := by rw [hG1, Heap.size_push, Heap.size_push]
    have dn : G1.objs.size ≤ dx := J.dbig
    exact ⟨rfl, hq h' tk' (hp.objs.size + 1) dx ⟨fun b o e => J.keep b o (Nat.ne_of_lt (Nat.lt_succ_of_lt (Heap.lt_size e))) (kp b o e), Nat.le_succ _, ⟨_, _, J.obj, rfl, rfl, rfl, rfl⟩, (by show hp.objs.size ≤ dx; omega), J.dne, J.ns⟩⟩
end
section
variable {X : Cx} {C fI : Addr}
/-- EncodingError(e), e an int -/
def tMkE (C : Addr) (ta : TA) : L2.St → Hp → XK → Prop := fun σ H Q => ta σ H fun vs H1 => ∃ i : Int, vs = [.int i] ∧ i.natAbs.log2 < 1920 ∧ ∀ d, H1 d = none → Q (.ref C) (some d) (upd H1 d (.xd [(("position" : Str), .int i)]))
theorem relO_pos {v : V} {u : Value} (r : RelV v u) (f : Str) : RelO (List.lookup f [(("position" : Str), v)]) (if f = "position" then some u else none) := by
  by_cases hw : f = "position"
  · subst hw
    rw [if_pos rfl, show List.lookup ("position" : Str) [(("position" : Str), v)] = some v by simp [List.lookup]]
    exact r
  · rw [if_neg hw, show List.lookup f [(("position" : Str), v)] = none by simp [List.lookup, show (f == ("position" : Str)) = false by simpa using hw]]
    trivial
theorem pmk_enc {a : Expr} {ta : TA} {p pos : Pos} {k : Nat} (hP : X.prog = prog17) (T : EncTxt X.K X.mg C fI) (hr : Room k X.A) (ha : PA X [a] ta) (hg : Gl X "EncodingError")
    (he : starEach (a :: []) X.env = (false, eval a X.env) :: starEach [] X.env := by rfl) (hpl : (backTo pos (starEach [] X.env)).any (·.1) = false := by rfl) : PMk X (.Call (.Name "EncodingError" p) [a] [] pos) (tMkE C ta) := by
  intro pins s σ H Q I h
  refine wpAny_Call_Name_kw (ld_glob I hg T.gC ?_)
  refine PySem.W.callWith_K (h₀ := X.base) I.ok.mod.kin T.kC (thn (ha.run pos pins s σ H _ I h) fun us s1 hh => ?_) he hpl
  obtain ⟨vs, H1, I1, r1, i, ev, hi, q1⟩ := hh
  subst ev
  refine ⟨I1.kIn, ?_⟩
  cases r1 with
  | cons rv rn =>
    cases rn
    obtain ⟨ti, rfl⟩ := rv
    show wpAny _ _ (call (.ref C) [.int i ti]) _ _ _
    have hlim := I1.nolimit
    have X1 := I1.kIn
    have bk := I1.bk
    obtain ⟨mb, hb1, hb2⟩ := I1.mod.blt
    have G1 := I1.mod.glob.keeps bk
    have B1 := hb1.keeps bk
    obtain ⟨hp, g, dr, tk, os⟩ := s1
    rw [hP]
    refine wpAny_call (enc_made T X1 G1 ⟨mb, B1, hb2⟩ hlim hi (by have := hr.dp; omega) fun h' tk' e d M => ?_)
    show MkP X pins σ Q (.ref e) ⟨h', g, dr, tk', os⟩
    obtain ⟨oe, fv, hoe, hc, hd, hdat, h1⟩ := M.obj
    have hns := M.ns
    obtain ⟨G', g1, g2⟩ := restrict h' fun b => decide (b ≠ e)
    have gk : ∀ b, b ≠ e → G'.get? b = h'.get? b := fun b hb => g1 b (decide_eq_true hb)
    have ge : G'.get? e = none := g2 e (by simp)
    have old : ∀ b o, hp.get? b = some o → G'.get? b = some o := fun b o q => (gk b (Nat.ne_of_lt (Nat.lt_of_lt_of_le (Heap.lt_size q) M.new))).trans (M.keep b o q)
    have rv : RelV (V.int i) (Value.int i ti) := ⟨ti, rfl⟩
    have ob : ObjOk X.prog X.w (upd H1 d (.xd [(("position" : Str), V.int i)])) G' d (.xd [(("position" : Str), V.int i)]) :=
      ⟨_, hns.at (fun o q => (gk d M.dne).trans q), fun f => relO_pos rv f⟩
    have J : Inv X pins σ (upd H1 d (.xd [(("position" : Str), V.int i)])) ⟨G', g, dr, tk', os⟩ := I1.laid (t' := tk') old M.dbig ob
    refine ⟨e, oe, fv, ⟨G', g, dr, tk', os⟩, _, .ref C, some d, rfl, J, fun b o q => ?_, ge, hoe, ⟨hc, hd⟩, hdat, h1, ?_, rfl, I1.bare, raises_own T.exC T.tyC, q1 d (I1.hok.fresh M.dbig)⟩
    · by_cases hb : b = e
      · have q' : G'.get? b = some o := q
        rw [hb, ge] at q'; cases q'
      · exact (gk b hb).symm.trans q
    · rw [upd_ne (Ne.symm M.dne)]
      exact I1.hok.fresh M.new
/-- raise EncodingError(e) -/
def tRaiseE (C : Addr) (W : WX) (ta : TA) : TS := fun _ σ H => tMkE C ta σ H fun cls d H' => W cls d σ H'
theorem ps_raiseE {a : Expr} {ta : TA} {W : WX} {p pos pos2 : Pos} {k : Nat} (hP : X.prog = prog17) (hc : X.calm = true) (T : EncTxt X.K X.mg C fI) (hr : Room k X.A) (tk : Takes X W) (ha : PA X [a] ta) (hg : Gl X "EncodingError" := by rfl)
    (he : starEach (a :: []) X.env = (false, eval a X.env) :: starEach [] X.env := by rfl) (hpl : (backTo pos (starEach [] X.env)).any (·.1) = false := by rfl) :
    PS X (.Raise (some (.Call (.Name "EncodingError" p) [a] [] pos)) none pos2) (tRaiseE C W ta) := ps_raise hc tk (pmk_enc hP T hr ha hg he hpl)
end
end K17
set_option maxHeartbeats 4000000
namespace K17
open PySem PySem.Spec PyProof.Rows L2
abbrev St0 := L2.St
/-! ### the heap grows -/
abbrev Ex := Evl.Ex
theorem exU {H H' : Hp} (e : Ex H H') {a : Addr} {o : HO} (h : H a = some o) : H' a = some o := e a o h
/-- all but what stands at r -/
def Exb (r : Addr) (H H' : Hp) : Prop := ∀ b o, b ≠ r → H b = some o → H' b = some o
theorem Exb.of {r : Addr} {H H' : Hp} (e : Ex H H') : Exb r H H' := fun b o _ h => e b o h
theorem Exb.trans {r : Addr} {H H1 H2 : Hp} (a : Exb r H H1) (b : Exb r H1 H2) : Exb r H H2 := fun x o n h => b x o n (a x o n h)
theorem Exb.upd {r : Addr} {H : Hp} {o : HO} : Exb r H (upd H r o) := fun b u n h => by rw [upd_ne n]; exact h
/-- an object that H did not know may change -/
theorem Exb.fresh {r : Addr} {H H1 H' : Hp} (e : Ex H H1) (h : H r = none) (b : Exb r H1 H') : Ex H H' := fun a o q => b a o (ne_of_none q h) (e a o q)
/-! ### rules that the layer lacks -/
section
variable {X : Cx}
theorem pip_of {op : Operator} {r : R2} (ho : OpR X (inplaceOp op) r) : PIp X op r := fun pins s σ H x y v u Q I rx ry h => ho pins s σ H x y v u Q I rx ry h
/-- o.f = .. as a target -/
def gAttr (K : PySem.W.Frag) (f : Str) (to : TE) : TG := fun v σ H Q => to σ H fun x H1 => ∃ a C dx fs, x = .ref a ∧ H1 a = some (.ins C dx fs) ∧ Cls K C ∧ NoAttr K C f ∧ fs.length < 1000 ∧ Q σ (upd H1 a (.ins C dx (putF f v fs)))
theorem pg_attr {o : Expr} {to : TE} {f : Str} {pos : Pos} (ho : PE X o to) : PG X (.Attribute o f pos) (gAttr X.K f to) := by
  refine ⟨fun pins s σ H v u Q I r h => ?_⟩
  rw [assign_Attribute]
  refine wpAny_bind (wpAny_holding (thn (ho.run pins s σ H _ I h) fun ov s1 hh => wpAny_bind (wpAny_standAt (wpAny_bind (wpAny_holding ?_)))))
  obtain ⟨x, H1, I1, rx, a, C, dx, fs, ex, ea, c, n, l, q⟩ := hh
  subst ex
  obtain rfl : ov = Value.ref a := rx
  exact setattr_ok I1 ea c n l r fun s2 I2 => wpAny_release ⟨σ, _, I2, q⟩
/-- len of an instance by its own __len__ -/
theorem call_lenO {k : Nat} {C f : Addr} {fd : FuncData} {sp : Sp} (F : FnOk X.prog X.w X.K X.mg X.base CX0 k f fd ["self"] sp) (hr : Room (k + 1) X.A) (M : Meth X.K C "__len__" f) (hb : Binds X.K fd ["self"] []) :
    CallR X (.builtin "len") (fun xs H Q => ∃ a dx fs, xs = [.ref a] ∧ H a = some (.ins C dx fs) ∧ sp [.ref a] H (fun v H' => ∃ n : Int, v = .int n ∧ 0 ≤ n ∧ n < 2 ^ 63 ∧ Q (.int n) H') E0) := by
  intro pins s σ H xs us Q I r h
  obtain ⟨a, dx, fs, rfl, ha, hs⟩ := h
  obtain ⟨u, rfl, ru⟩ := vals1 r
  obtain rfl : u = Value.ref a := ru
  obtain ⟨mA, O, _⟩ := ins_get I.hok ha
  obtain ⟨od, J, _⟩ := O.look
  obtain ⟨m, hF⟩ := I.fr
  refine PySem.W.len_K hF I.mod.kin J M.at_ M.fn ?_
  have e0 : Env0 X.prog X.w X.K X.mg X.base X.A.in1 X.stack s H := I.env0.in1
  have b := hb s [.ref a] I.kIn rfl
  rw [List.append_nil] at b
  refine wpAny_call (codeAny_mono (F.run X.A.in1 X.stack s H ⟨[.ref a], []⟩ [.ref a] [.ref a] _ E0 hr.in1 e0 b (.cons rfl .nil) hs) fun r s' hq => ?_)
  cases r with
  | error e => exact hq.elim
  | ok fl =>
    cases fl with
    | ret w =>
      obtain ⟨v, H', I', rv, n, rfl, h0, h1, q⟩ := I.after hq
      obtain ⟨t, rfl⟩ := rv
      exact ⟨⟨h0, h1⟩, .int n, H', I'.tok _, ⟨_, rfl⟩, q⟩
    | next => exact False.elim hq
    | brk => exact False.elim hq
    | cont => exact False.elim hq
end
/-! ### a def that raises: what its callees raise goes on -/
section
variable {P : Program} {w : World} {K : PySem.W.Frag} {mg : Str → Option Value} {base : Heap} {N : List Str} {qual : Str} {scope : Scope} {f : Addr} {cd : Value} {A : Around} {outer : List Env} {s : Shared} {H : Hp} {E : XK}
theorem passE : Passes (L2.CX P w) (cxOf (L2.CX P w) P w K mg base N qual scope f cd A outer s H E) E := passes_call (takes_of rfl rfl rfl rfl) (fun _ _ _ _ h => h)
theorem ownE : PassesOwn (model P w) (cxOf (L2.CX P w) P w K mg base N qual scope f cd A outer s H E).A (cxOf (L2.CX P w) P w K mg base N qual scope f cd A outer s H E).env (cxOf (L2.CX P w) P w K mg base N qual scope f cd A outer s H E).xe := passes_of rfl
end
/-! ### a def called within an except suite, that raises nothing and walks nothing -/
structure FnHot (P : Program) (w : World) (K : PySem.W.Frag) (mg : Str → Option Value) (base : Heap) (k : Nat) (f : Addr) (fd : FuncData) (ps : List Str) (sp : Sp) : Prop where
  len : ∀ vs H Q E, sp vs H Q E → vs.length = ps.length
  run : ∀ (A : Around) (outer : List Env) (s : Shared) (H : Hp) (args : Args) (us : List Value) (vs : List V) (Q : VK), L2H.RoomH k A → Env0 P w K mg base A outer s H → BindsTo s fd args (ps.zip us) → Vals vs us → sp vs H Q E0 →
    codeAny (model P w) A (.call (.ref f) args) (CR CX0 outer P w H s Q E0) s
def cxHot (P : Program) (w : World) (K : PySem.W.Frag) (mg : Str → Option Value) (base : Heap) (N : List Str) (qual : Str) (scope : Scope) (f : Addr) (cd : Value) (A : Around) (outer : List Env) (s : Shared) (H : Hp) : Cx :=
  { cxOf CX0 P w K mg base N qual scope f cd A outer s H E0 with calm := false }
section
variable {P : Program} {w : World} {K : PySem.W.Frag} {mg : Str → Option Value} {base : Heap}
theorem hot_start {N ps : List Str} {qual : Str} {scope : Scope} {f : Addr} {cd : Value} {A : Around} {outer : List Env} {s s1 : Shared} {H : Hp} {us : List Value} {vs : List V}
    (S : FnScope N ps scope) (e0 : Env0 P w K mg base A outer s H) (hl : vs.length = ps.length) (r : Vals vs us)
    (x : InCallC s s.heap.objs.size (bindL (envOfC qual scope s.heap.objs.size f cd).kindOf (ps.zip us) fun _ => none) (cellsFrom (s.heap.objs.size + 1) scope.names []) (bindC (envOfC qual scope s.heap.objs.size f cd).kindOf (ps.zip us) fun _ => none) s1) :
    Inv (cxHot P w K mg base N qual scope f cd A outer s H) [] (start N vs) H s1 := by
  have e1 : Env0 P w K mg base { A with handled := none } outer s H := ⟨e0.frames, e0.mod, e0.bs, e0.bsz, e0.funs, e0.frf, e0.hok, e0.bare⟩
  have I := inv_start (CX := CX0) (E := E0) (f := f) (cd := cd) (qual := qual) S (A := { A with handled := none }) rfl e1 hl r x
  have ok := I.ok
  exact ⟨⟨ok.mod, ok.kind, ok.glob, ok.blt, ok.above, ok.inj, ok.has, ok.cab, (fun z => Bool.noConfusion (show false = true from z)), Around.frames_deeper e0.frames, ok.stk, ok.exf, ok.bs, ok.bsz, ok.noex, ok.exfs, ok.funs, ok.frf⟩,
    I.os, I.bare, I.base, I.loc, I.cell, I.free, I.freeC, I.pin, I.hok, I.len⟩
theorem Fun.okHot {x qual : Str} {st : Stmt} {f : Addr} {fd : FuncData} {N ps : List Str} {k : Nat} {sp : Sp} (F : L2.Fun K x qual st f fd) (S : FnScope N ps (defScope st)) (len : ∀ vs H Q E, sp vs H Q E → vs.length = ps.length)
    (hbody : ∀ (cdv : Value) (A : Around) (outer : List Env) (s : Shared) (H : Hp) (vs : List V) (Q : VK), sp vs H Q E0 →
      ∃ t, PSs (cxHot P w K mg base N qual (defScope st) f cdv A outer s H) (defBody st) t ∧ t { nx := fun _ H' => Q .non H', rt := Q } (start N vs) H) : FnHot P w K mg base (k + 1) f fd ps sp := by
  obtain ⟨oc, od, kV, doc, pm, an, cdv, ct, osl, rfl, lk, hcd⟩ := F.ex
  refine ⟨len, fun A outer s H args us vs Q hr e0 hb r hsp => ?_⟩
  have hl := len _ _ _ _ hsp
  have KX : K.In s.heap := e0.mod.kin.keeps fun b o e => (e0.bs b o e).1
  have lim : s.heap.NoLimit := e0.mod.nolimit.keeps fun b o e => (e0.bs b o e).1
  have hkind : ∀ y ∈ ps.zip us, (defScope st).names.lookup y.1 = some .local ∨ ((defScope st).names.lookup y.1 = some .cell ∧ ((cellsFrom (s.heap.objs.size + 1) (defScope st).names []).lookup y.1).isSome = true) := fun ⟨n, v⟩ hy =>
    (S.par n (List.of_mem_zip hy).1).elim (fun q => .inl q) fun q => .inr ⟨q, PySem.W.cellsFrom_some _ _ _ (.inl q)⟩
  refine codeAny_call_function hr.depth (KX _ _ lk) rfl S.co S.gen rfl (PySem.W.codeRec_of KX hcd) (hb _ _ _ _ (wpAny_newFunctionEnv_cells S.kind hkind fun env he s1 x => ?_))
  subst he
  refine ⟨lim.keeps x.toInCall.keep, codeAny_func ?_⟩
  obtain ⟨t, ht, hq⟩ := hbody cdv A outer s H vs Q hsp
  refine wpAny_mono (ht.run [] s1 (start N vs) H _ (hot_start S e0 hl r x) hq) (fun fl s' hs => ?_) fun e s' hs => hs
  cases fl with
  | ret u =>
    obtain ⟨v, σ', H', J, rv, q⟩ := hs
    exact ⟨v, H', J.os, J.bare, J.base, J.hok, rv, q⟩
  | next =>
    obtain ⟨σ', H', J, q⟩ := hs
    exact ⟨V.non, H', J.os, J.bare, J.base, J.hok, rfl, q⟩
  | brk =>
    obtain ⟨_, _, _, q⟩ := hs
    exact False.elim q
  | cont =>
    obtain ⟨_, _, _, q⟩ := hs
    exact False.elim q
theorem pe_callHot {X : Cx} {k : Nat} {f : Addr} {fd : FuncData} {ps : List Str} {sp : Sp} {x : Str} {p pos : Pos} {e : Expr} {es : List Expr} {t : TA} (F : FnHot X.prog X.w X.K X.mg X.base k f fd ps sp) (hr : L2H.RoomH k X.A) (hg : Gl X x) (hm : X.mg x = some (.ref f)) (hk : PySem.W.keepIn X.K (.ref f) = true)
    (hb : Binds X.K fd ps []) (ha : PA X (e :: es) t) (hdb : (x == ("__debug__" : Str)) = false := by decide) (he : starEach (e :: es) X.env = (false, eval e X.env) :: starEach es X.env := by rfl) (hpl : (backTo pos (starEach es X.env)).any (·.1) = false := by rfl) :
    PE X (.Call (.Name x p) (e :: es) [] pos) (tCall sp [] E0 t) := by
  refine ⟨fun pins s σ H Q I h => ?_⟩
  refine wpAny_Call_Name_kw (ld_glob I hg hm ?_ hdb)
  refine PySem.W.callWith_K (h₀ := X.base) I.ok.mod.kin hk (thn (ha.run pos pins s σ H _ I h) fun us s1 hh => ?_) he hpl
  obtain ⟨vs, H1, I1, r, q⟩ := hh
  rw [List.append_nil] at q
  refine ⟨I1.kIn, ?_⟩
  have hl : us.length = ps.length := by rw [← r.length]; exact F.len _ _ _ _ q
  have b := hb s1 us I1.kIn (by rw [List.append_nil]; exact hl)
  rw [List.append_nil] at b
  refine wpAny_call (codeAny_mono (F.run X.A X.stack s1 H1 ⟨us, []⟩ us vs Q hr I1.env0 b r q) fun r s' hq => ?_)
  cases r with
  | error e => exact hq.elim
  | ok fl =>
    cases fl with
    | ret u => exact I1.after hq
    | next => exact False.elim hq
    | brk => exact False.elim hq
    | cont => exact False.elim hq
end
/-! ### what the top has written -/
/-- built-in names that the text did not bind, the module's constants -/
structure Bl (mg : Str → Option Value) : Prop where
  len_ : mg "len" = none
  abs_ : mg "abs" = none
  min_ : mg "min" = none
  int_ : mg "int" = none
  bool_ : mg "bool" = none
  list_ : mg "list" = none
  tuple_ : mg "tuple" = none
  range_ : mg "range" = none
  isinstance_ : mg "isinstance" = none
  KEEP : ∃ t, mg "KEEP" = some (.int 0 t)
  DROP : ∃ t, mg "DROP" = some (.int 1 t)
  ADD : ∃ t, mg "ADD" = some (.int 2 t)
  GREATEST_NUMBER : ∃ t, mg "GREATEST_NUMBER" = some (.int 34359738367 t)
  MOST_DIGITS : ∃ t, mg "MOST_DIGITS" = some (.int 5 t)
/-- a def of the text as it stands -/
def Df (K : PySem.W.Frag) (mg : Str → Option Value) (x : Str) (st : Stmt) : Prop := ∃ f fd, mg x = some (.ref f) ∧ L2.Fun K x x st f fd
def DfM (K : PySem.W.Frag) (C : Addr) (m qual : Str) (st : Stmt) : Prop := ∃ f fd, Meth K C m f ∧ L2.Fun K m qual st f fd
section
variable (w : World) (K : PySem.W.Frag) (mg : Str → Option Value) (base : Heap)
/-- a def that keeps its promise -/
def Can (CX : CXT) (k : Nat) (x : Str) (ps : List Str) (sp : Sp) : Prop := ∃ f fd, mg x = some (.ref f) ∧ PySem.W.keepIn K (.ref f) = true ∧ Binds K fd ps [] ∧ FnOk prog17 w K mg base CX k f fd ps sp
def CanM (CX : CXT) (k : Nat) (C : Addr) (m : Str) (ps : List Str) (sp : Sp) : Prop := ∃ f fd, Meth K C m f ∧ Binds K fd ps [] ∧ FnOk prog17 w K mg base CX k f fd ps sp
end
/-! ### what stands in the heap -/
abbrev iL (l : List Int) : List V := l.map V.int
theorem iL_len (l : List Int) : (iL l).length = l.length := List.length_map _
theorem iL_at {l : List Int} {i : Nat} {x : Int} (h : l[i]? = some x) : (iL l)[i]? = some (V.int x) := by rw [List.getElem?_map, h]; rfl
theorem iL_get {l : List Int} {i : Nat} {y : V} (h : (iL l)[i]? = some y) : ∃ x, l[i]? = some x ∧ y = V.int x := by
  rw [List.getElem?_map] at h
  cases e : l[i]? with
  | none => rw [e] at h; cases h
  | some x => rw [e] at h; exact ⟨x, rfl, (Option.some.inj h).symm⟩
theorem iL_app (a b : List Int) : iL (a ++ b) = iL a ++ iL b := List.map_append
theorem iL_snoc (a : List Int) (z : Int) : iL (a ++ [z]) = iL a ++ [V.int z] := List.map_append
theorem at_int {l : List Int} {i : Int} {j : Nat} {x : Int} (e : i = (j : Int)) (h : l[j]? = some x) : atI (iL l) i = some (V.int x) := at_of e (iL_at h)
/-- the step at v -/
def StAt (H : Hp) (v : V) : Step → Prop
  | .keep n => ∃ p, v = .ref p ∧ H p = some (.tup [.str "keep", .int n])
  | .drop n => ∃ p, v = .ref p ∧ H p = some (.tup [.str "drop", .int n])
  | .add xs => ∃ p q, v = .ref p ∧ H p = some (.tup [.str "add", .ref q]) ∧ H q = some (.tup (iL xs))
abbrev Sts (H : Hp) (vs : List V) (st : List Step) : Prop := Paired (StAt H) vs st
theorem StAt.mono {H H' : Hp} {v : V} (e : ∀ a xs, H a = some (.tup xs) → H' a = some (.tup xs)) : ∀ {s : Step}, StAt H v s → StAt H' v s
  | .keep n, ⟨p, h1, h2⟩ => ⟨p, h1, e _ _ h2⟩
  | .drop n, ⟨p, h1, h2⟩ => ⟨p, h1, e _ _ h2⟩
  | .add xs, ⟨p, q, h1, h2, h3⟩ => ⟨p, q, h1, e _ _ h2, e _ _ h3⟩
theorem Sts.mono {H H' : Hp} {vs : List V} {st : List Step} (e : ∀ a xs, H a = some (.tup xs) → H' a = some (.tup xs)) (h : Sts H vs st) : Sts H' vs st := Paired.mapP h fun _ _ x => x.mono e
theorem Ex.tups {H H' : Hp} (e : Ex H H') : ∀ a xs, H a = some (.tup xs) → H' a = some (.tup xs) := fun a xs h => e a _ h
theorem Exb.tups {r : Addr} {H H' : Hp} (e : Exb r H H') (hr : ∀ xs, H r ≠ some (.tup xs)) : ∀ a xs, H a = some (.tup xs) → H' a = some (.tup xs) := fun a xs h => e a _ (fun z => hr xs (by rw [← z]; exact h)) h
theorem paired_len {α β : Type} {F : α → β → Prop} : ∀ {l : List α} {m : List β}, Paired F l m → l.length = m.length
  | _, _, .nil => rfl
  | _, _, .cons _ t => congrArg Nat.succ (paired_len t)
theorem paired_at {α β : Type} {F : α → β → Prop} : ∀ {l : List α} {m : List β} {i : Nat} {x : α}, Paired F l m → l[i]? = some x → ∃ y, m[i]? = some y ∧ F x y
  | _, _, _, _, .nil, h => by simp at h
  | _, _, 0, x, .cons r _, h => ⟨_, rfl, by have e := Option.some.inj h; rw [← e]; exact r⟩
  | _, _, i + 1, x, .cons _ t, h => paired_at (i := i) t h
theorem paired_app {α β : Type} {F : α → β → Prop} : ∀ {l l' : List α} {m m' : List β}, Paired F l m → Paired F l' m' → Paired F (l ++ l') (m ++ m')
  | _, _, _, _, .nil, h => h
  | _, _, _, _, .cons r t, h => .cons r (paired_app t h)
theorem paired_snoc {α β : Type} {F : α → β → Prop} {l : List α} {m : List β} {x : α} {y : β} (h : Paired F l m) (r : F x y) : Paired F (l ++ [x]) (m ++ [y]) := paired_app h (.cons r .nil)
/-- the kind's text -/
def kindS : Step → Str
  | .keep _ => "keep"
  | .drop _ => "drop"
  | .add _ => "add"
/-- a list of slices of the text -/
theorem cut_int (l : List Int) (a n : Nat) (i j : Int) (hi : i = (a : Int)) (hj : j = ((a + n : Nat) : Int)) : cutV (iL l) (some i) (some j) = iL ((l.drop a).take n) := by
  subst hi hj
  unfold cutV
  rw [HT.sIx_nat, HT.sIx_nat, iL_len, ← List.map_drop, ← List.map_take]
  by_cases h : a ≤ l.length
  · rw [show min a l.length = a by omega]
    by_cases h2 : a + n ≤ l.length
    · rw [show min (a + n) l.length - a = n by omega]
    · rw [show min (a + n) l.length - a = l.length - a by omega, List.take_of_length_le (by rw [List.length_drop]; omega), List.take_of_length_le (by rw [List.length_drop]; omega)]
  · rw [show min a l.length = l.length by omega, List.drop_of_length_le (Nat.le_refl _), List.drop_of_length_le (show l.length ≤ a by omega)]
    simp
theorem ifT {c : Bool} {A B : Prop} (hc : c = true) (h : A) : if c = true then A else B := by rw [if_pos hc]; exact h
theorem ifF {c : Bool} {A B : Prop} (hc : c = false) (h : B) : if c = true then A else B := by rw [hc, if_neg Bool.false_ne_true]; exact h
theorem ifD {c A B : Prop} [Decidable c] (hc : c) (h : A) : if decide c = true then A else B := ifT (decide_eq_true hc) h
theorem ifN {c A B : Prop} [Decidable c] (hc : ¬ c) (h : B) : if decide c = true then A else B := ifF (decide_eq_false hc) h
theorem if2 {c A B : Prop} [Decidable c] (h1 : c → A) (h2 : ¬ c → B) : if decide c = true then A else B := if h : c then ifD h (h1 h) else ifN h (h2 h)
theorem fits5 : (5000 : Nat) ≤ sizeLine := by rw [sizeLine_eq]; decide
theorem fitsM {n : Nat} (h : n ≤ 100000) : n ≤ sizeLine := Nat.le_trans h (by rw [sizeLine_eq]; decide)
theorem fitsL {n : Nat} (h : n < 100000) : n < sizeLine := Nat.lt_of_lt_of_le h (by rw [sizeLine_eq]; decide)
/-! ### the promises' exceptions -/
/-- an EncodingError with this position is raised -/
def Bad (CE : Addr) (E : XK) (p : Int) : Prop := ∀ d H', H' d = some (.xd [(("position" : Str), .int p)]) → E (.ref CE) (some d) H'
theorem log_small {i : Int} (h : i.natAbs < 2 ^ 1000) : i.natAbs.log2 < 1920 := by
  have := PySem.Flt.log2_lt_of (by decide : 0 < 1000) h
  omega
theorem log_nat {n : Nat} (h : n ≤ 100000) : ((n : Int)).natAbs.log2 < 1920 := log_small (Nat.lt_of_le_of_lt (show ((n : Int)).natAbs ≤ 100000 by omega) (by decide +kernel))
end K17
set_option maxHeartbeats 4000000
namespace K17
open PySem PySem.Spec PyProof.Rows L2
section
variable {w : World} {K : PySem.W.Frag} {mg : Str → Option Value} {base : Heap}
/-! ### _law_cell -/
abbrev s_law_cell : Stmt := top 24
theorem sc_law_cell : FnScope ["_law_script_here", "_law_k"] ["_law_script_here", "_law_k"] (defScope s_law_cell) := ⟨rfl, rfl, rfl, by decide +kernel, rfl, by decide +kernel, by decide +kernel⟩
def spCell (K : PySem.W.Frag) : Sp := fun vs H Q _ => ∃ (a : Addr) (ns : List Int) (k : Int), vs = [.ref a, .int k] ∧ SqL K H a (iL ns) ∧ 0 ≤ k ∧ ∀ z : Int, Q (.int z) H
theorem can_cell (B : Bl mg) (D : Df K mg "_law_cell" s_law_cell) : Can w K mg base CX0 1 "_law_cell" ["_law_script_here", "_law_k"] (spCell K) := by
  obtain ⟨f, fd, g, F⟩ := D
  refine ⟨f, fd, g, F.kp, F.binds fun _ _ _ _ _ _ us hl => match us, hl with | [_, _], _ => rfl, F.ok sc_law_cell (fun vs H Q E h => ?_) (fun cdv A outer s H vs Q E hr h => ?_)⟩
  · obtain ⟨a, ns, k, rfl, _⟩ := h
    rfl
  · obtain ⟨a, ns, k, rfl, hS, hk, q⟩ := h
    refine ⟨_, (pss_cons (ps_if (pt_cmpR op_lt (pv 1) (pe_callB call_len_seq (by rfl) B.len_ (by decide +kernel) (pa_cons (pv 0) pa_nil)) (nomark _)) (pss_one (ps_ret (pe_callTy call_int1 (by rfl) B.int_ (by decide +kernel) (pa_cons (pe_ix ix_list (pv 0) (pv 1) (fun _ _ => rfl)) pa_nil)))) pss_nil)
    (pss_one (ps_ret pe_int))), ?_⟩
    refine ⟨_, rfl, _, rfl, _, _, rfl, Or.inl hS, _, _, rfl, rfl, _, rfl, ?_⟩
    refine ite2 (fun c => ?_) (fun c => ?_)
    · have c := of_decide_eq_true c
      rw [iL_len] at c
      obtain ⟨j, rfl⟩ : ∃ j : Nat, k = (j : Int) := ⟨k.toNat, by omega⟩
      obtain ⟨z, hz⟩ : ∃ z, ns[j]? = some z := ⟨ns[j], List.getElem?_eq_getElem (by omega)⟩
      exact ⟨_, rfl, _, rfl, _, _, _, _, rfl, rfl, hS, at_int rfl hz, Or.inl ⟨_, rfl, q z⟩⟩
    · exact q 0
/-! ### _law_mix -/
abbrev s_law_mix : Stmt := top 25
theorem sc_law_mix : FnScope ["_law_cell_here", "_law_k", "_law_number_here"] ["_law_cell_here", "_law_k"] (defScope s_law_mix) := ⟨rfl, rfl, rfl, by decide +kernel, rfl, by decide +kernel, by decide +kernel⟩
def spMix : Sp := fun vs H Q _ => ∃ (c k : Int), vs = [.int c, .int k] ∧ (-(2 ^ 64) < k ∧ k < 2 ^ 64) ∧ ∀ z : Int, Q (.int z) H
theorem can_mix (B : Bl mg) (D : Df K mg "_law_mix" s_law_mix) : Can w K mg base CX0 1 "_law_mix" ["_law_cell_here", "_law_k"] spMix := by
  obtain ⟨f, fd, g, F⟩ := D
  refine ⟨f, fd, g, F.kp, F.binds fun _ _ _ _ _ _ us hl => match us, hl with | [_, _], _ => rfl, F.ok sc_law_mix (fun vs H Q E h => ?_) (fun cdv A outer s H vs Q E hr h => ?_)⟩
  · obtain ⟨a, k, rfl, _⟩ := h
    rfl
  · obtain ⟨c, k, rfl, hk, q⟩ := h
    refine ⟨_, (pss_cons (ps_set (i := 2) sc_law_mix.nd rfl (Or.inl rfl) (pe_op op_mod (pe_callTy call_int1 (by rfl) B.int_ (by decide +kernel) (pa_cons (pe_op op_add (pe_op op_add (pe_op op_mul (pv 0) pe_int) (pe_op op_mul (pv 1) pe_int)) pe_int) pa_nil)) pe_int))
    (pss_cons (ps_set (i := 2) sc_law_mix.nd rfl (Or.inl rfl) (pe_op op_mod (pe_callTy call_int1 (by rfl) B.int_ (by decide +kernel) (pa_cons (pe_op op_add (pe_op op_add (pe_op op_mul (pv 2) pe_int) (pe_op op_mul (pv 1) pe_int)) pe_int) pa_nil)) pe_int))
    (pss_one (ps_ret (pe_op op_fdiv (pv 2) pe_int))))), ?_⟩
    refine ⟨_, rfl, _, _, rfl, rfl, .inr ⟨by decide, by decide⟩, _, rfl, _, _, rfl, rfl, .inl hk, _, _, rfl, rfl, _, _, rfl, rfl, .inl ⟨_, rfl, _, _, rfl, rfl, (by decide : (0 : Int) < 2147483647), ?_⟩⟩
    refine ⟨_, rfl, _, _, rfl, rfl, .inr ⟨by decide, by decide⟩, _, rfl, _, _, rfl, rfl, .inl hk, _, _, rfl, rfl, _, _, rfl, rfl, .inl ⟨_, rfl, _, _, rfl, rfl, (by decide : (0 : Int) < 2147483629), ?_⟩⟩
    exact ⟨_, rfl, _, _, rfl, rfl, ⟨by decide, by decide⟩, q _⟩
end
end K17
set_option maxHeartbeats 4000000
namespace K17
open PySem PySem.Spec PyProof.Rows L2
theorem sz0 : ([] : List V).length ≤ sizeLine := Nat.zero_le _
section
variable {w : World} {K : PySem.W.Frag} {mg : Str → Option Value} {base : Heap}
/-! ### _law_row -/
abbrev s_law_row : Stmt := top 26
theorem sc_law_row : FnScope ["_law_cell_here", "_law_count", "_law_bound", "_law_found", "_law_rest", "_law_k"] ["_law_cell_here", "_law_count", "_law_bound"] (defScope s_law_row) := ⟨rfl, rfl, rfl, by decide +kernel, rfl, by decide +kernel, by decide +kernel⟩
def spRow : Sp := fun vs H Q _ => ∃ (c n b : Int), vs = [.int c, .int n, .int b] ∧ 0 ≤ n ∧ n ≤ 1000 ∧ 0 < b ∧ b ≤ 1000 ∧
  ∀ (p : Addr) (ns : List Int) (H' : Hp), Ex H H' → H' p = some (.lst (iL ns)) → (ns.length : Int) = n → (∀ x ∈ ns, 0 ≤ x ∧ x < b) → Q (.ref p) H'
theorem can_row (B : Bl mg) (D : Df K mg "_law_row" s_law_row) (hmix : Can w K mg base CX0 1 "_law_mix" ["_law_cell_here", "_law_k"] spMix) :
    Can w K mg base CX0 2 "_law_row" ["_law_cell_here", "_law_count", "_law_bound"] spRow := by
  obtain ⟨f, fd, g, F⟩ := D
  obtain ⟨f_law_mix, d_law_mix, g_law_mix, k_law_mix, b_law_mix, G_law_mix⟩ := hmix
  refine ⟨f, fd, g, F.kp, F.binds fun _ _ _ _ _ _ us hl => match us, hl with | [_, _, _], _ => rfl, F.ok sc_law_row (fun vs H Q E h => ?_) (fun cdv A outer s H vs Q E hr h => ?_)⟩
  · obtain ⟨c, n, b, rfl, _⟩ := h
    rfl
  · obtain ⟨c, n, b, rfl, hn0, hn1, hb0, hb1, q⟩ := h
    refine ⟨_, (pss_cons (ps_set (i := 3) sc_law_row.nd rfl (Or.inl rfl) (pe_lst pa_nil))
    (pss_cons (ps_set (i := 4) sc_law_row.nd rfl (Or.inl rfl) (pe_callB call_abs (by rfl) B.abs_ (by decide +kernel) (pa_cons (pv 0) pa_nil)))
    (pss_cons (ps_for PassesOwn.never rfl (pi_range1 (by rfl) B.range_ (pa_cons (pv 1) pa_nil)) (pg_name (i := 5) sc_law_row.nd rfl (Or.inl rfl))
    (pss_one (ps_if (pt_cmpR op_ge (pe_callB call_abs (by rfl) B.abs_ (by decide +kernel) (pa_cons (pv 0) pa_nil)) pe_int (nomark _)) (pss_cons (ps_expr (pe_bm PySem.F.plainAttrs_list PySem.F.slot_list_append PySem.F.type_list_append mt_append (pv 3) (pa_cons (pe_op op_mod (pe_callTy call_int1 (by rfl) B.int_ (by decide +kernel) (pa_cons (pv 4) pa_nil)) (pv 2)) pa_nil)))
    (pss_one (ps_set (i := 4) sc_law_row.nd rfl (Or.inl rfl) (pe_op op_fdiv (pv 4) (pv 2))))) (pss_one (ps_expr (pe_bm PySem.F.plainAttrs_list PySem.F.slot_list_append PySem.F.type_list_append mt_append (pv 3) (pa_cons (pe_op op_mod (pe_callTy call_int1 (by rfl) B.int_ (by decide +kernel) (pa_cons (pe_call G_law_mix (hr.mono (by decide)) rfl g_law_mix k_law_mix b_law_mix .nil pass0 (by exact (pa_cons (pv 0) (pa_cons (pv 5) pa_nil)))) pa_nil)) (pv 2)) pa_nil)))))))
    (pss_one (ps_ret (pv 3)))))), ?_⟩
    refine ⟨sz0, fun l hl => ⟨_, rfl, _, rfl, _, rfl, _, rfl, by omega, by omega, for_range (lo := 0) (n := n.toNat) (fun i σ H' => ∃ (r : Int) (v5 : Option V) (ns : List Int), σ = [some (.int c), some (.int n), some (.int b), some (.ref l), some (.int r), v5] ∧ Ex H H' ∧
      H' l = some (.lst (iL ns)) ∧ ns.length = i ∧ ∀ x ∈ ns, 0 ≤ x ∧ x < b) ⟨_, none, [], rfl, Evl.Ex.new hl, upd_same, rfl, fun x h => by cases h⟩ ?_ ?_⟩⟩
    · rintro i σ H' hi ⟨r, v5, ns, rfl, e, h1, h2, h3⟩
      have grow : ∀ z : Int, 0 ≤ z → z < b → Ex H (upd H' l (.lst (iL ns ++ [V.int z]))) ∧ upd H' l (.lst (iL ns ++ [V.int z])) l = some (.lst (iL (ns ++ [z]))) ∧ (ns ++ [z]).length = i + 1 ∧ ∀ x ∈ ns ++ [z], 0 ≤ x ∧ x < b := fun z z0 z1 => by
        refine ⟨Evl.Ex.mut e hl, by rw [upd_same, iL_snoc], by rw [List.length_append, h2]; rfl, fun x hx => ?_⟩
        rcases List.mem_append.mp hx with hx | hx
        · exact h3 x hx
        · have ex : x = z := by simpa using hx
          rw [ex]; exact ⟨z0, z1⟩
      have fit : (iL ns).length < sizeLine := fitsL (by rw [iL_len]; omega)
      refine ⟨_, rfl, _, rfl, _, _, rfl, rfl, _, rfl, ?_⟩
      refine ite2 (fun c => ?_) (fun c => ?_)
      · refine ⟨_, rfl, .inl ⟨rfl, _, SqL.of h1⟩, _, rfl, .inl ⟨_, rfl, _, rfl, _, _, rfl, rfl, hb0, l, _, _, rfl, rfl, h1, fit, ?_⟩⟩
        obtain ⟨g1, g2, g3, g4⟩ := grow (r % b) (Int.emod_nonneg _ (by omega)) (Int.emod_lt_of_pos _ hb0)
        exact ⟨_, rfl, _, rfl, _, _, rfl, rfl, ⟨hb0, by omega⟩, _, _, _, rfl, g1, g2, g3, g4⟩
      · refine ⟨_, rfl, .inl ⟨rfl, _, SqL.of h1⟩, _, rfl, _, rfl, _, _, rfl, ⟨by omega, by omega⟩, fun z => .inl ⟨_, rfl, _, rfl, _, _, rfl, rfl, hb0, l, _, _, rfl, rfl, h1, fit, ?_⟩⟩
        obtain ⟨g1, g2, g3, g4⟩ := grow (z % b) (Int.emod_nonneg _ (by omega)) (Int.emod_lt_of_pos _ hb0)
        exact ⟨_, _, _, rfl, g1, g2, g3, g4⟩
    · rintro σ H' ⟨r, v5, ns, rfl, e, h1, h2, h3⟩
      exact ⟨_, rfl, q l ns H' e h1 (by omega) h3⟩
/-! ### _law_is_int -/
abbrev s_law_is_int : Stmt := top 27
theorem sc_law_is_int : FnScope ["_law_value"] ["_law_value"] (defScope s_law_is_int) := ⟨rfl, rfl, rfl, by decide +kernel, rfl, by decide +kernel, by decide +kernel⟩
def spIsInt : Sp := fun vs H Q _ => ∃ z : Int, vs = [.int z] ∧ Q (.bl true) H
/-! ### _law_items -/
abbrev s_law_items : Stmt := top 28
theorem sc_law_items : FnScope ["_law_cell_here", "_law_size", "_law_bound"] ["_law_cell_here", "_law_size"] (defScope s_law_items) := ⟨rfl, rfl, rfl, by decide +kernel, rfl, by decide +kernel, by decide +kernel⟩
def spItems : Sp := fun vs H Q _ => ∃ (c n : Int), vs = [.int c, .int n] ∧ 0 ≤ n ∧ n ≤ 1000 ∧
  ∀ (p : Addr) (ns : List Int) (H' : Hp), Ex H H' → H' p = some (.lst (iL ns)) → (ns.length : Int) = n → Oct ns → Q (.ref p) H'
theorem can_items (B : Bl mg) (D : Df K mg "_law_items" s_law_items) (hrow : Can w K mg base CX0 2 "_law_row" ["_law_cell_here", "_law_count", "_law_bound"] spRow) :
    Can w K mg base CX0 3 "_law_items" ["_law_cell_here", "_law_size"] spItems := by
  obtain ⟨f, fd, g, F⟩ := D
  obtain ⟨f_law_row, d_law_row, g_law_row, k_law_row, b_law_row, G_law_row⟩ := hrow
  refine ⟨f, fd, g, F.kp, F.binds fun _ _ _ _ _ _ us hl => match us, hl with | [_, _], _ => rfl, F.ok sc_law_items (fun vs H Q E h => ?_) (fun cdv A outer s H vs Q E hr h => ?_)⟩
  · obtain ⟨c, n, rfl, _⟩ := h
    rfl
  · obtain ⟨c, n, rfl, hn0, hn1, q⟩ := h
    refine ⟨_, (pss_cons (ps_set (i := 2) sc_law_items.nd rfl (Or.inl rfl) (pe_ix ix_tup (pe_tup (pa_cons pe_int (pa_cons pe_int (pa_cons pe_int pa_nil)))) (pe_op op_mod (pv 0) pe_int) (fun _ _ => rfl)))
    (pss_one (ps_ret (pe_call G_law_row (hr.mono (by decide)) rfl g_law_row k_law_row b_law_row .nil pass0 (by exact (pa_cons (pe_op op_fdiv (pv 0) pe_int) (pa_cons (pv 1) (pa_cons (pv 2) pa_nil)))))))), ?_⟩
    refine ⟨by decide, fun t ht => ⟨_, rfl, _, _, rfl, rfl, (by decide : (0 : Int) < 3), ?_⟩⟩
    have h0 := Int.emod_nonneg c (by decide : (3 : Int) ≠ 0)
    have h1 := Int.emod_lt_of_pos c (by decide : (0 : Int) < 3)
    have go : ∀ b : Int, 0 < b → b ≤ 256 → ∀ (p : Addr) (ns : List Int) (H' : Hp), Ex (upd H t (.tup [.int 2, .int 3, .int 256])) H' → H' p = some (.lst (iL ns)) → (ns.length : Int) = n → (∀ x ∈ ns, 0 ≤ x ∧ x < b) → Q (.ref p) H' :=
      fun b b0 b1 p ns H' e hp hl hx => q p ns H' ((Evl.Ex.new ht).trans e) hp hl fun x m => ⟨(hx x m).1, by have := (hx x m).2; omega⟩
    have tup : SqT K (upd H t (.tup [.int 2, .int 3, .int 256])) t [.int 2, .int 3, .int 256] := SqT.of upd_same
    rcases (by omega : c % 3 = 0 ∨ c % 3 = 1 ∨ c % 3 = 2) with e | e | e
    · exact ⟨_, _, _, _, rfl, rfl, tup, at_of (j := 0) e rfl, _, rfl, _, _, rfl, rfl, ⟨by decide, by decide⟩, _, rfl, _, rfl, _, _, _, rfl, hn0, hn1, by decide, by decide, go 2 (by decide) (by decide)⟩
    · exact ⟨_, _, _, _, rfl, rfl, tup, at_of (j := 1) e rfl, _, rfl, _, _, rfl, rfl, ⟨by decide, by decide⟩, _, rfl, _, rfl, _, _, _, rfl, hn0, hn1, by decide, by decide, go 3 (by decide) (by decide)⟩
    · exact ⟨_, _, _, _, rfl, rfl, tup, at_of (j := 2) e rfl, _, rfl, _, _, rfl, rfl, ⟨by decide, by decide⟩, _, rfl, _, rfl, _, _, _, rfl, hn0, hn1, by decide, by decide, go 256 (by decide) (by decide)⟩
end
end K17
set_option maxHeartbeats 4000000
namespace K17
open PySem PySem.Spec PyProof.Rows L2
def rdV : Rd → Int × Int
  | .ok n b => (n, (b : Int))
  | .bad p => (-1, (p : Int))
section
variable {w : World} {K : PySem.W.Frag} {mg : Str → Option Value} {base : Heap}
/-! ### _law_number -/
abbrev s_law_number : Stmt := top 31
theorem sc_law_number : FnScope ["_law_number_here", "_law_octets", "_law_rest", "_law_k"] ["_law_number_here"] (defScope s_law_number) := ⟨rfl, rfl, rfl, by decide +kernel, rfl, by decide +kernel, by decide +kernel⟩
def spLNum : Sp := fun vs H Q _ => ∃ n : Int, vs = [.int n] ∧ 0 ≤ n ∧ ∀ (p : Addr) (ns : List Int) (H' : Hp), Ex H H' → H' p = some (.lst (iL ns)) → ns.length ≤ 6 → Oct ns → Q (.ref p) H'
theorem can_lnum (B : Bl mg) (D : Df K mg "_law_number" s_law_number) : Can w K mg base CX0 1 "_law_number" ["_law_number_here"] spLNum := by
  obtain ⟨f, fd, g, F⟩ := D
  refine ⟨f, fd, g, F.kp, F.binds fun _ _ _ _ _ _ us hl => match us, hl with | [_], _ => rfl, F.ok sc_law_number (fun vs H Q E h => ?_) (fun cdv A outer s H vs Q E hr h => ?_)⟩
  · obtain ⟨n, rfl, _⟩ := h
    rfl
  · obtain ⟨n, rfl, hn0, q⟩ := h
    refine ⟨_, (pss_cons (ps_set (i := 1) sc_law_number.nd rfl (Or.inl rfl) (pe_lst pa_nil))
    (pss_cons (ps_set (i := 2) sc_law_number.nd rfl (Or.inl rfl) (pv 0))
    (pss_cons (ps_for PassesOwn.never rfl (pi_range1 (by rfl) B.range_ (pa_cons pe_int pa_nil)) (pg_name (i := 3) sc_law_number.nd rfl (Or.inl rfl))
    (pss_cons (ps_if (pt_cmpR op_lt (pv 2) pe_int (nomark _)) (pss_cons (ps_expr (pe_bm PySem.F.plainAttrs_list PySem.F.slot_list_append PySem.F.type_list_append mt_append (pv 1) (pa_cons (pv 2) pa_nil)))
    (pss_one (ps_ret (pv 1)))) pss_nil)
    (pss_cons (ps_expr (pe_bm PySem.F.plainAttrs_list PySem.F.slot_list_append PySem.F.type_list_append mt_append (pv 1) (pa_cons (pe_op op_add pe_int (pe_op op_mod (pe_callTy call_int1 (by rfl) B.int_ (by decide +kernel) (pa_cons (pv 2) pa_nil)) pe_int)) pa_nil)))
    (pss_one (ps_set (i := 2) sc_law_number.nd rfl (Or.inl rfl) (pe_op op_fdiv (pv 2) pe_int))))))
    (pss_one (ps_ret (pv 1)))))), ?_⟩
    refine ⟨sz0, fun l hl => ⟨_, rfl, _, rfl, by decide, by decide, for_range (lo := 0) (n := 6) (fun i σ H' => ∃ (r : Int) (v3 : Option V) (ns : List Int), σ = [some (.int n), some (.ref l), some (.int r), v3] ∧ Ex H H' ∧
      H' l = some (.lst (iL ns)) ∧ ns.length = i ∧ 0 ≤ r ∧ Oct ns) ⟨_, none, [], rfl, Evl.Ex.new hl, upd_same, rfl, hn0, Oct.nil⟩ ?_ ?_⟩⟩
    · rintro i σ H' hi ⟨r, v3, ns, rfl, e, h1, h2, h3, h4⟩
      have fit : (iL ns).length < sizeLine := fitsL (by rw [iL_len]; omega)
      refine ⟨_, rfl, _, _, rfl, rfl, _, rfl, if2 (fun c => ?_) (fun c => ?_)⟩
      · refine ⟨_, rfl, .inl ⟨rfl, _, SqL.of h1⟩, _, rfl, l, _, _, rfl, rfl, h1, fit, _, rfl, ?_⟩
        exact q l (ns ++ [r]) _ (Evl.Ex.mut e hl) (by rw [upd_same, iL_snoc]) (by rw [List.length_append, h2]; show i + 1 ≤ 6; omega) (h4.app (Oct.one ⟨h3, by omega⟩))
      · refine ⟨_, rfl, .inl ⟨rfl, _, SqL.of h1⟩, _, rfl, .inl ⟨_, rfl, _, _, rfl, rfl, (by decide : (0 : Int) < 128), _, _, rfl, rfl, l, _, _, rfl, rfl, h1, fit, ?_⟩⟩
        refine ⟨_, rfl, _, _, rfl, rfl, ⟨by decide, by decide⟩, _, _, ns ++ [128 + r % 128], rfl, Evl.Ex.mut e hl, by rw [upd_same, iL_snoc], by rw [List.length_append, h2]; rfl, by omega, h4.app (Oct.one ⟨by omega, by omega⟩)⟩
    · rintro σ H' ⟨r, v3, ns, rfl, e, h1, h2, h3, h4⟩
      exact ⟨_, rfl, q l ns H' e h1 (by omega) h4⟩
/-! ### _law_read -/
abbrev s_law_read : Stmt := top 32
theorem sc_law_read : FnScope ["_law_octets", "_law_start", "_law_number_here", "_law_weight", "_law_k", "_law_at"] ["_law_octets", "_law_start"] (defScope s_law_read) := ⟨rfl, rfl, rfl, by decide +kernel, rfl, by decide +kernel, by decide +kernel⟩
def spRead : Sp := fun vs H Q _ => ∃ (a : Addr) (os : List Int) (s : Nat), vs = [.ref a, .int s] ∧ H a = some (.lst (iL os)) ∧ Oct os ∧
  ∀ (p : Addr) (H' : Hp), Ex H H' → H' p = some (.tup [.int (rdV (rd os s)).1, .int (rdV (rd os s)).2]) → Q (.ref p) H'
theorem can_read (B : Bl mg) (D : Df K mg "_law_read" s_law_read) : Can w K mg base CX0 1 "_law_read" ["_law_octets", "_law_start"] spRead := by
  obtain ⟨f, fd, g, F⟩ := D
  refine ⟨f, fd, g, F.kp, F.binds fun _ _ _ _ _ _ us hl => match us, hl with | [_, _], _ => rfl, F.ok sc_law_read (fun vs H Q E h => ?_) (fun cdv A outer s H vs Q E hr h => ?_)⟩
  · obtain ⟨a, os, st, rfl, _⟩ := h
    rfl
  · obtain ⟨a, os, st, rfl, hA, hO, q⟩ := h
    refine ⟨_, (pss_cons (ps_set (i := 2) sc_law_read.nd rfl (Or.inl rfl) pe_int)
    (pss_cons (ps_set (i := 3) sc_law_read.nd rfl (Or.inl rfl) pe_int)
    (pss_cons (ps_for PassesOwn.never rfl (pi_range1 (by rfl) B.range_ (pa_cons pe_int pa_nil)) (pg_name (i := 4) sc_law_read.nd rfl (Or.inl rfl))
    (pss_cons (ps_set (i := 5) sc_law_read.nd rfl (Or.inl rfl) (pe_op op_add (pv 1) (pv 4)))
    (pss_cons (ps_if (pt_cmpR op_ge (pv 5) (pe_callB call_len_seq (by rfl) B.len_ (by decide +kernel) (pa_cons (pv 0) pa_nil)) (nomark _)) (pss_one (ps_ret (pe_tup (pa_cons (pe_un un_neg pe_int) (pa_cons (pe_callB call_len_seq (by rfl) B.len_ (by decide +kernel) (pa_cons (pv 0) pa_nil)) pa_nil))))) pss_nil)
    (pss_cons (ps_if (PW.pt (pw_and (pt_cmpR op_ge (pe_ix ix_list (pv 0) (pv 5) (fun _ _ => rfl)) pe_int (nomark _)) (pw_and1 (pt_cmpR op_eq (pv 4) pe_int (nomark _))))) (pss_one (ps_ret (pe_tup (pa_cons (pe_un un_neg pe_int) (pa_cons (pv 5) pa_nil))))) pss_nil)
    (pss_cons (ps_if (pt_cmpR op_lt (pe_ix ix_list (pv 0) (pv 5) (fun _ _ => rfl)) pe_int (nomark _)) (pss_cons (ps_if (PW.pt (pw_and (pt_cmpR op_eq (pe_ix ix_list (pv 0) (pv 5) (fun _ _ => rfl)) pe_int (nomark _)) (pw_and1 (pt_cmpR op_gt (pv 4) pe_int (nomark _))))) (pss_one (ps_ret (pe_tup (pa_cons (pe_un un_neg pe_int) (pa_cons (pv 5) pa_nil))))) pss_nil)
    (pss_one (ps_ret (pe_tup (pa_cons (pe_op op_add (pv 2) (pe_op op_mul (pv 3) (pe_ix ix_list (pv 0) (pv 5) (fun _ _ => rfl)))) (pa_cons (pe_op op_add (pv 5) pe_int) pa_nil)))))) pss_nil)
    (pss_cons (ps_set (i := 2) sc_law_read.nd rfl (Or.inl rfl) (pe_op op_add (pv 2) (pe_op op_mul (pv 3) (pe_op op_sub (pe_ix ix_list (pv 0) (pv 5) (fun _ _ => rfl)) pe_int))))
    (pss_one (ps_set (i := 3) sc_law_read.nd rfl (Or.inl rfl) (pe_op op_mul (pv 3) pe_int)))))))))
    (pss_one (ps_ret (pe_tup (pa_cons (pe_un un_neg pe_int) (pa_cons (pv 1) pa_nil)))))))), ?_⟩
    have done : ∀ {x y : Int} (p : Addr), H p = none → rdV (rd os st) = (x, y) → Q (.ref p) (upd H p (.tup [.int x, .int y])) := fun {x y} p hp e => by
      refine q p _ (Evl.Ex.new hp) ?_
      rw [e, upd_same]
    refine ⟨_, rfl, by decide, by decide, for_range (lo := 0) (n := 5) (fun i σ H' => ∃ (n w : Int) (v4 v5 : Option V) (f : Nat), σ = [some (.ref a), some (.int st), some (.int n), some (.int w), v4, v5] ∧ H' = H ∧ i + f = 4 ∧ rd os st = rdF os (f + 1) (st + i) (decide (i = 0)) n w)
      ⟨0, 1, none, none, 4, rfl, rfl, rfl, rfl⟩ ?_ ?_⟩
    · rintro i σ H' hi ⟨n, w, v4, v5, f, rfl, rfl, hf, hrd⟩
      have e0 : (st : Int) + (0 + (i : Int)) = ((st + i : Nat) : Int) := by omega
      rw [rdF] at hrd
      refine ⟨_, rfl, _, rfl, _, _, rfl, rfl, _, rfl, _, rfl, _, _, rfl, .inl (SqL.of hA), _, _, rfl, rfl, _, rfl, if2 (fun c => ?_) (fun c => ?_)⟩
      · -- the list ends
        rw [iL_len] at c
        have hn : os[st + i]? = none := List.getElem?_eq_none (by omega)
        rw [hn] at hrd
        refine ⟨_, rfl, _, rfl, _, _, rfl, .inl (SqL.of hA), (by show 2 ≤ sizeLine; decide), fun p hp => done p hp ?_⟩
        rw [hrd]
        show ((-1 : Int), (os.length : Int)) = (-1, ((iL os).length : Int))
        rw [iL_len]
      · rw [iL_len] at c
        obtain ⟨o, ho⟩ : ∃ o, os[st + i]? = some o := ⟨os[st + i], List.getElem?_eq_getElem (by omega)⟩
        rw [ho] at hrd
        dsimp only at hrd
        have hb := hO.get ho
        have hat : atI (iL os) ((st : Int) + (0 + (i : Int))) = some (V.int o) := at_int e0 ho
        refine ⟨_, rfl, _, rfl, _, _, _, _, rfl, rfl, SqL.of hA, hat, _, _, rfl, rfl, _, rfl, ?_⟩
        by_cases c1 : o < 128
        · rw [if_pos c1] at hrd
          refine ifN (by omega) (iteF ⟨_, rfl, _, rfl, _, _, _, _, rfl, rfl, SqL.of hA, hat, _, _, rfl, rfl, _, rfl, ifD c1 ?_⟩)
          refine ⟨_, rfl, _, rfl, _, _, _, _, rfl, rfl, SqL.of hA, hat, rfl, _, rfl, ?_⟩
          by_cases c2 : o = 0
          · subst c2
            refine ifD rfl ⟨_, rfl, _, _, rfl, rfl, _, rfl, ?_⟩
            by_cases c3 : i = 0
            · subst c3
              rw [if_neg (by simp)] at hrd
              refine ifN (by omega) ⟨_, rfl, _, rfl, _, rfl, _, rfl, _, _, _, _, rfl, rfl, SqL.of hA, hat, _, _, rfl, rfl, .inr ⟨by decide, by decide⟩, _, _, rfl, rfl, _, rfl, _, _, rfl, rfl, (by show 2 ≤ sizeLine; decide), fun p hp => done p hp ?_⟩
              rw [hrd]
              show _ = (_, _)
              exact congrArg (Prod.mk _) (by omega)
            · rw [if_pos ⟨rfl, decide_eq_false c3⟩] at hrd
              refine ifD (by omega) ⟨_, rfl, _, rfl, (by show 2 ≤ sizeLine; decide), fun p hp => done p hp ?_⟩
              rw [hrd, e0]
              rfl
          · rw [if_neg (fun z => c2 z.1)] at hrd
            refine ifN (fun z => c2 (V.int.inj z)) (iteF ⟨_, rfl, _, rfl, _, rfl, _, rfl, _, _, _, _, rfl, rfl, SqL.of hA, hat, _, _, rfl, rfl, .inr ⟨by omega, by omega⟩, _, _, rfl, rfl, _, rfl, _, _, rfl, rfl, (by show 2 ≤ sizeLine; decide), fun p hp => done p hp ?_⟩)
            rw [hrd]
            show _ = (_, _)
            exact congrArg (Prod.mk _) (by omega)
        · rw [if_neg c1] at hrd
          refine ifD (by omega) ⟨_, rfl, rfl, _, rfl, ?_⟩
          by_cases c2 : i = 4
          · refine ifD (by rw [c2]; rfl) ⟨_, rfl, _, rfl, (by show 2 ≤ sizeLine; decide), fun p hp => done p hp ?_⟩
            obtain rfl : f = 0 := by omega
            rw [hrd, e0]
            rfl
          · obtain ⟨f', rfl⟩ : ∃ f', f = f' + 1 := ⟨f - 1, by omega⟩
            refine ifN (fun z => c2 (by have := V.int.inj z; omega)) ?_
            refine ⟨_, rfl, _, rfl, _, _, _, _, rfl, rfl, SqL.of hA, hat, _, _, rfl, rfl, _, rfl, ifN c1 ?_⟩
            refine ⟨_, rfl, _, rfl, _, rfl, _, rfl, _, _, _, _, rfl, rfl, SqL.of hA, hat, _, _, rfl, rfl, _, _, rfl, rfl, .inr ⟨by omega, by omega⟩, _, _, rfl, rfl, _, rfl, _, _, rfl, rfl, .inr ⟨by decide, by decide⟩, ?_⟩
            exact ⟨_, _, _, _, f', rfl, rfl, by omega, by rw [hrd, decide_eq_false (by omega : ¬ i + 1 = 0)]; rfl⟩
    · rintro σ H' ⟨n, w, v4, v5, f, rfl, rfl, hf, _⟩
      exact absurd hf (by omega)
end
end K17
set_option maxHeartbeats 4000000
namespace K17
open PySem PySem.Spec PyProof.Rows L2
theorem kwA : ¬ V.str "keep" = V.str "add" := by decide +kernel
theorem drA : ¬ V.str "drop" = V.str "add" := by decide +kernel
theorem drK : ¬ V.str "drop" = V.str "keep" := by decide +kernel
theorem kwD : ¬ V.str "keep" = V.str "drop" := by decide +kernel
theorem adD : ¬ V.str "add" = V.str "drop" := by decide +kernel
theorem adK : ¬ V.str "add" = V.str "keep" := by decide +kernel
section
variable {w : World} {K : PySem.W.Frag} {mg : Str → Option Value} {base : Heap} {CE fI : Addr}
/-! ### number_octets -/
abbrev s_number_octets : Stmt := top 12
theorem sc_number_octets : FnScope ["number", "octets"] ["number"] (defScope s_number_octets) := ⟨rfl, rfl, rfl, by decide +kernel, rfl, by decide +kernel, by decide +kernel⟩
def spNum : Sp := fun vs H Q _ => ∃ n : Nat, vs = [.int n] ∧ n < 34359738368 ∧ ∀ (p : Addr) (H' : Hp), Ex H H' → H' p = some (.lst (iL (num n))) → Q (.ref p) H'
theorem can_num (B : Bl mg) (D : Df K mg "number_octets" s_number_octets) : Can w K mg base CX0 1 "number_octets" ["number"] spNum := by
  obtain ⟨f, fd, g, F⟩ := D
  refine ⟨f, fd, g, F.kp, F.binds fun _ _ _ _ _ _ us hl => match us, hl with | [_], _ => rfl, F.ok sc_number_octets (fun vs H Q E h => ?_) (fun cdv A outer s H vs Q E hr h => ?_)⟩
  · obtain ⟨n, rfl, _⟩ := h
    rfl
  · obtain ⟨n, rfl, hn, q⟩ := h
    refine ⟨_, (pss_cons (ps_if (PW.pt (pw_or (pt_cmpR op_lt (pv 0) pe_int (nomark _)) (pw_or1 (pt_cmpR op_gt (pv 0) (pe_glob (v := .int 34359738367) rfl B.GREATEST_NUMBER.choose_spec ⟨_, rfl⟩) (nomark _))))) (pss_one ps_never) pss_nil)
    (pss_cons (ps_set (i := 1) sc_number_octets.nd rfl (Or.inl rfl) (pe_lst pa_nil))
    (pss_cons (ps_while PassesOwn.never (pt_cmpR op_ge (pv 0) pe_int (nomark _)) (pss_cons (ps_expr (pe_bm PySem.F.plainAttrs_list PySem.F.slot_list_append PySem.F.type_list_append mt_append (pv 1) (pa_cons (pe_op op_add pe_int (pe_op op_mod (pv 0) pe_int)) pa_nil)))
    (pss_one (ps_aug (i := 0) sc_number_octets.nd rfl (Or.inl rfl) pe_int (pip_of iop_fdiv)))))
    (pss_cons (ps_expr (pe_bm PySem.F.plainAttrs_list PySem.F.slot_list_append PySem.F.type_list_append mt_append (pv 1) (pa_cons (pv 0) pa_nil)))
    (pss_one (ps_ret (pv 1))))))), ?_⟩
    refine ⟨_, rfl, _, _, rfl, rfl, _, rfl, ifN (by omega) ⟨_, rfl, _, _, rfl, rfl, _, rfl, ifN (by omega) ?_⟩⟩
    refine ⟨sz0, fun l hl => ⟨fun m σ H' => ∃ ns : List Int, σ = [some (.int (m : Int)), some (.ref l)] ∧ Ex H H' ∧ H' l = some (.lst (iL ns)) ∧ ns ++ num m = num n, ⟨n, [], rfl, Evl.Ex.new hl, upd_same, rfl⟩, ?_⟩⟩
    rintro m σ H' ⟨ns, rfl, e, h1, h2⟩
    have l5 := num_len5 hn
    have lm := num_pos m
    have ll : ns.length + (num m).length = (num n).length := by rw [← List.length_append, h2]
    have fit : (iL ns).length < sizeLine := fitsL (by rw [iL_len]; omega)
    refine ⟨_, rfl, _, _, rfl, rfl, _, rfl, if2 (fun c => ?_) (fun c => ?_)⟩
    · refine ⟨fun σ' H' => ∃ ns : List Int, σ' = [some (.int ((m / 128 : Nat) : Int)), some (.ref l)] ∧ Ex H H' ∧ H' l = some (.lst (iL ns)) ∧ ns ++ num (m / 128) = num n, fun σ' H' z => ⟨m / 128, by omega, z⟩, ?_⟩
      refine ⟨_, rfl, .inl ⟨rfl, _, SqL.of h1⟩, _, rfl, _, _, rfl, rfl, (by decide : (0 : Int) < 128), _, _, rfl, rfl, l, _, _, rfl, rfl, h1, fit, ?_⟩
      refine ⟨_, rfl, _, _, rfl, rfl, ⟨by decide, by decide⟩, ns ++ [((128 + m % 128 : Nat) : Int)], ?_, Evl.Ex.mut e hl, ?_, ?_⟩
      · show [some (V.int ((m : Int) / 128)), some (V.ref l)] = _
        rw [show (m : Int) / 128 = ((m / 128 : Nat) : Int) by omega]
      · rw [upd_same, iL_snoc, show ((128 + m % 128 : Nat) : Int) = 128 + (m : Int) % 128 by omega]
      · rw [← h2, num_ge (n := m) (by omega), List.append_assoc]
        rfl
    · refine ⟨_, rfl, .inl ⟨rfl, _, SqL.of h1⟩, _, rfl, l, _, _, rfl, rfl, h1, fit, _, rfl, q l _ (Evl.Ex.mut e hl) ?_⟩
      rw [upd_same, ← h2, num_lt (n := m) (by omega), iL_snoc]
/-! ### read_number -/
abbrev s_read_number : Stmt := top 13
theorem sc_read_number : FnScope ["octets", "start", "number", "weight", "at", "octet"] ["octets", "start"] (defScope s_read_number) := ⟨rfl, rfl, rfl, by decide +kernel, rfl, by decide +kernel, by decide +kernel⟩
def spRd (CE : Addr) : Sp := fun vs H Q E => ∃ (a : Addr) (os : List Int) (s : Nat), vs = [.ref a, .int s] ∧ H a = some (.lst (iL os)) ∧ Oct os ∧ os.length ≤ 100000 ∧ s ≤ 100000 ∧
  (∀ n b, rd os s = .ok n b → ∀ (p : Addr) (H' : Hp), Ex H H' → H' p = some (.tup [.int n, .int b]) → Q (.ref p) H') ∧ ∀ p, rd os s = .bad p → Bad CE E p
theorem can_rd (B : Bl mg) (TE : EncTxt K mg CE fI) (D : Df K mg "read_number" s_read_number) : Can w K mg base (L2.CX prog17 w) 1 "read_number" ["octets", "start"] (spRd CE) := by
  obtain ⟨f, fd, g, F⟩ := D
  refine ⟨f, fd, g, F.kp, F.binds fun _ _ _ _ _ _ us hl => match us, hl with | [_, _], _ => rfl, F.okX sc_read_number (fun vs H Q E h => ?_) (fun cdv A outer s H vs Q E hr h => ?_)⟩
  · obtain ⟨a, os, st, rfl, _⟩ := h
    rfl
  · obtain ⟨a, os, st, rfl, hA, hO, hz, hs, q, qb⟩ := h
    refine ⟨_, (pss_cons (ps_set (i := 2) sc_read_number.nd rfl (Or.inl rfl) pe_int)
    (pss_cons (ps_set (i := 3) sc_read_number.nd rfl (Or.inl rfl) pe_int)
    (pss_cons (ps_for ownE rfl (pi_range2 (by rfl) B.range_ (pa_cons (pv 1) (pa_cons (pe_callB (call_min2 rfl) (by rfl) B.min_ (by decide +kernel) (pa_cons (pe_callB call_len_seq (by rfl) B.len_ (by decide +kernel) (pa_cons (pv 0) pa_nil)) (pa_cons (pe_op op_add (pv 1) (pe_glob (v := .int 5) rfl B.MOST_DIGITS.choose_spec ⟨_, rfl⟩)) pa_nil))) pa_nil))) (pg_name (i := 4) sc_read_number.nd rfl (Or.inl rfl))
    (pss_cons (ps_set (i := 5) sc_read_number.nd rfl (Or.inl rfl) (pe_ix ix_list (pv 0) (pv 4) (fun _ _ => rfl)))
    (pss_cons (ps_if (pt_cmpR op_lt (pv 5) pe_int (nomark _)) (pss_cons (ps_if (PW.pt (pw_and (pt_cmpR op_eq (pv 5) pe_int (nomark _)) (pw_and1 (pt_cmpR op_gt (pv 4) (pv 1) (nomark _))))) (pss_one (ps_raiseE rfl rfl TE hr (takes_of rfl rfl rfl rfl) (by exact (pa_cons (pv 4) pa_nil)))) pss_nil)
    (pss_one (ps_ret (pe_tup (pa_cons (pe_op op_add (pv 2) (pe_op op_mul (pv 3) (pv 5))) (pa_cons (pe_op op_add (pv 4) pe_int) pa_nil)))))) pss_nil)
    (pss_cons (ps_aug (i := 2) sc_read_number.nd rfl (Or.inl rfl) (pe_op op_mul (pv 3) (pe_op op_sub (pv 5) pe_int)) ip_add)
    (pss_one (ps_aug (i := 3) sc_read_number.nd rfl (Or.inl rfl) pe_int (pip_of iop_mul)))))))
    (pss_one (ps_raiseE rfl rfl TE hr (takes_of rfl rfl rfl rfl) (by exact (pa_cons (pe_callB (call_min2 rfl) (by rfl) B.min_ (by decide +kernel) (pa_cons (pe_callB call_len_seq (by rfl) B.len_ (by decide +kernel) (pa_cons (pv 0) pa_nil)) (pa_cons (pe_op op_sub (pe_op op_add (pv 1) (pe_glob (v := .int 5) rfl B.MOST_DIGITS.choose_spec ⟨_, rfl⟩)) pe_int) pa_nil))) pa_nil))))))), ?_⟩
    have lo : (iL os).length = os.length := iL_len os
    obtain ⟨hi, ehi⟩ : ∃ hi : Int, hi = if (st : Int) + 5 < ((iL os).length : Int) then (st : Int) + 5 else ((iL os).length : Int) := ⟨_, rfl⟩
    have bhi : (hi = (st : Int) + 5 ∧ (st : Int) + 5 < os.length) ∨ (hi = os.length ∧ ¬ (st : Int) + 5 < os.length) := by
      rw [lo] at ehi
      by_cases c : (st : Int) + 5 < os.length
      · exact .inl ⟨by rw [ehi, if_pos c], c⟩
      · exact .inr ⟨by rw [ehi, if_neg c], c⟩
    refine ⟨_, rfl, _, rfl, _, _, rfl, .inl (SqL.of hA), _, rfl, _, _, rfl, rfl, _, _, rfl, ?_⟩
    rw [← ehi]
    refine ⟨_, _, rfl, ⟨by omega, by omega, by omega, by omega⟩, for_range (lo := (st : Int)) (n := (hi - st).toNat) (fun i σ H' => ∃ (n w : Int) (v4 v5 : Option V) (f : Nat), σ = [some (.ref a), some (.int st), some (.int n), some (.int w), v4, v5] ∧ H' = H ∧ i + f = 5 ∧ rd os st = rdF os f (st + i) (decide (i = 0)) n w)
      ⟨0, 1, none, none, 5, rfl, rfl, rfl, rfl⟩ ?_ ?_⟩
    · rintro i σ H' hi2 ⟨n, w, v4, v5, f, rfl, rfl, hf, hrd⟩
      obtain ⟨f', rfl⟩ : ∃ f', f = f' + 1 := ⟨f - 1, by omega⟩
      have e0 : (st : Int) + (i : Int) = ((st + i : Nat) : Int) := by omega
      rw [rdF] at hrd
      obtain ⟨o, ho⟩ : ∃ o, os[st + i]? = some o := ⟨os[st + i], List.getElem?_eq_getElem (by omega)⟩
      rw [ho] at hrd
      dsimp only at hrd
      have hb := hO.get ho
      refine ⟨_, rfl, _, rfl, _, _, _, _, rfl, rfl, SqL.of hA, at_int e0 ho, ?_⟩
      refine ⟨_, rfl, _, _, rfl, rfl, _, rfl, if2 (fun c => ?_) (fun c => ?_)⟩
      · rw [if_pos c] at hrd
        refine ⟨_, rfl, rfl, _, rfl, ?_⟩
        have fin : ¬ (o = 0 ∧ decide (i = 0) = false) → rdV (rd os st) = (n + w * o, (((st + i + 1 : Nat)) : Int)) ∧ rd os st = .ok (n + w * o) (st + i + 1) := fun z => by
          rw [if_neg z] at hrd
          rw [hrd]
          exact ⟨rfl, rfl⟩
        by_cases c2 : o = 0
        · refine ifD (by rw [c2]) ⟨_, rfl, _, rfl, _, _, rfl, rfl, _, rfl, ?_⟩
          by_cases c3 : i = 0
          · obtain ⟨_, g2⟩ := fin fun z => by rw [decide_eq_true c3] at z; exact Bool.noConfusion z.2
            refine ifN (by omega) ⟨_, rfl, _, rfl, _, rfl, _, _, rfl, rfl, .inr ⟨by omega, by omega⟩, _, _, rfl, rfl, _, rfl, _, _, rfl, rfl, (by show 2 ≤ sizeLine; decide), fun p hp => q _ _ g2 p _ (Evl.Ex.new hp) ?_⟩
            rw [upd_same]
            show some (HO.tup [V.int (n + w * o), V.int ((st : Int) + (i : Int) + 1)]) = _
            rw [show (st : Int) + (i : Int) + 1 = ((st + i + 1 : Nat) : Int) by omega]
          · rw [if_pos ⟨c2, decide_eq_false c3⟩] at hrd
            refine ifD (by omega) ⟨_, rfl, _, rfl, by rw [e0]; exact log_nat (by omega), fun d hd => qb _ hrd d _ ?_⟩
            rw [upd_same, e0]
        · obtain ⟨_, g2⟩ := fin fun z => c2 z.1
          refine ifN (fun z => c2 (V.int.inj z)) (iteF ⟨_, rfl, _, rfl, _, rfl, _, _, rfl, rfl, .inr ⟨by omega, by omega⟩, _, _, rfl, rfl, _, rfl, _, _, rfl, rfl, (by show 2 ≤ sizeLine; decide), fun p hp => q _ _ g2 p _ (Evl.Ex.new hp) ?_⟩)
          rw [upd_same]
          show some (HO.tup [V.int (n + w * o), V.int ((st : Int) + (i : Int) + 1)]) = _
          rw [show (st : Int) + (i : Int) + 1 = ((st + i + 1 : Nat) : Int) by omega]
      · rw [if_neg c] at hrd
        refine ⟨_, rfl, _, rfl, _, rfl, _, _, rfl, rfl, _, _, rfl, rfl, .inr ⟨by omega, by omega⟩, _, _, rfl, rfl, _, rfl, _, _, rfl, rfl, .inr ⟨by decide, by decide⟩, ?_⟩
        exact ⟨_, _, _, _, f', rfl, rfl, by omega, by rw [hrd, decide_eq_false (by omega : ¬ i + 1 = 0)]; rfl⟩
    · rintro σ H' ⟨n, w, v4, v5, f, rfl, rfl, hf, hrd⟩
      refine ⟨_, rfl, _, _, rfl, .inl (SqL.of hA), _, rfl, _, _, rfl, rfl, _, _, rfl, rfl, _, _, rfl, ?_⟩
      rcases bhi with ⟨b1, b2⟩ | ⟨b1, b2⟩
      · obtain rfl : f = 0 := by omega
        rw [rdF] at hrd
        have ev : (if (st : Int) + 5 - 1 < ((iL os).length : Int) then (st : Int) + 5 - 1 else ((iL os).length : Int)) = ((st + (hi - st).toNat - 1 : Nat) : Int) := by rw [lo, if_pos (by omega)]; omega
        exact ⟨_, congrArg (fun z => [V.int z]) ev, log_nat (by omega), fun d hd => qb _ hrd d _ upd_same⟩
      · by_cases c : os.length ≤ st + 4
        · obtain ⟨f', rfl⟩ : ∃ f', f = f' + 1 := ⟨f - 1, by omega⟩
          rw [rdF, List.getElem?_eq_none (by omega)] at hrd
          dsimp only at hrd
          have ev : (if (st : Int) + 5 - 1 < ((iL os).length : Int) then (st : Int) + 5 - 1 else ((iL os).length : Int)) = (os.length : Int) := by rw [lo]; by_cases z : (st : Int) + 5 - 1 < os.length; · omega
                                                                                                                                                   · rw [if_neg z]
          exact ⟨_, congrArg (fun z => [V.int z]) ev, log_nat (by omega), fun d hd => qb _ hrd d _ upd_same⟩
        · obtain rfl : f = 0 := by omega
          rw [rdF] at hrd
          have ev : (if (st : Int) + 5 - 1 < ((iL os).length : Int) then (st : Int) + 5 - 1 else ((iL os).length : Int)) = ((st + (hi - st).toNat - 1 : Nat) : Int) := by rw [lo, if_pos (by omega)]; omega
          exact ⟨_, congrArg (fun z => [V.int z]) ev, log_nat (by omega), fun d hd => qb _ hrd d _ upd_same⟩
end
end K17
set_option maxHeartbeats 4000000
namespace K17
open PySem PySem.Spec PyProof.Rows L2
/-- a script that takes a list of this length: what both patches ask -/
structure Fit (old : List Int) (st : List Step) : Prop where
  nn : ∀ s ∈ st, 0 ≤ cnt s
  sum : csum st = old.length
  small : old.length + asum st ≤ 100000
theorem ptF_next {old : List Int} {st : List Step} {i : Nat} {s : Step} (h : st[i]? = some s) : ptF old (st.take (i + 1)) = pt1 old (ptF old (st.take i)) s := by
  unfold ptF
  rw [take_next h, List.foldl_append]
  rfl
theorem csum_take_nn {st : List Step} (nn : ∀ s ∈ st, 0 ≤ cnt s) (i : Nat) : 0 ≤ csum (st.take i) := csum_nn fun s hs => nn s (List.mem_of_mem_take hs)
theorem csum_split (st : List Step) (i : Nat) : csum st = csum (st.take i) + csum (st.drop i) := by rw [← csum_app, List.take_append_drop]
theorem asum_split (st : List Step) (i : Nat) : asum st = asum (st.take i) + asum (st.drop i) := by rw [← asum_app, List.take_append_drop]
theorem csum_next {st : List Step} {i : Nat} {s : Step} (h : st[i]? = some s) : csum (st.take (i + 1)) = csum (st.take i) + cnt s := by
  rw [take_next h, csum_app]
  show _ + (cnt s + 0) = _
  omega
theorem asum_next {st : List Step} {i : Nat} {s : Step} (h : st[i]? = some s) : asum (st.take (i + 1)) = asum (st.take i) + alen s := by
  rw [take_next h, asum_app]
  show _ + (alen s + 0) = _
  omega
theorem dsum_le {l : List Step} (h : ∀ s ∈ l, 0 ≤ cnt s) : 0 ≤ dsum l := dsum_nn h
theorem Fit.le {old : List Int} {st : List Step} (F : Fit old st) (i : Nat) : csum (st.take i) ≤ old.length := by
  have h1 := csum_split st i
  have h2 := csum_nn (l := st.drop i) fun s hs => F.nn s (List.mem_of_mem_drop hs)
  have h3 := F.sum
  omega
theorem Fit.part {old : List Int} {st : List Step} (F : Fit old st) (i : Nat) : (ptF old (st.take i)).2.length ≤ old.length + asum (st.take i) ∧ asum (st.take i) ≤ asum st := by
  have h1 := F.le i
  have h2 := pt_len (old := old) (st.take i) (0, []) (fun s hs => F.nn s (List.mem_of_mem_take hs)) (Int.le_refl _) (by show 0 + csum _ ≤ _; omega)
  have h3 := dsum_nn (l := st.take i) fun s hs => F.nn s (List.mem_of_mem_take hs)
  have h4 : ((ptF old (st.take i)).2.length : Int) = ((0 : Nat) : Int) + csum (st.take i) - dsum (st.take i) + asum (st.take i) := h2
  have h5 := asum_split st i
  omega
/-- what patch's turn at step i asks: the place, the sizes -/
theorem Fit.turn {old : List Int} {st : List Step} (F : Fit old st) {i : Nat} {s : Step} (h : st[i]? = some s) :
    ∃ a : Nat, (ptF old (st.take i)).1 = (a : Int) ∧ (a : Int) + cnt s ≤ old.length ∧ 0 ≤ cnt s ∧ (ptF old (st.take i)).2.length + alen s ≤ 100000 ∧ (ptF old (st.take i)).2.length + cnt s ≤ 200000 := by
  have h0 := csum_take_nn F.nn i
  have h1 := F.le (i + 1)
  rw [csum_next h] at h1
  have h2 := F.nn s (List.mem_of_getElem? h)
  obtain ⟨h3, h4⟩ := F.part i
  have h5 := (F.part (i + 1)).2
  rw [asum_next h] at h5
  have h6 := F.small
  refine ⟨(csum (st.take i)).toNat, by rw [ptF_fst]; omega, by omega, h2, by omega, by omega⟩
theorem fits200 {n : Nat} (h : n ≤ 200000) : n ≤ sizeLine := Nat.le_trans h (by rw [sizeLine_eq]; decide)
section
variable {w : World} {K : PySem.W.Frag} {mg : Str → Option Value} {base : Heap} {CE fI : Addr}
/-! ### patch -/
abbrev s_patch : Stmt := top 8
theorem sc_patch : FnScope ["old", "script", "new", "at", "kind", "part"] ["old", "script"] (defScope s_patch) := ⟨rfl, rfl, rfl, by decide +kernel, rfl, by decide +kernel, by decide +kernel⟩
def spPatch : Sp := fun vs H Q _ => ∃ (a b : Addr) (old : List Int) (ws : List V) (st : List Step), vs = [.ref a, .ref b] ∧ H a = some (.lst (iL old)) ∧ H b = some (.tup ws) ∧ Sts H ws st ∧ Fit old st ∧
  ∀ (p : Addr) (H' : Hp), Ex H H' → H' p = some (.lst (iL (ptc old st))) → Q (.ref p) H'
theorem can_patch (B : Bl mg) (D : Df K mg "patch" s_patch) : Can w K mg base CX0 1 "patch" ["old", "script"] spPatch := by
  obtain ⟨f, fd, g, F⟩ := D
  refine ⟨f, fd, g, F.kp, F.binds fun _ _ _ _ _ _ us hl => match us, hl with | [_, _], _ => rfl, F.ok sc_patch (fun vs H Q E h => ?_) (fun cdv A outer s H vs Q E hr h => ?_)⟩
  · obtain ⟨a, b, old, ws, st, rfl, _⟩ := h
    rfl
  · obtain ⟨a, b, old, ws, st, rfl, hA, hB, hS, hF, q⟩ := h
    refine ⟨_, (pss_cons (ps_set (i := 2) sc_patch.nd rfl (Or.inl rfl) (pe_lst pa_nil))
    (pss_cons (ps_set (i := 3) sc_patch.nd rfl (Or.inl rfl) pe_int)
    (pss_cons (ps_for PassesOwn.never rfl (pi_tup (pv 1)) (pg_tup rfl (pgs_cons (pg_name (i := 4) sc_patch.nd rfl (Or.inl rfl)) (pgs_cons (pg_name (i := 5) sc_patch.nd rfl (Or.inl rfl)) pgs_nil)))
    (pss_one (ps_if (pt_cmpR op_eq (pv 4) pe_str (nomark _)) (pss_one (ps_aug (i := 2) sc_patch.nd rfl (Or.inl rfl) (pe_callTy call_list_of (by rfl) B.list_ (by decide +kernel) (pa_cons (pv 5) pa_nil)) (pip_of iop_ext))) (pss_cons (ps_if (pt_cmpR op_gt (pe_op op_add (pv 3) (pv 5)) (pe_callB call_len_seq (by rfl) B.len_ (by decide +kernel) (pa_cons (pv 0) pa_nil)) (nomark _)) (pss_one ps_never) pss_nil)
    (pss_cons (ps_if (pt_cmpR op_eq (pv 4) pe_str (nomark _)) (pss_one (ps_aug (i := 2) sc_patch.nd rfl (Or.inl rfl) (pe_slice sl_list (pv 0) (po_some (pv 3)) (po_some (pe_op op_add (pv 3) (pv 5)))) (pip_of iop_ext))) pss_nil)
    (pss_one (ps_aug (i := 3) sc_patch.nd rfl (Or.inl rfl) (pv 5) ip_add)))))))
    (pss_cons (ps_if (pt_cmpR op_lt (pv 3) (pe_callB call_len_seq (by rfl) B.len_ (by decide +kernel) (pa_cons (pv 0) pa_nil)) (nomark _)) (pss_one ps_never) pss_nil)
    (pss_one (ps_ret (pv 2))))))), ?_⟩
    have hlen := paired_len hS
    refine ⟨sz0, fun l hl => ⟨_, rfl, b, rfl, ⟨_, SqT.of (Evl.Ex.new hl _ _ hB)⟩, for_tup (K := K) (a := b) (xs := ws) (fun i σ H' => ∃ v4 v5 : Option V, σ = [some (.ref a), some (.ref b), some (.ref l), some (.int (ptF old (st.take i)).1), v4, v5] ∧ Ex H H' ∧ H' l = some (.lst (iL (ptF old (st.take i)).2)))
      ⟨none, none, rfl, Evl.Ex.new hl, upd_same⟩ (fun i σ H' _ ⟨_, _, _, e, _⟩ => SqT.of (e _ _ hB)) ?_ ?_⟩⟩
    · rintro i y σ H' hi ⟨v4, v5, rfl, e, hL⟩
      obtain ⟨s, hs, hy⟩ := paired_at hS hi
      obtain ⟨at0, e1, e2, e3, e4, e5⟩ := hF.turn hs
      have nx := ptF_next (old := old) hs
      cases s with
      | add xs =>
        obtain ⟨p, r, rfl, hp, hr2⟩ := hy
        refine ⟨p, _, rfl, SqT.of (e _ _ hp), rfl, _, _, rfl, _, _, rfl, rfl, ?_⟩
        refine ⟨_, rfl, rfl, _, rfl, ifD rfl ⟨_, rfl, _, rfl, _, _, rfl, .inr (SqT.of (e _ _ hr2)), fun l2 hl2 => ?_⟩⟩
        have n2 : l ≠ l2 := ne_of_none hL hl2
        refine ⟨l, l2, _, _, rfl, rfl, by rw [upd_ne n2]; exact hL, upd_same, fits200 (by rw [iL_len, iL_len]; have : alen (.add xs) = xs.length := rfl; omega), ?_⟩
        refine ⟨some (V.str "add"), some (V.ref r), ?_, Evl.Ex.mut (Evl.Ex.trans e (Evl.Ex.new hl2)) hl, ?_⟩
        · rw [nx]; rfl
        · rw [upd_same, nx, ← iL_app]; rfl
      | keep n =>
        obtain ⟨p, rfl, hp⟩ := hy
        have e2 : (at0 : Int) + n ≤ old.length := e2
        have e3 : 0 ≤ n := e3
        refine ⟨p, _, rfl, SqT.of (e _ _ hp), rfl, _, _, rfl, _, _, rfl, rfl, ?_⟩
        refine ⟨_, rfl, rfl, _, rfl, ifN kwA ⟨_, rfl, _, rfl, _, _, rfl, rfl, _, rfl, _, _, rfl, .inl (SqL.of (e _ _ hA)), _, _, rfl, rfl, _, rfl, ifN (by rw [iL_len, e1]; omega) ?_⟩⟩
        refine ⟨_, rfl, rfl, _, rfl, ifD rfl ⟨_, rfl, _, rfl, _, rfl, _, rfl, _, rfl, _, rfl, _, _, rfl, rfl, _, rfl, a, _, rfl, SqL.of (e _ _ hA), fun l2 hl2 => ?_⟩⟩
        have n2 : l ≠ l2 := ne_of_none hL hl2
        have ec : cutV (iL old) (some (ptF old (st.take i)).1) (some ((ptF old (st.take i)).1 + n)) = iL ((old.drop at0).take n.toNat) := cut_int old at0 n.toNat _ _ e1 (by omega)
        refine ⟨l, l2, _, _, rfl, rfl, by rw [upd_ne n2]; exact hL, upd_same, fits200 (by rw [ec, iL_len, iL_len, List.length_take]; have : cnt (.keep n) = n := rfl; omega), ?_⟩
        refine ⟨_, rfl, _, rfl, _, _, rfl, rfl, some (V.str "keep"), some (V.int n), ?_, Evl.Ex.mut (Evl.Ex.trans e (Evl.Ex.new hl2)) hl, ?_⟩
        · rw [nx]; rfl
        · rw [upd_same, nx, ec, ← iL_app]
          show _ = some (HO.lst (iL ((ptF old (st.take i)).2 ++ (old.drop (ptF old (st.take i)).1.toNat).take n.toNat)))
          rw [e1]; rfl
      | drop n =>
        obtain ⟨p, rfl, hp⟩ := hy
        have e2 : (at0 : Int) + n ≤ old.length := e2
        refine ⟨p, _, rfl, SqT.of (e _ _ hp), rfl, _, _, rfl, _, _, rfl, rfl, ?_⟩
        refine ⟨_, rfl, rfl, _, rfl, ifN drA ⟨_, rfl, _, rfl, _, _, rfl, rfl, _, rfl, _, _, rfl, .inl (SqL.of (e _ _ hA)), _, _, rfl, rfl, _, rfl, ifN (by rw [iL_len, e1]; omega) ?_⟩⟩
        refine ⟨_, rfl, rfl, _, rfl, ifN drK ⟨_, rfl, _, rfl, _, _, rfl, rfl, some (V.str "drop"), some (V.int n), ?_, e, ?_⟩⟩
        · rw [nx]; rfl
        · rw [nx]; exact hL
    · rintro σ H' ⟨v4, v5, rfl, e, hL⟩
      rw [hlen, List.take_length] at hL
      rw [hlen, List.take_length]
      refine ⟨_, rfl, _, rfl, _, _, rfl, .inl (SqL.of (e _ _ hA)), _, _, rfl, rfl, _, rfl, ifN (by rw [iL_len, ptF_fst, hF.sum]; omega) ⟨_, rfl, q l H' e hL⟩⟩
/-! ### _law_patch -/
abbrev s_law_patch : Stmt := top 30
theorem sc_law_patch : FnScope ["_law_old", "_law_script_here", "_law_new", "_law_at", "_law_kind", "_law_part"] ["_law_old", "_law_script_here"] (defScope s_law_patch) := ⟨rfl, rfl, rfl, by decide +kernel, rfl, by decide +kernel, by decide +kernel⟩
def spLPatch : Sp := fun vs H Q _ => ∃ (a b : Addr) (old : List Int) (ws : List V) (st : List Step), vs = [.ref a, .ref b] ∧ H a = some (.lst (iL old)) ∧ H b = some (.lst ws) ∧ Sts H ws st ∧ Fit old st ∧
  ∀ (p : Addr) (H' : Hp), Ex H H' → H' p = some (.lst (iL (ptc old st))) → Q (.ref p) H'
theorem can_lpatch (B : Bl mg) (D : Df K mg "_law_patch" s_law_patch) : Can w K mg base CX0 1 "_law_patch" ["_law_old", "_law_script_here"] spLPatch := by
  obtain ⟨f, fd, g, F⟩ := D
  refine ⟨f, fd, g, F.kp, F.binds fun _ _ _ _ _ _ us hl => match us, hl with | [_, _], _ => rfl, F.ok sc_law_patch (fun vs H Q E h => ?_) (fun cdv A outer s H vs Q E hr h => ?_)⟩
  · obtain ⟨a, b, old, ws, st, rfl, _⟩ := h
    rfl
  · obtain ⟨a, b, old, ws, st, rfl, hA, hB, hS, hF, q⟩ := h
    refine ⟨_, (pss_cons (ps_set (i := 2) sc_law_patch.nd rfl (Or.inl rfl) (pe_lst pa_nil))
    (pss_cons (ps_set (i := 3) sc_law_patch.nd rfl (Or.inl rfl) pe_int)
    (pss_cons (ps_for PassesOwn.never rfl (pi_list (pv 1)) (pg_tup rfl (pgs_cons (pg_name (i := 4) sc_law_patch.nd rfl (Or.inl rfl)) (pgs_cons (pg_name (i := 5) sc_law_patch.nd rfl (Or.inl rfl)) pgs_nil)))
    (pss_one (ps_if (pt_cmpR op_eq (pv 4) pe_str (nomark _)) (pss_one (ps_set (i := 2) sc_law_patch.nd rfl (Or.inl rfl) (pe_op op_cat (pv 2) (pe_callTy call_list_of (by rfl) B.list_ (by decide +kernel) (pa_cons (pv 5) pa_nil))))) (pss_cons (ps_if (pt_cmpR op_gt (pe_op op_add (pv 3) (pv 5)) (pe_callB call_len_seq (by rfl) B.len_ (by decide +kernel) (pa_cons (pv 0) pa_nil)) (nomark _)) (pss_one (ps_ret pe_non)) pss_nil)
    (pss_cons (ps_if (pt_cmpR op_eq (pv 4) pe_str (nomark _)) (pss_one (ps_set (i := 2) sc_law_patch.nd rfl (Or.inl rfl) (pe_op op_cat (pv 2) (pe_slice sl_list (pv 0) (po_some (pv 3)) (po_some (pe_op op_add (pv 3) (pv 5))))))) pss_nil)
    (pss_one (ps_set (i := 3) sc_law_patch.nd rfl (Or.inl rfl) (pe_op op_add (pv 3) (pv 5)))))))))
    (pss_cons (ps_if (pt_cmpR op_lt (pv 3) (pe_callB call_len_seq (by rfl) B.len_ (by decide +kernel) (pa_cons (pv 0) pa_nil)) (nomark _)) (pss_one (ps_ret pe_non)) pss_nil)
    (pss_one (ps_ret (pv 2))))))), ?_⟩
    have hlen := paired_len hS
    refine ⟨sz0, fun l0 hl0 => ⟨_, rfl, b, rfl, ⟨_, SqL.of (Evl.Ex.new hl0 _ _ hB)⟩, for_list (K := K) (a := b) (xs := ws) (fun i σ H' => ∃ (l : Addr) (v4 v5 : Option V), σ = [some (.ref a), some (.ref b), some (.ref l), some (.int (ptF old (st.take i)).1), v4, v5] ∧ Ex H H' ∧ H' l = some (.lst (iL (ptF old (st.take i)).2)))
      ⟨l0, none, none, rfl, Evl.Ex.new hl0, upd_same⟩ (fun i σ H' _ ⟨_, _, _, _, e, _⟩ => SqL.of (e _ _ hB)) ?_ ?_⟩⟩
    · rintro i y σ H' hi ⟨l, v4, v5, rfl, e, hL⟩
      obtain ⟨s, hs, hy⟩ := paired_at hS hi
      obtain ⟨at0, e1, e2, e3, e4, e5⟩ := hF.turn hs
      have nx := ptF_next (old := old) hs
      cases s with
      | add xs =>
        obtain ⟨p, r, rfl, hp, hr2⟩ := hy
        refine ⟨p, _, rfl, SqT.of (e _ _ hp), rfl, _, _, rfl, _, _, rfl, rfl, ?_⟩
        refine ⟨_, rfl, rfl, _, rfl, ifD rfl ⟨_, rfl, _, rfl, _, _, rfl, .inr (SqT.of (e _ _ hr2)), fun l2 hl2 => ?_⟩⟩
        have n2 : l ≠ l2 := ne_of_none hL hl2
        refine ⟨l, l2, _, _, rfl, rfl, by rw [upd_ne n2]; exact hL, upd_same, fits200 (by rw [iL_len, iL_len]; have : alen (.add xs) = xs.length := rfl; omega), fun l3 hl3 => ?_⟩
        refine ⟨l3, some (V.str "add"), some (V.ref r), ?_, Evl.Ex.trans e ((Evl.Ex.new hl2).trans (Evl.Ex.new hl3)), ?_⟩
        · rw [nx]; rfl
        · rw [upd_same, nx, ← iL_app]; rfl
      | keep n =>
        obtain ⟨p, rfl, hp⟩ := hy
        have e2 : (at0 : Int) + n ≤ old.length := e2
        have e3 : 0 ≤ n := e3
        refine ⟨p, _, rfl, SqT.of (e _ _ hp), rfl, _, _, rfl, _, _, rfl, rfl, ?_⟩
        refine ⟨_, rfl, rfl, _, rfl, ifN kwA ⟨_, rfl, _, rfl, _, _, rfl, rfl, _, rfl, _, _, rfl, .inl (SqL.of (e _ _ hA)), _, _, rfl, rfl, _, rfl, ifN (by rw [iL_len, e1]; omega) ?_⟩⟩
        refine ⟨_, rfl, rfl, _, rfl, ifD rfl ⟨_, rfl, _, rfl, _, rfl, _, rfl, _, rfl, _, rfl, _, _, rfl, rfl, _, rfl, a, _, rfl, SqL.of (e _ _ hA), fun l2 hl2 => ?_⟩⟩
        have n2 : l ≠ l2 := ne_of_none hL hl2
        have ec : cutV (iL old) (some (ptF old (st.take i)).1) (some ((ptF old (st.take i)).1 + n)) = iL ((old.drop at0).take n.toNat) := cut_int old at0 n.toNat _ _ e1 (by omega)
        refine ⟨l, l2, _, _, rfl, rfl, by rw [upd_ne n2]; exact hL, upd_same, fits200 (by rw [ec, iL_len, iL_len, List.length_take]; have : cnt (.keep n) = n := rfl; omega), fun l3 hl3 => ?_⟩
        refine ⟨_, rfl, _, rfl, _, _, rfl, rfl, l3, some (V.str "keep"), some (V.int n), ?_, Evl.Ex.trans e ((Evl.Ex.new hl2).trans (Evl.Ex.new hl3)), ?_⟩
        · rw [nx]; rfl
        · rw [upd_same, nx, ec, ← iL_app]
          show _ = some (HO.lst (iL ((ptF old (st.take i)).2 ++ (old.drop (ptF old (st.take i)).1.toNat).take n.toNat)))
          rw [e1]; rfl
      | drop n =>
        obtain ⟨p, rfl, hp⟩ := hy
        have e2 : (at0 : Int) + n ≤ old.length := e2
        refine ⟨p, _, rfl, SqT.of (e _ _ hp), rfl, _, _, rfl, _, _, rfl, rfl, ?_⟩
        refine ⟨_, rfl, rfl, _, rfl, ifN drA ⟨_, rfl, _, rfl, _, _, rfl, rfl, _, rfl, _, _, rfl, .inl (SqL.of (e _ _ hA)), _, _, rfl, rfl, _, rfl, ifN (by rw [iL_len, e1]; omega) ?_⟩⟩
        refine ⟨_, rfl, rfl, _, rfl, ifN drK ⟨_, rfl, _, rfl, _, _, rfl, rfl, l, some (V.str "drop"), some (V.int n), ?_, e, ?_⟩⟩
        · rw [nx]; rfl
        · rw [nx]; exact hL
    · rintro σ H' ⟨l, v4, v5, rfl, e, hL⟩
      rw [hlen, List.take_length] at hL
      rw [hlen, List.take_length]
      refine ⟨_, rfl, _, rfl, _, _, rfl, .inl (SqL.of (e _ _ hA)), _, _, rfl, rfl, _, rfl, ifN (by rw [iL_len, ptF_fst, hF.sum]; omega) ⟨_, rfl, q l H' e hL⟩⟩
end
end K17
set_option maxHeartbeats 4000000
namespace K17
open PySem PySem.Spec PyProof.Rows L2
theorem cutP {B G : Prop} (h : B → G) (b : B) : G := h b
theorem nat1 {a : Nat} : (a : Int) + 1 = ((a + 1 : Nat) : Int) := by omega
section
variable {w : World} {K : PySem.W.Frag} {mg : Str → Option Value} {base : Heap} {CE fI : Addr}
/-! ### _law_positive -/
abbrev s_law_positive : Stmt := top 37
theorem sc_law_positive : FnScope ["_law_octets", "_law_at", "_law_count", "_law_after"] ["_law_octets", "_law_at"] (defScope s_law_positive) := ⟨rfl, rfl, rfl, by decide +kernel, rfl, by decide +kernel, by decide +kernel⟩
def spLPos : Sp := fun vs H Q _ => ∃ (a : Addr) (os : List Int) (s : Nat), vs = [.ref a, .int s] ∧ H a = some (.lst (iL os)) ∧ Oct os ∧
  ∀ (p : Addr) (H' : Hp), Ex H H' → H' p = some (.tup [.int (rdV (ps os s)).1, .int (rdV (ps os s)).2]) → Q (.ref p) H'
theorem can_lpos (B : Bl mg) (D : Df K mg "_law_positive" s_law_positive) (hrd : Can w K mg base CX0 1 "_law_read" ["_law_octets", "_law_start"] spRead) : Can w K mg base CX0 2 "_law_positive" ["_law_octets", "_law_at"] spLPos := by
  obtain ⟨f, fd, g, F⟩ := D
  obtain ⟨f_law_read, d_law_read, g_law_read, k_law_read, b_law_read, G_law_read⟩ := hrd
  refine ⟨f, fd, g, F.kp, F.binds fun _ _ _ _ _ _ us hl => match us, hl with | [_, _], _ => rfl, F.ok sc_law_positive (fun vs H Q E h => ?_) (fun cdv A outer s H vs Q E hr h => ?_)⟩
  · obtain ⟨a, os, st, rfl, _⟩ := h
    rfl
  · obtain ⟨a, os, st, rfl, hA, hO, q⟩ := h
    refine ⟨_, (pss_cons (ps_asg (pe_call G_law_read (hr.mono (by decide)) rfl g_law_read k_law_read b_law_read .nil pass0 (by exact (pa_cons (pv 0) (pa_cons (pv 1) pa_nil)))) (pg_tup rfl (pgs_cons (pg_name (i := 2) sc_law_positive.nd rfl (Or.inl rfl)) (pgs_cons (pg_name (i := 3) sc_law_positive.nd rfl (Or.inl rfl)) pgs_nil))))
    (pss_cons (ps_if (pt_cmpR op_lt (pv 2) pe_int (nomark _)) (pss_one (ps_ret (pe_tup (pa_cons (pe_un un_neg pe_int) (pa_cons (pv 3) pa_nil))))) pss_nil)
    (pss_cons (ps_if (pt_cmpR op_eq (pv 2) pe_int (nomark _)) (pss_one (ps_ret (pe_tup (pa_cons (pe_un un_neg pe_int) (pa_cons (pv 1) pa_nil))))) pss_nil)
    (pss_one (ps_ret (pe_tup (pa_cons (pv 2) (pa_cons (pv 3) pa_nil)))))))), ?_⟩
    refine ⟨_, rfl, _, rfl, a, os, st, rfl, hA, hO, fun p H1 e1 hp => ⟨p, _, rfl, SqT.of hp, rfl, _, _, rfl, _, _, rfl, rfl, ?_⟩⟩
    cases er : rd os st with
    | bad z =>
      have ev : ps os st = .bad z := by unfold ps; rw [er]
      rw [ev] at q
      refine ⟨_, rfl, _, _, rfl, rfl, _, rfl, ifD (by show (-1 : Int) < 0; decide) ⟨_, rfl, _, rfl, (by show 2 ≤ sizeLine; decide), fun p2 hp2 => q p2 _ (e1.trans (Evl.Ex.new hp2)) upd_same⟩⟩
    | ok n b =>
      obtain ⟨d, h1, h2, h3, h4, h5⟩ := rd_ok hO er
      subst h1
      refine ⟨_, rfl, _, _, rfl, rfl, _, rfl, ifN (by show ¬ (d : Int) < 0; omega) ⟨_, rfl, rfl, _, rfl, ?_⟩⟩
      by_cases c : (d : Int) = 0
      · have ev : ps os st = .bad st := by unfold ps; rw [er]; exact if_pos c
        rw [ev] at q
        refine ifD (show V.int (rdV (.ok (d : Int) b)).1 = V.int 0 from congrArg V.int c) ⟨_, rfl, _, rfl, (by show 2 ≤ sizeLine; decide), fun p2 hp2 => q p2 _ (e1.trans (Evl.Ex.new hp2)) upd_same⟩
      · have ev : ps os st = .ok d b := by unfold ps; rw [er]; exact if_neg c
        rw [ev] at q
        refine ifN (show ¬ V.int (rdV (.ok (d : Int) b)).1 = V.int 0 from fun z => c (V.int.inj z)) ⟨_, rfl, _, rfl, (by show 2 ≤ sizeLine; decide), fun p2 hp2 => q p2 _ (e1.trans (Evl.Ex.new hp2)) upd_same⟩
/-! ### _law_take_step -/
abbrev s_law_take_step : Stmt := top 38
theorem sc_law_take_step : FnScope ["_law_octets", "_law_at", "_law_before", "_law_left", "_law_code", "_law_count", "_law_after"] ["_law_octets", "_law_at", "_law_before", "_law_left"] (defScope s_law_take_step) := ⟨rfl, rfl, rfl, by decide +kernel, rfl, by decide +kernel, by decide +kernel⟩
def spTStep : Sp := fun vs H Q _ => ∃ (a : Addr) (os : List Int) (n : Nat) (before left : Int), vs = [.ref a, .int n, .int before, .int left] ∧ H a = some (.lst (iL os)) ∧ Oct os ∧ os.length ≤ 100000 ∧ 0 ≤ left ∧
  (∀ s b, stp os n before left = .ok s b → ∀ (p : Addr) (v : V) (H' : Hp), Ex H H' → H' p = some (.tup [v, .int b]) → StAt H' v s → Q (.ref p) H') ∧
  ∀ z, stp os n before left = .bad z → ∀ (p : Addr) (H' : Hp), Ex H H' → H' p = some (.tup [.non, .int z]) → Q (.ref p) H'
theorem can_tstep (B : Bl mg) (D : Df K mg "_law_take_step" s_law_take_step) (hps : Can w K mg base CX0 2 "_law_positive" ["_law_octets", "_law_at"] spLPos) :
    Can w K mg base CX0 3 "_law_take_step" ["_law_octets", "_law_at", "_law_before", "_law_left"] spTStep := by
  obtain ⟨f, fd, g, F⟩ := D
  obtain ⟨f_law_positive, d_law_positive, g_law_positive, k_law_positive, b_law_positive, G_law_positive⟩ := hps
  refine ⟨f, fd, g, F.kp, F.binds fun _ _ _ _ _ _ us hl => match us, hl with | [_, _, _, _], _ => rfl, F.ok sc_law_take_step (fun vs H Q E h => ?_) (fun cdv A outer s H vs Q E hr h => ?_)⟩
  · obtain ⟨a, os, n, before, left, rfl, _⟩ := h
    rfl
  · obtain ⟨a, os, n, before, left, rfl, hA, hO, hz, hl, qs, qb⟩ := h
    refine ⟨_, (pss_cons (ps_if (pt_cmpR op_ge (pv 1) (pe_callB call_len_seq (by rfl) B.len_ (by decide +kernel) (pa_cons (pv 0) pa_nil)) (nomark _)) (pss_one (ps_ret (pe_tup (pa_cons pe_non (pa_cons (pe_callB call_len_seq (by rfl) B.len_ (by decide +kernel) (pa_cons (pv 0) pa_nil)) pa_nil))))) pss_nil)
    (pss_cons (ps_set (i := 4) sc_law_take_step.nd rfl (Or.inl rfl) (pe_ix ix_list (pv 0) (pv 1) (fun _ _ => rfl)))
    (pss_cons (ps_if (PW.pt (pw_or (pt_cmpR op_gt (pv 4) pe_int (nomark _)) (pw_or (pt_cmpR op_eq (pv 4) (pv 2) (nomark _)) (pw_or1 (PW.pt (pw_and (pt_cmpR op_eq (pv 4) pe_int (nomark _)) (pw_and1 (pt_cmpR op_eq (pv 2) pe_int (nomark _))))))))) (pss_one (ps_ret (pe_tup (pa_cons pe_non (pa_cons (pv 1) pa_nil))))) pss_nil)
    (pss_cons (ps_asg (pe_call G_law_positive (hr.mono (by decide)) rfl g_law_positive k_law_positive b_law_positive .nil pass0 (by exact (pa_cons (pv 0) (pa_cons (pe_op op_add (pv 1) pe_int) pa_nil)))) (pg_tup rfl (pgs_cons (pg_name (i := 5) sc_law_take_step.nd rfl (Or.inl rfl)) (pgs_cons (pg_name (i := 6) sc_law_take_step.nd rfl (Or.inl rfl)) pgs_nil))))
    (pss_cons (ps_if (pt_cmpR op_lt (pv 5) pe_int (nomark _)) (pss_one (ps_ret (pe_tup (pa_cons pe_non (pa_cons (pv 6) pa_nil))))) pss_nil)
    (pss_cons (ps_if (pt_cmpR op_eq (pv 4) pe_int (nomark _)) (pss_cons (ps_if (pt_cmpR op_gt (pe_op op_add (pv 6) (pv 5)) (pe_callB call_len_seq (by rfl) B.len_ (by decide +kernel) (pa_cons (pv 0) pa_nil)) (nomark _)) (pss_one (ps_ret (pe_tup (pa_cons pe_non (pa_cons (pe_callB call_len_seq (by rfl) B.len_ (by decide +kernel) (pa_cons (pv 0) pa_nil)) pa_nil))))) pss_nil)
    (pss_one (ps_ret (pe_tup (pa_cons (pe_tup (pa_cons pe_str (pa_cons (pe_callTy call_tuple_of (by rfl) B.tuple_ (by decide +kernel) (pa_cons (pe_slice sl_list (pv 0) (po_some (pv 6)) (po_some (pe_op op_add (pv 6) (pv 5)))) pa_nil)) pa_nil))) (pa_cons (pe_op op_add (pv 6) (pv 5)) pa_nil)))))) pss_nil)
    (pss_cons (ps_if (pt_cmpR op_gt (pv 5) (pv 3) (nomark _)) (pss_one (ps_ret (pe_tup (pa_cons pe_non (pa_cons (pv 1) pa_nil))))) pss_nil)
    (pss_one (ps_ret (pe_tup (pa_cons (pe_tup (pa_cons (pe_ix ix_tup (pe_tup (pa_cons pe_str (pa_cons pe_str pa_nil))) (pv 4) (fun _ _ => rfl)) (pa_cons (pv 5) pa_nil))) (pa_cons (pv 6) pa_nil)))))))))))), ?_⟩
    refine ⟨_, rfl, _, rfl, _, _, rfl, .inl (SqL.of hA), _, _, rfl, rfl, _, rfl, if2 (fun c => ?_) (fun c => ?_)⟩
    · rw [iL_len] at c
      have ev : stp os n before left = .bad os.length := by unfold stp; rw [List.getElem?_eq_none (by omega)]
      refine ⟨_, rfl, _, _, rfl, .inl (SqL.of hA), (by show 2 ≤ sizeLine; decide), fun p hp => qb _ ev p _ (Evl.Ex.new hp) ?_⟩
      rw [upd_same, iL_len]
    · rw [iL_len] at c
      obtain ⟨o, ho⟩ : ∃ o, os[n]? = some o := ⟨os[n], List.getElem?_eq_getElem (by omega)⟩
      have hb := hO.get ho
      refine ⟨_, rfl, _, rfl, _, _, _, _, rfl, rfl, SqL.of hA, at_int rfl ho, ?_⟩
      by_cases c1 : o > 2 ∨ o = before ∨ (o = 1 ∧ before = 2)
      · -- the kind is refused
        have ev : stp os n before left = .bad n := by unfold stp; rw [ho]; exact if_pos c1
        refine' cutP (fun hR => ?main) ?rest
        case main =>
          refine ⟨_, rfl, _, _, rfl, rfl, _, rfl, if2 (fun h => iteT hR) (fun h1 => ⟨_, rfl, _, rfl, rfl, _, rfl, if2 (fun h => iteT hR) (fun h2 => ⟨_, rfl, rfl, _, rfl, ?_⟩)⟩)⟩
          have c2 : o = 1 ∧ before = 2 := by
            rcases c1 with h | h | h
            · exact absurd h h1
            · exact absurd (congrArg V.int h) h2
            · exact h
          exact ifD (congrArg V.int c2.1) ⟨_, rfl, rfl, _, rfl, ifD (congrArg V.int c2.2) hR⟩
        case rest =>
          exact ⟨_, rfl, (by show 2 ≤ sizeLine; decide), fun p hp => qb _ ev p _ (Evl.Ex.new hp) upd_same⟩
      · refine' cutP (fun hR => ?main) ?rest
        case main =>
          refine ⟨_, rfl, _, _, rfl, rfl, _, rfl, ifN (fun h => c1 (.inl h)) ⟨_, rfl, _, rfl, rfl, _, rfl, ifN (fun h => c1 (.inr (.inl (V.int.inj h)))) ⟨_, rfl, rfl, _, rfl, if2 (fun h => ?_) (fun h => iteF hR)⟩⟩⟩
          exact ⟨_, rfl, rfl, _, rfl, ifN (fun h2 => c1 (.inr (.inr ⟨V.int.inj h, V.int.inj h2⟩))) hR⟩
        case rest =>
          refine ⟨_, rfl, _, rfl, _, _, rfl, rfl, a, os, n + 1, rfl, hA, hO, fun p H1 e1 hp => ⟨p, _, rfl, SqT.of hp, rfl, _, _, rfl, _, _, rfl, rfl, ?_⟩⟩
          have hA1 := e1 _ _ hA
          cases er : ps os (n + 1) with
          | bad z =>
            have ev : stp os n before left = .bad z := by unfold stp; rw [ho]; dsimp only; rw [if_neg c1, er]
            exact ⟨_, rfl, _, _, rfl, rfl, _, rfl, ifD (by show (-1 : Int) < 0; decide) ⟨_, rfl, (by show 2 ≤ sizeLine; decide), fun p2 hp2 => qb _ ev p2 _ (e1.trans (Evl.Ex.new hp2)) upd_same⟩⟩
          | ok m b =>
            obtain ⟨d, h1, h2, h3, h4, h5, h6⟩ := ps_ok hO er
            subst h1
            have ev : stp os n before left = (if o = 2 then (if (b : Int) + (d : Int) > os.length then .bad os.length else .ok (.add ((os.drop b).take (d : Int).toNat)) (b + (d : Int).toNat)) else if (d : Int) > left then .bad n else .ok (if o = 0 then .keep d else .drop d) b) := by
              unfold stp; rw [ho]; dsimp only; rw [if_neg c1, er]
            refine ⟨_, rfl, _, _, rfl, rfl, _, rfl, ifN (by show ¬ (d : Int) < 0; omega) ⟨_, rfl, rfl, _, rfl, ?_⟩⟩
            by_cases c2 : o = 2
            · rw [if_pos c2] at ev
              refine ifD (congrArg V.int c2) ⟨_, rfl, _, rfl, _, _, rfl, rfl, _, rfl, _, _, rfl, .inl (SqL.of hA1), _, _, rfl, rfl, _, rfl, ?_⟩
              by_cases c3 : (b : Int) + (d : Int) > os.length
              · rw [if_pos c3] at ev
                refine ifD (by rw [iL_len]; exact c3) ⟨_, rfl, _, _, rfl, .inl (SqL.of hA1), (by show 2 ≤ sizeLine; decide), fun p2 hp2 => qb _ ev p2 _ (e1.trans (Evl.Ex.new hp2)) ?_⟩
                rw [upd_same, iL_len]
              · rw [if_neg c3] at ev
                have hc : cutV (iL os) (some (b : Int)) (some ((b : Int) + (d : Int))) = iL ((os.drop b).take (d : Int).toNat) := cut_int os b (d : Int).toNat _ _ rfl (by omega)
                refine ifN (by rw [iL_len]; exact c3) ⟨_, rfl, _, rfl, _, rfl, _, rfl, _, rfl, _, _, rfl, rfl, _, rfl, a, _, rfl, SqL.of hA1, fun p2 hp2 => ?_⟩
                refine ⟨p2, _, rfl, .inl ⟨SqL.of upd_same, fun p3 hp3 => ⟨(by show 2 ≤ sizeLine; decide), fun p4 hp4 => ⟨_, rfl, _, rfl, _, _, rfl, rfl, (by show 2 ≤ sizeLine; decide), fun p5 hp5 => ?_⟩⟩⟩⟩
                have n45 : p4 ≠ p5 := ne_of_none upd_same hp5
                have n34 : p3 ≠ p4 := ne_of_none upd_same hp4
                have n35 : p3 ≠ p5 := ne_of_none (by rw [upd_ne n34]; exact upd_same) hp5
                refine qs _ _ ev p5 (.ref p4) _ (((e1.trans (Evl.Ex.new hp2)).trans (Evl.Ex.new hp3)).trans ((Evl.Ex.new hp4).trans (Evl.Ex.new hp5))) ?_ ⟨p4, p3, rfl, ?_, ?_⟩
                · rw [upd_same]
                  show some (HO.tup [V.ref p4, V.int ((b : Int) + (d : Int))]) = _
                  rw [show (b : Int) + (d : Int) = ((b + (d : Int).toNat : Nat) : Int) by omega]
                · rw [upd_ne n45, upd_same]
                · rw [upd_ne n35, upd_ne n34, upd_same, ← hc]; rfl
            · rw [if_neg c2] at ev
              refine ifN (fun z => c2 (V.int.inj z)) ⟨_, rfl, _, rfl, _, _, rfl, rfl, _, rfl, ?_⟩
              by_cases c3 : (d : Int) > left
              · rw [if_pos c3] at ev
                exact ifD c3 ⟨_, rfl, (by show 2 ≤ sizeLine; decide), fun p2 hp2 => qb _ ev p2 _ (e1.trans (Evl.Ex.new hp2)) upd_same⟩
              · rw [if_neg c3] at ev
                refine ifN c3 ⟨(by show 2 ≤ sizeLine; decide), fun p2 hp2 => ?_⟩
                have hT : SqT K (upd H1 p2 (.tup [.str "keep", .str "drop"])) p2 [.str "keep", .str "drop"] := SqT.of upd_same
                by_cases c4 : o = 0
                · rw [if_pos c4] at ev
                  refine ⟨_, rfl, _, _, _, _, rfl, rfl, hT, at_of (j := 0) c4 rfl, _, rfl, (by show 2 ≤ sizeLine; decide), fun p3 hp3 => ⟨_, rfl, (by show 2 ≤ sizeLine; decide), fun p4 hp4 => ?_⟩⟩
                  have n34 : p3 ≠ p4 := ne_of_none upd_same hp4
                  exact qs _ _ ev p4 (.ref p3) _ ((e1.trans (Evl.Ex.new hp2)).trans ((Evl.Ex.new hp3).trans (Evl.Ex.new hp4))) upd_same ⟨p3, rfl, by rw [upd_ne n34, upd_same]; rfl⟩
                · rw [if_neg c4] at ev
                  have c5 : o = 1 := by omega
                  refine ⟨_, rfl, _, _, _, _, rfl, rfl, hT, at_of (j := 1) c5 rfl, _, rfl, (by show 2 ≤ sizeLine; decide), fun p3 hp3 => ⟨_, rfl, (by show 2 ≤ sizeLine; decide), fun p4 hp4 => ?_⟩⟩
                  have n34 : p3 ≠ p4 := ne_of_none upd_same hp4
                  exact qs _ _ ev p4 (.ref p3) _ ((e1.trans (Evl.Ex.new hp2)).trans ((Evl.Ex.new hp3).trans (Evl.Ex.new hp4))) upd_same ⟨p3, rfl, by rw [upd_ne n34, upd_same]; rfl⟩
end
end K17
set_option maxHeartbeats 4000000
namespace K17
open PySem PySem.Spec PyProof.Rows L2
theorem exb_lst {l : Addr} {H H' : Hp} {xs : List V} (e : Exb l H H') (h : H l = some (.lst xs)) : ∀ a ys, H a = some (.tup ys) → H' a = some (.tup ys) :=
  Exb.tups e fun ys z => by rw [h] at z; cases z
/-- the parts of a step's tuple: its kind, its count -/
theorem StAt.count {H : Hp} {v : V} {s : Step} (h : StAt H v s) (hc : ¬ code s = 2) : ∃ p z, v = .ref p ∧ H p = some (.tup [z, .int (cnt s)]) := by
  cases s with
  | keep n => obtain ⟨p, h1, h2⟩ := h; exact ⟨p, _, h1, h2⟩
  | drop n => obtain ⟨p, h1, h2⟩ := h; exact ⟨p, _, h1, h2⟩
  | add xs => exact absurd rfl hc
theorem StAt.addr {H : Hp} {v : V} {s : Step} (h : StAt H v s) : ∃ p, v = .ref p := by
  cases s with
  | keep n => obtain ⟨p, h1, _⟩ := h; exact ⟨p, h1⟩
  | drop n => obtain ⟨p, h1, _⟩ := h; exact ⟨p, h1⟩
  | add xs => obtain ⟨p, q, h1, _⟩ := h; exact ⟨p, h1⟩
theorem cnt_add {s : Step} (h : code s = 2) : cnt s = 0 := by
  cases s with
  | keep n => exact absurd (show (0 : Int) = 2 from h) (by decide)
  | drop n => exact absurd (show (1 : Int) = 2 from h) (by decide)
  | add xs => rfl
/-- the versions' lists -/
structure Vers (H : Hp) (us : List V) (f : List Int) (scs : List (List Step)) : Prop where
  len : us.length = scs.length + 1
  at_ : ∀ (i : Nat) v, us[i]? = some v → ∃ r, v = .ref r ∧ H r = some (.lst (iL (ver f (scs.take i))))
theorem Vers.last {H : Hp} {us : List V} {f : List Int} {scs : List (List Step)} (h : Vers H us f scs) : ∃ r, atI us (-1) = some (.ref r) ∧ H r = some (.lst (iL (ver f scs))) := by
  have hl := h.len
  obtain ⟨v, hv⟩ : ∃ v, us[scs.length]? = some v := ⟨us[scs.length], List.getElem?_eq_getElem (by omega)⟩
  obtain ⟨r, h1, h2⟩ := h.at_ _ _ hv
  rw [List.take_length] at h2
  refine ⟨r, ?_, h2⟩
  have e : us = us.take scs.length ++ [v] := by
    rw [← take_next hv, List.take_of_length_le (by omega)]
  rw [e, atI_last, h1]
theorem fitsL2 {n : Nat} (h : n < 200000) : n < sizeLine := Nat.lt_of_lt_of_le h (by rw [sizeLine_eq]; decide)
theorem Vers.apart {H : Hp} {us : List V} {f : List Int} {scs : List (List Step)} (h : Vers H us f scs) {X : List Int} : ¬ us = iL X := fun e => by
  obtain ⟨v, hv⟩ : ∃ v, us[0]? = some v := ⟨us[0]'(by have := h.len; omega), List.getElem?_eq_getElem _⟩
  obtain ⟨r, h1, _⟩ := h.at_ 0 v hv
  rw [e] at hv
  obtain ⟨x, _, hx⟩ := iL_get hv
  rw [h1] at hx
  cases hx
theorem Vers.ne {H : Hp} {us : List V} {f : List Int} {scs : List (List Step)} (h : Vers H us f scs) {H' : Hp} {l q : Addr} {X : List Int} (hl : H' l = some (.lst us)) (hq : H' q = some (.lst (iL X))) : q ≠ l := fun z => by
  rw [z, hl] at hq
  cases hq
  exact h.apart rfl
theorem Vers.more {H H' : Hp} {us : List V} {f : List Int} {scs : List (List Step)} {s : List Step} {r : Addr} (h : Vers H us f scs) (keep : ∀ a xs, (∃ v ∈ us, v = .ref a) → H a = some (.lst xs) → H' a = some (.lst xs))
    (hr : H' r = some (.lst (iL (ptc (ver f scs) s)))) : Vers H' (us ++ [.ref r]) f (scs ++ [s]) := by
  have hl := h.len
  refine ⟨by rw [List.length_append, List.length_append, hl]; rfl, fun i v hv => ?_⟩
  by_cases c : i < us.length
  · rw [List.getElem?_append_left c] at hv
    obtain ⟨q, h1, h2⟩ := h.at_ i v hv
    refine ⟨q, h1, ?_⟩
    rw [List.take_append_of_le_length (by omega)]
    exact keep q _ ⟨v, List.mem_of_getElem? hv, h1⟩ h2
  · have hi : i = us.length := by
      have := at_lt hv
      rw [List.length_append] at this
      have : [V.ref r].length = 1 := rfl
      omega
    subst hi
    rw [List.getElem?_append_right (Nat.le_refl _), Nat.sub_self] at hv
    have ev : V.ref r = v := Option.some.inj hv
    refine ⟨r, ev.symm, ?_⟩
    rw [List.take_of_length_le (by rw [List.length_append]; have : [s].length = 1 := rfl; omega), ver_more]
    exact hr
section
variable {w : World} {K : PySem.W.Frag} {mg : Str → Option Value} {base : Heap} {CE fI : Addr}
/-! ### _law_take_script -/
abbrev s_law_take_script : Stmt := top 39
theorem sc_law_take_script : FnScope ["_law_octets", "_law_at", "_law_size", "_law_count", "_law_after", "_law_steps", "_law_before", "_law_left", "_law_k", "_law_begin", "_law_step"] ["_law_octets", "_law_at", "_law_size"] (defScope s_law_take_script) := ⟨rfl, rfl, rfl, by decide +kernel, rfl, by decide +kernel, by decide +kernel⟩
def spTScr : Sp := fun vs H Q _ => ∃ (a : Addr) (os : List Int) (n : Nat) (size : Int), vs = [.ref a, .int n, .int size] ∧ H a = some (.lst (iL os)) ∧ Oct os ∧ os.length ≤ 100000 ∧ 0 ≤ size ∧
  (∀ st b, scr os n size = .ok st b → ∀ (p l : Addr) (ws : List V) (H' : Hp), Ex H H' → H' p = some (.tup [.ref l, .int b]) → H' l = some (.lst ws) → Sts H' ws st → Q (.ref p) H') ∧
  ∀ z, scr os n size = .bad z → ∀ (p : Addr) (H' : Hp), Ex H H' → H' p = some (.tup [.non, .int z]) → Q (.ref p) H'
theorem can_tscr (B : Bl mg) (D : Df K mg "_law_take_script" s_law_take_script) (hrd : Can w K mg base CX0 1 "_law_read" ["_law_octets", "_law_start"] spRead)
    (hst : Can w K mg base CX0 3 "_law_take_step" ["_law_octets", "_law_at", "_law_before", "_law_left"] spTStep) : Can w K mg base CX0 4 "_law_take_script" ["_law_octets", "_law_at", "_law_size"] spTScr := by
  obtain ⟨f, fd, g, F⟩ := D
  obtain ⟨f_law_read, d_law_read, g_law_read, k_law_read, b_law_read, G_law_read⟩ := hrd
  obtain ⟨f_law_take_step, d_law_take_step, g_law_take_step, k_law_take_step, b_law_take_step, G_law_take_step⟩ := hst
  refine ⟨f, fd, g, F.kp, F.binds fun _ _ _ _ _ _ us hl => match us, hl with | [_, _, _], _ => rfl, F.ok sc_law_take_script (fun vs H Q E h => ?_) (fun cdv A outer s H vs Q E hr h => ?_)⟩
  · obtain ⟨a, os, n, size, rfl, _⟩ := h
    rfl
  · obtain ⟨a, os, n, size, rfl, hA, hO, hz, hsz, qs, qb⟩ := h
    refine ⟨_, (pss_cons (ps_asg (pe_call G_law_read (hr.mono (by decide)) rfl g_law_read k_law_read b_law_read .nil pass0 (by exact (pa_cons (pv 0) (pa_cons (pv 1) pa_nil)))) (pg_tup rfl (pgs_cons (pg_name (i := 3) sc_law_take_script.nd rfl (Or.inl rfl)) (pgs_cons (pg_name (i := 4) sc_law_take_script.nd rfl (Or.inl rfl)) pgs_nil))))
    (pss_cons (ps_if (pt_cmpR op_lt (pv 3) pe_int (nomark _)) (pss_one (ps_ret (pe_tup (pa_cons pe_non (pa_cons (pv 4) pa_nil))))) pss_nil)
    (pss_cons (ps_set (i := 5) sc_law_take_script.nd rfl (Or.inl rfl) (pe_lst pa_nil))
    (pss_cons (ps_set (i := 6) sc_law_take_script.nd rfl (Or.inl rfl) (pe_un un_neg pe_int))
    (pss_cons (ps_set (i := 7) sc_law_take_script.nd rfl (Or.inl rfl) (pv 2))
    (pss_cons (ps_for PassesOwn.never rfl (pi_range1 (by rfl) B.range_ (pa_cons (pv 3) pa_nil)) (pg_name (i := 8) sc_law_take_script.nd rfl (Or.inl rfl))
    (pss_cons (ps_set (i := 9) sc_law_take_script.nd rfl (Or.inl rfl) (pv 4))
    (pss_cons (ps_asg (pe_call G_law_take_step (hr.mono (by decide)) rfl g_law_take_step k_law_take_step b_law_take_step .nil pass0 (by exact (pa_cons (pv 0) (pa_cons (pv 9) (pa_cons (pv 6) (pa_cons (pv 7) pa_nil)))))) (pg_tup rfl (pgs_cons (pg_name (i := 10) sc_law_take_script.nd rfl (Or.inl rfl)) (pgs_cons (pg_name (i := 4) sc_law_take_script.nd rfl (Or.inl rfl)) pgs_nil))))
    (pss_cons (ps_if (pt_cmpR op_isN (pv 10) pe_non (nomark _)) (pss_one (ps_ret (pe_tup (pa_cons pe_non (pa_cons (pv 4) pa_nil))))) pss_nil)
    (pss_cons (ps_set (i := 6) sc_law_take_script.nd rfl (Or.inl rfl) (pe_ix ix_list (pv 0) (pv 9) (fun _ _ => rfl)))
    (pss_cons (ps_if (pt_cmpR op_ne (pv 6) pe_int (nomark _)) (pss_one (ps_set (i := 7) sc_law_take_script.nd rfl (Or.inl rfl) (pe_op op_sub (pv 7) (pe_ix ix_tup (pv 10) pe_int (fun _ _ => rfl))))) pss_nil)
    (pss_one (ps_expr (pe_bm PySem.F.plainAttrs_list PySem.F.slot_list_append PySem.F.type_list_append mt_append (pv 5) (pa_cons (pv 10) pa_nil))))))))))
    (pss_cons (ps_if (pt_cmpR op_gt (pv 7) pe_int (nomark _)) (pss_one (ps_ret (pe_tup (pa_cons pe_non (pa_cons (pv 4) pa_nil))))) pss_nil)
    (pss_one (ps_ret (pe_tup (pa_cons (pv 5) (pa_cons (pv 4) pa_nil)))))))))))), ?_⟩
    refine ⟨_, rfl, _, rfl, a, os, n, rfl, hA, hO, fun p H1 e1 hp => ⟨p, _, rfl, SqT.of hp, rfl, _, _, rfl, _, _, rfl, rfl, ?_⟩⟩
    cases er : rd os n with
    | bad z =>
      have ev : scr os n size = .bad z := by unfold scr; rw [er]
      exact ⟨_, rfl, _, _, rfl, rfl, _, rfl, ifD (by show (-1 : Int) < 0; decide) ⟨_, rfl, (by show 2 ≤ sizeLine; decide), fun p2 hp2 => qb _ ev p2 _ (e1.trans (Evl.Ex.new hp2)) upd_same⟩⟩
    | ok m b =>
      obtain ⟨d, h1, h2, h3, h4, h5⟩ := rd_ok hO er
      subst h1
      have ev : scr os n size = scF os d b (-1) size [] := by unfold scr; rw [er]; rfl
      refine ⟨_, rfl, _, _, rfl, rfl, _, rfl, ifN (by show ¬ (d : Int) < 0; omega) ⟨sz0, fun l hl => ⟨_, rfl, _, rfl, _, rfl, _, rfl, (by show -(2 ^ 62) ≤ (d : Int); omega), (by show (d : Int) < 2 ^ 62; omega), ?_⟩⟩⟩
      have hlH : H l = none := Evl.fresh_back e1 hl
      refine for_range (lo := 0) (n := (d : Int).toNat) (fun i σ H' => ∃ (a' : Nat) (bf lf : Int) (ws : List V) (acc : List Step) (k : Nat) (v8 v9 v10 : Option V), σ = [some (.ref a), some (.int n), some (.int size), some (.int d), some (.int a'), some (.ref l), some (.int bf), some (.int lf), v8, v9, v10] ∧
        Ex H H' ∧ H' l = some (.lst ws) ∧ Sts H' ws acc ∧ i + k = d ∧ scr os n size = scF os k a' bf lf acc ∧ 0 ≤ lf ∧ a' ≤ os.length ∧ acc.length ≤ a')
        ⟨b, -1, size, [], [], d, none, none, none, rfl, e1.trans (Evl.Ex.new hl), upd_same, .nil, by omega, ev, hsz, h5, Nat.zero_le _⟩ ?_ ?_
      · rintro i σ H' hi ⟨a', bf, lf, ws, acc, k, v8, v9, v10, rfl, e, hL, hS, hk, hsc, hlf, ha', hacc⟩
        obtain ⟨k', rfl⟩ : ∃ k', k = k' + 1 := ⟨k - 1, by omega⟩
        rw [scF] at hsc
        have hA' := e _ _ hA
        have hwl := paired_len hS
        refine ⟨_, rfl, _, rfl, _, rfl, _, rfl, _, rfl, a, os, a', bf, lf, rfl, hA', hO, hz, hlf, fun s b' hs p2 v H2 e2 hp2 hv => ?_, fun z hbad p2 H2 e2 hp2 => ?_⟩
        · -- a step
          rw [hs] at hsc
          obtain ⟨k1, k2, k3, k4, k5, k6⟩ := stp_ok hO hlf hs
          have hcn := k4.cnt
          obtain ⟨pv, rfl⟩ := hv.addr
          have hA2 := e2 _ _ hA'
          have hL2 := e2 _ _ hL
          refine ⟨p2, _, rfl, SqT.of hp2, rfl, _, _, rfl, _, _, rfl, rfl, ?_⟩
          refine ⟨_, rfl, rfl, _, rfl, ifN (fun z => by cases z) ⟨_, rfl, _, rfl, _, _, _, _, rfl, rfl, SqL.of hA2, at_int rfl k6, ?_⟩⟩
          have fit : ws.length < sizeLine := fitsL (by rw [hwl]; omega)
          have eb : Exb l H2 (upd H2 l (.lst (ws ++ [.ref pv]))) := Exb.upd
          have tp := exb_lst eb hL2
          have fin : ∀ (v8 : Option V), ∃ (a'' : Nat) (bf lf' : Int) (ws' : List V) (acc' : List Step) (k : Nat) (v8' v9' v10' : Option V), [some (V.ref a), some (V.int n), some (V.int size), some (V.int d), some (V.int (b' : Int)), some (V.ref l), some (V.int (code s)), some (V.int (lf - cnt s)), v8, some (V.int (a' : Int)), some (V.ref pv)] = [some (.ref a), some (.int n), some (.int size), some (.int d), some (.int a''), some (.ref l), some (.int bf), some (.int lf'), v8', v9', v10'] ∧
              Ex H (upd H2 l (.lst (ws ++ [.ref pv]))) ∧ upd H2 l (.lst (ws ++ [.ref pv])) l = some (.lst ws') ∧ Sts (upd H2 l (.lst (ws ++ [.ref pv]))) ws' acc' ∧ i + 1 + k = d ∧ scr os n size = scF os k a'' bf lf' acc' ∧ 0 ≤ lf' ∧ a'' ≤ os.length ∧ acc'.length ≤ a'' := fun v8 =>
            ⟨b', _, _, _, acc ++ [s], k', _, _, _, rfl, Evl.Ex.mut (e.trans e2) hlH, upd_same, Sts.mono tp (paired_snoc (Sts.mono (Ex.tups e2) hS) hv), by omega, hsc, by omega, k3, by rw [List.length_append]; show acc.length + 1 ≤ b'; omega⟩
          by_cases c : code s = 2
          · refine ⟨_, rfl, rfl, _, rfl, ?_⟩
            rw [show decide (V.int (code s) = V.int 2) = true from decide_eq_true (congrArg V.int c)]
            have f1 := fin (some (V.int (0 + (i : Int))))
            rw [cnt_add c, show lf - 0 = lf by omega] at f1
            exact iteF ⟨_, rfl, .inl ⟨rfl, _, SqL.of hL2⟩, _, rfl, l, _, _, rfl, rfl, hL2, fit, f1⟩
          · refine ⟨_, rfl, rfl, _, rfl, ?_⟩
            rw [show decide (V.int (code s) = V.int 2) = false from decide_eq_false (fun z => c (V.int.inj z))]
            obtain ⟨p3, z3, hp3, h3⟩ := hv.count c
            cases hp3
            exact iteT ⟨_, rfl, _, rfl, _, _, _, _, rfl, rfl, SqT.of h3, at_of (j := 1) rfl rfl, _, _, rfl, rfl, _, rfl, .inl ⟨rfl, _, SqL.of hL2⟩, _, rfl, l, _, _, rfl, rfl, hL2, fit, fin _⟩
        · rw [hbad] at hsc
          exact ⟨p2, _, rfl, SqT.of hp2, rfl, _, _, rfl, _, _, rfl, rfl, _, rfl, rfl, _, rfl, ifD rfl ⟨_, rfl, (by show 2 ≤ sizeLine; decide), fun p3 hp3 => qb _ hsc p3 _ ((e.trans e2).trans (Evl.Ex.new hp3)) upd_same⟩⟩
      · rintro σ H' ⟨a', bf, lf, ws, acc, k, v8, v9, v10, rfl, e, hL, hS, hk, hsc, hlf, ha', hacc⟩
        obtain rfl : k = 0 := by omega
        rw [scF] at hsc
        refine ⟨_, rfl, _, _, rfl, rfl, _, rfl, if2 (fun c => ?_) (fun c => ?_)⟩
        · rw [if_pos c] at hsc
          exact ⟨_, rfl, (by show 2 ≤ sizeLine; decide), fun p3 hp3 => qb _ hsc p3 _ (e.trans (Evl.Ex.new hp3)) upd_same⟩
        · rw [if_neg c] at hsc
          have tp : ∀ {p3 : Addr} {o : HO}, H' p3 = none → ∀ b xs, H' b = some (.tup xs) → upd H' p3 o b = some (.tup xs) := fun h b xs q => by rw [upd_ne (ne_of_none q h)]; exact q
          exact ⟨_, rfl, _, rfl, (by show 2 ≤ sizeLine; decide), fun p3 hp3 => qs _ _ hsc p3 l ws _ (e.trans (Evl.Ex.new hp3)) upd_same (by rw [upd_ne (ne_of_none hL hp3)]; exact hL) (hS.mono (tp hp3))⟩
/-! ### _law_take_history -/
abbrev s_law_take_history : Stmt := top 40
theorem sc_law_take_history : FnScope ["_law_octets", "_law_count", "_law_at", "_law_size", "_law_versions", "_law_k", "_law_steps"] ["_law_octets"] (defScope s_law_take_history) := ⟨rfl, rfl, rfl, by decide +kernel, rfl, by decide +kernel, by decide +kernel⟩
def spTHis : Sp := fun vs H Q _ => ∃ (a : Addr) (os : List Int), vs = [.ref a] ∧ H a = some (.lst (iL os)) ∧ Oct os ∧ os.length ≤ 100000 ∧
  (∀ f scs, his os = .ok f scs → ∀ (p l : Addr) (us : List V) (z : Int) (H' : Hp), Ex H H' → H' p = some (.tup [.ref l, .int z]) → H' l = some (.lst us) → Vers H' us f scs → Q (.ref p) H') ∧
  ∀ z, his os = .bad z → ∀ (p : Addr) (H' : Hp), Ex H H' → H' p = some (.tup [.non, .int z]) → Q (.ref p) H'
theorem can_this (B : Bl mg) (D : Df K mg "_law_take_history" s_law_take_history) (hrd : Can w K mg base CX0 1 "_law_read" ["_law_octets", "_law_start"] spRead) (hps : Can w K mg base CX0 2 "_law_positive" ["_law_octets", "_law_at"] spLPos)
    (hsc : Can w K mg base CX0 4 "_law_take_script" ["_law_octets", "_law_at", "_law_size"] spTScr) (hpt : Can w K mg base CX0 1 "_law_patch" ["_law_old", "_law_script_here"] spLPatch) : Can w K mg base CX0 5 "_law_take_history" ["_law_octets"] spTHis := by
  obtain ⟨f, fd, g, F⟩ := D
  obtain ⟨f_law_read, d_law_read, g_law_read, k_law_read, b_law_read, G_law_read⟩ := hrd
  obtain ⟨f_law_positive, d_law_positive, g_law_positive, k_law_positive, b_law_positive, G_law_positive⟩ := hps
  obtain ⟨f_law_take_script, d_law_take_script, g_law_take_script, k_law_take_script, b_law_take_script, G_law_take_script⟩ := hsc
  obtain ⟨f_law_patch, d_law_patch, g_law_patch, k_law_patch, b_law_patch, G_law_patch⟩ := hpt
  refine ⟨f, fd, g, F.kp, F.binds fun _ _ _ _ _ _ us hl => match us, hl with | [_], _ => rfl, F.ok sc_law_take_history (fun vs H Q E h => ?_) (fun cdv A outer s H vs Q E hr h => ?_)⟩
  · obtain ⟨a, os, rfl, _⟩ := h
    rfl
  · obtain ⟨a, os, rfl, hA, hO, hz, qs, qb⟩ := h
    refine ⟨_, (pss_cons (ps_asg (pe_call G_law_positive (hr.mono (by decide)) rfl g_law_positive k_law_positive b_law_positive .nil pass0 (by exact (pa_cons (pv 0) (pa_cons pe_int pa_nil)))) (pg_tup rfl (pgs_cons (pg_name (i := 1) sc_law_take_history.nd rfl (Or.inl rfl)) (pgs_cons (pg_name (i := 2) sc_law_take_history.nd rfl (Or.inl rfl)) pgs_nil))))
    (pss_cons (ps_if (pt_cmpR op_lt (pv 1) pe_int (nomark _)) (pss_one (ps_ret (pe_tup (pa_cons pe_non (pa_cons (pv 2) pa_nil))))) pss_nil)
    (pss_cons (ps_asg (pe_call G_law_read (hr.mono (by decide)) rfl g_law_read k_law_read b_law_read .nil pass0 (by exact (pa_cons (pv 0) (pa_cons (pv 2) pa_nil)))) (pg_tup rfl (pgs_cons (pg_name (i := 3) sc_law_take_history.nd rfl (Or.inl rfl)) (pgs_cons (pg_name (i := 2) sc_law_take_history.nd rfl (Or.inl rfl)) pgs_nil))))
    (pss_cons (ps_if (pt_cmpR op_lt (pv 3) pe_int (nomark _)) (pss_one (ps_ret (pe_tup (pa_cons pe_non (pa_cons (pv 2) pa_nil))))) pss_nil)
    (pss_cons (ps_if (pt_cmpR op_gt (pe_op op_add (pv 2) (pv 3)) (pe_callB call_len_seq (by rfl) B.len_ (by decide +kernel) (pa_cons (pv 0) pa_nil)) (nomark _)) (pss_one (ps_ret (pe_tup (pa_cons pe_non (pa_cons (pe_callB call_len_seq (by rfl) B.len_ (by decide +kernel) (pa_cons (pv 0) pa_nil)) pa_nil))))) pss_nil)
    (pss_cons (ps_set (i := 4) sc_law_take_history.nd rfl (Or.inl rfl) (pe_lst (pa_cons (pe_slice sl_list (pv 0) (po_some (pv 2)) (po_some (pe_op op_add (pv 2) (pv 3)))) pa_nil)))
    (pss_cons (ps_set (i := 2) sc_law_take_history.nd rfl (Or.inl rfl) (pe_op op_add (pv 2) (pv 3)))
    (pss_cons (ps_for PassesOwn.never rfl (pi_range1 (by rfl) B.range_ (pa_cons (pe_op op_sub (pv 1) pe_int) pa_nil)) (pg_name (i := 5) sc_law_take_history.nd rfl (Or.inl rfl))
    (pss_cons (ps_asg (pe_call G_law_take_script (hr.mono (by decide)) rfl g_law_take_script k_law_take_script b_law_take_script .nil pass0 (by exact (pa_cons (pv 0) (pa_cons (pv 2) (pa_cons (pe_callB call_len_seq (by rfl) B.len_ (by decide +kernel) (pa_cons (pe_ix ix_list (pv 4) (pe_un un_neg pe_int) (fun _ _ => rfl)) pa_nil)) pa_nil))))) (pg_tup rfl (pgs_cons (pg_name (i := 6) sc_law_take_history.nd rfl (Or.inl rfl)) (pgs_cons (pg_name (i := 2) sc_law_take_history.nd rfl (Or.inl rfl)) pgs_nil))))
    (pss_cons (ps_if (pt_cmpR op_isN (pv 6) pe_non (nomark _)) (pss_one (ps_ret (pe_tup (pa_cons pe_non (pa_cons (pv 2) pa_nil))))) pss_nil)
    (pss_one (ps_expr (pe_bm PySem.F.plainAttrs_list PySem.F.slot_list_append PySem.F.type_list_append mt_append (pv 4) (pa_cons (pe_call G_law_patch (hr.mono (by decide)) rfl g_law_patch k_law_patch b_law_patch .nil pass0 (by exact (pa_cons (pe_ix ix_list (pv 4) (pe_un un_neg pe_int) (fun _ _ => rfl)) (pa_cons (pv 6) pa_nil)))) pa_nil)))))))
    (pss_cons (ps_if (pt_cmpR op_lt (pv 2) (pe_callB call_len_seq (by rfl) B.len_ (by decide +kernel) (pa_cons (pv 0) pa_nil)) (nomark _)) (pss_one (ps_ret (pe_tup (pa_cons pe_non (pa_cons (pv 2) pa_nil))))) pss_nil)
    (pss_one (ps_ret (pe_tup (pa_cons (pv 4) (pa_cons (pv 2) pa_nil)))))))))))))), ?_⟩
    refine ⟨_, rfl, a, os, 0, rfl, hA, hO, fun p H1 e1 hp => ⟨p, _, rfl, SqT.of hp, rfl, _, _, rfl, _, _, rfl, rfl, ?_⟩⟩
    cases ep : ps os 0 with
    | bad z =>
      have ev : his os = .bad z := by unfold his; rw [ep]
      exact ⟨_, rfl, _, _, rfl, rfl, _, rfl, ifD (by show (-1 : Int) < 0; decide) ⟨_, rfl, (by show 2 ≤ sizeLine; decide), fun p2 hp2 => qb _ ev p2 _ (e1.trans (Evl.Ex.new hp2)) upd_same⟩⟩
    | ok c b =>
      obtain ⟨d, h1, h2, h3, h4, h5, h6⟩ := ps_ok hO ep
      subst h1
      refine ⟨_, rfl, _, _, rfl, rfl, _, rfl, ifN (by show ¬ (d : Int) < 0; omega) ⟨_, rfl, _, rfl, a, os, b, rfl, e1 _ _ hA, hO, fun p2 H2 e2 hp2 => ⟨p2, _, rfl, SqT.of hp2, rfl, _, _, rfl, _, _, rfl, rfl, ?_⟩⟩⟩
      cases er : rd os b with
      | bad z =>
        have ev : his os = .bad z := by unfold his; rw [ep]; dsimp only; rw [er]
        exact ⟨_, rfl, _, _, rfl, rfl, _, rfl, ifD (by show (-1 : Int) < 0; decide) ⟨_, rfl, (by show 2 ≤ sizeLine; decide), fun p3 hp3 => qb _ ev p3 _ ((e1.trans e2).trans (Evl.Ex.new hp3)) upd_same⟩⟩
      | ok m b2 =>
        obtain ⟨m', g1, g2, g3, g4, g5⟩ := rd_ok hO er
        subst g1
        have ev : his os = (if (b2 : Int) + (m' : Int) > os.length then .bad os.length else hiF os ((os.drop b2).take (m' : Int).toNat) ((d : Int) - 1).toNat (b2 + (m' : Int).toNat) ((os.drop b2).take (m' : Int).toNat) []) := by unfold his; rw [ep]; dsimp only; rw [er]
        have e12 := e1.trans e2
        have hA2 := e12 _ _ hA
        refine ⟨_, rfl, _, _, rfl, rfl, _, rfl, ifN (by show ¬ (m' : Int) < 0; omega) ⟨_, rfl, _, rfl, _, _, rfl, rfl, _, rfl, _, _, rfl, .inl (SqL.of hA2), _, _, rfl, rfl, _, rfl, ?_⟩⟩
        by_cases c3 : (b2 : Int) + (m' : Int) > os.length
        · rw [if_pos c3] at ev
          refine ifD (by rw [iL_len]; exact c3) ⟨_, rfl, _, _, rfl, .inl (SqL.of hA2), (by show 2 ≤ sizeLine; decide), fun p3 hp3 => qb _ ev p3 _ (e12.trans (Evl.Ex.new hp3)) ?_⟩
          rw [upd_same, iL_len]
        · rw [if_neg c3] at ev
          have em : (m' : Int).toNat = m' := by omega
          rw [em] at ev
          have hc : cutV (iL os) (some (b2 : Int)) (some ((b2 : Int) + (m' : Int))) = iL ((os.drop b2).take m') := cut_int os b2 m' _ _ rfl (by omega)
          have hfl : ((os.drop b2).take m').length = m' := by rw [List.length_take, List.length_drop]; omega
          refine ifN (by rw [iL_len]; exact c3) ⟨_, rfl, _, rfl, _, rfl, _, rfl, _, rfl, _, _, rfl, rfl, _, rfl, a, _, rfl, SqL.of hA2, fun r0 hr0 => ⟨(by show 1 ≤ sizeLine; decide), fun l hl => ?_⟩⟩
          have n0 : r0 ≠ l := ne_of_none upd_same hl
          have hlH : H l = none := Evl.fresh_back (e12.trans (Evl.Ex.new hr0)) hl
          refine ⟨_, rfl, _, rfl, _, _, rfl, rfl, _, rfl, _, _, rfl, rfl, _, rfl, by show -(2 ^ 62) ≤ (d : Int) - 1; omega, by show (d : Int) - 1 < 2 ^ 62; omega, ?_⟩
          refine for_range (lo := 0) (n := ((d : Int) - 1).toNat) (fun i σ H' => ∃ (a' : Nat) (us : List V) (acc : List (List Step)) (k : Nat) (v5 v6 : Option V), σ = [some (.ref a), some (.int d), some (.int a'), some (.int m'), some (.ref l), v5, v6] ∧
            Ex H H' ∧ H' l = some (.lst us) ∧ Vers H' us ((os.drop b2).take m') acc ∧ i + k = ((d : Int) - 1).toNat ∧ his os = hiF os ((os.drop b2).take m') k a' (ver ((os.drop b2).take m') acc) acc ∧ a' ≤ os.length ∧ acc.length ≤ a' ∧ (ver ((os.drop b2).take m') acc).length ≤ a')
            ⟨b2 + m', _, [], _, none, none, ?_, (e12.trans (Evl.Ex.new hr0)).trans (Evl.Ex.new hl), upd_same, ⟨rfl, fun i v hv => ?_⟩, by omega, ev, by omega, Nat.zero_le _, by show ((os.drop b2).take m').length ≤ _; omega⟩ ?_ ?_
          · show _ = [some (V.ref a), some (V.int (d : Int)), some (V.int ((b2 + m' : Nat) : Int)), some (V.int (m' : Int)), some (V.ref l), none, none]
            rw [show ((b2 + m' : Nat) : Int) = (b2 : Int) + (m' : Int) by omega]
            rfl
          · match i, hv with
            | 0, hv =>
              have e0 : V.ref r0 = v := Option.some.inj hv
              refine ⟨r0, e0.symm, ?_⟩
              rw [upd_ne n0, upd_same]
              show some (HO.lst (cutV (iL os) (some (b2 : Int)) (some ((b2 : Int) + (m' : Int))))) = _
              rw [hc]
              rfl
          · rintro i σ H' hi ⟨a', us, acc, k, v5, v6, rfl, e, hL, hV, hk, hhi, ha', hacc, hver⟩
            obtain ⟨k', rfl⟩ : ∃ k', k = k' + 1 := ⟨k - 1, by omega⟩
            rw [hiF] at hhi
            have hA' := e _ _ hA
            obtain ⟨r, hr1, hr2⟩ := hV.last
            refine ⟨_, rfl, _, rfl, _, rfl, _, rfl, _, _, _, _, rfl, rfl, SqL.of hL, hr1, _, _, rfl, .inl (SqL.of hr2), a, os, a', _, rfl, hA', hO, hz, by omega, ?_⟩
            rw [iL_len]
            refine ⟨fun st b' hs p3 l3 ws H3 e3 hp3 hl3 hS3 => ?_, fun z hbad p3 H3 e3 hp3 => ?_⟩
            · rw [hs] at hhi
              obtain ⟨k1, k2, k3, k4, k5⟩ := scr_ok hO (by omega) hs
              have hL3 := e3 _ _ hL
              refine ⟨p3, _, rfl, SqT.of hp3, rfl, _, _, rfl, _, _, rfl, rfl, _, rfl, rfl, _, rfl, ifN (fun z => by cases z) ⟨_, rfl, .inl ⟨rfl, _, SqL.of hL3⟩, _, rfl, _, rfl, _, _, _, _, rfl, rfl, SqL.of hL3, hr1, _, rfl, r, l3, _, ws, st, rfl, e3 _ _ hr2, hl3, hS3, ⟨fun s hs => (k4.all s hs).cnt, k4.sum, by omega⟩, fun r4 H4 e4 hr4 => ?_⟩⟩
              have hL4 := e4 _ _ hL3
              have hul := hV.len
              refine ⟨l, _, _, rfl, rfl, hL4, fitsL2 (by omega), b', _, acc ++ [st], k', _, _, rfl, Evl.Ex.mut ((e.trans e3).trans e4) hlH, upd_same, hV.more (fun q xs hq h => ?_) ?_, by omega, by rw [ver_more]; exact hhi, k3, by rw [List.length_append]; show acc.length + 1 ≤ b'; omega, ?_⟩
              · obtain ⟨v, hv, ev⟩ := hq
                obtain ⟨i, hi⟩ := List.mem_iff_getElem?.mp hv
                obtain ⟨r', h1, h2⟩ := hV.at_ i v hi
                rw [ev] at h1
                cases h1
                rw [upd_ne (hV.ne hL h2)]
                exact e4 _ _ (e3 _ _ h)
              · rw [upd_ne (hV.ne hL4 hr4)]
                exact hr4
              · rw [ver_more]
                have := ptc_le (old := ver ((os.drop b2).take m') acc) (fun s hs => (k4.all s hs).cnt) k4.sum
                omega
            · rw [hbad] at hhi
              exact ⟨p3, _, rfl, SqT.of hp3, rfl, _, _, rfl, _, _, rfl, rfl, _, rfl, rfl, _, rfl, ifD rfl ⟨_, rfl, (by show 2 ≤ sizeLine; decide), fun p4 hp4 => qb _ hhi p4 _ ((e.trans e3).trans (Evl.Ex.new hp4)) upd_same⟩⟩
          · rintro σ H' ⟨a', us, acc, k, v5, v6, rfl, e, hL, hV, hk, hhi, ha', hacc, hver⟩
            obtain rfl : k = 0 := by omega
            rw [hiF] at hhi
            have hA' := e _ _ hA
            refine ⟨_, rfl, _, rfl, _, _, rfl, .inl (SqL.of hA'), _, _, rfl, rfl, _, rfl, if2 (fun c => ?_) (fun c => ?_)⟩
            · rw [iL_len] at c
              rw [if_pos (by omega)] at hhi
              exact ⟨_, rfl, (by show 2 ≤ sizeLine; decide), fun p4 hp4 => qb _ hhi p4 _ (e.trans (Evl.Ex.new hp4)) upd_same⟩
            · rw [iL_len] at c
              rw [if_neg (by omega)] at hhi
              refine ⟨_, rfl, _, rfl, (by show 2 ≤ sizeLine; decide), fun p4 hp4 => qs _ _ hhi p4 l us _ _ (e.trans (Evl.Ex.new hp4)) upd_same (by rw [upd_ne (ne_of_none hL hp4)]; exact hL) ⟨hV.len, fun i v hv => ?_⟩⟩
              obtain ⟨r, h1, h2⟩ := hV.at_ i v hv
              exact ⟨r, h1, by rw [upd_ne (ne_of_none h2 hp4)]; exact h2⟩
end
end K17
set_option maxHeartbeats 4000000
namespace K17
open PySem PySem.Spec PyProof.Rows L2
/-- a step that the law builds -/
def BOk : Step → Prop
  | .keep n => 0 ≤ n
  | .drop n => 0 ≤ n
  | .add xs => Oct xs
theorem BOk.cnt {s : Step} (h : BOk s) : 0 ≤ cnt s := by
  cases s with
  | keep n => exact h
  | drop n => exact h
  | add xs => exact Int.le_refl _
theorem csum_snoc (l : List Step) (s : Step) : csum (l ++ [s]) = csum l + cnt s := by
  rw [csum_app]
  show _ + (cnt s + 0) = _
  omega
theorem asum_snoc (l : List Step) (s : Step) : asum (l ++ [s]) = asum l + alen s := by
  rw [asum_app]
  show _ + (alen s + 0) = _
  omega
theorem all_snoc {P : Step → Prop} {l : List Step} {s : Step} (h : ∀ x ∈ l, P x) (hs : P s) : ∀ x ∈ l ++ [s], P x := fun x hx => (List.mem_append.mp hx).elim (h x) fun m => by
  have e : x = s := by simpa using m
  rw [e]; exact hs
/-! ### data compared -/
theorem can_ints (l : List Int) : PyData.canLayAll0 (l.map PyData.int) = true := by
  induction l with
  | nil => rfl
  | cons a r ih => show (PyData.canLay0 (.int a) && PyData.canLayAll0 (r.map PyData.int)) = true; rw [ih]; rfl
theorem dep_ints (l : List Int) : PyData.depthAll (l.map PyData.int) = 0 := by
  induction l with
  | nil => rfl
  | cons a r ih => show max 0 (PyData.depthAll (r.map PyData.int)) = 0; rw [ih]; rfl
theorem sh_list (l : List Int) : SeqAt.shaped (.list (l.map PyData.int)) = true := by
  unfold SeqAt.shaped
  rw [show PyData.canLay0 (.list (l.map PyData.int)) = true from can_ints l, show PyData.depth (.list (l.map PyData.int)) = 0 + 1 from congrArg (· + 1) (dep_ints l)]
  rfl
theorem sh_gap (d : Int) (l : List Int) : SeqAt.shaped (.tuple [.int d, .tuple (l.map PyData.int)]) = true := by
  unfold SeqAt.shaped
  have e1 : PyData.canLay0 (.tuple [.int d, .tuple (l.map PyData.int)]) = true := by
    show (true && (PyData.canLayAll0 (l.map PyData.int) && true)) = true
    rw [can_ints]; rfl
  have e2 : PyData.depth (.tuple [.int d, .tuple (l.map PyData.int)]) = 2 := by
    show max 0 (max (PyData.depthAll (l.map PyData.int) + 1) 0) + 1 = 2
    rw [dep_ints]; rfl
  rw [e1, e2]; rfl
theorem dp_all {K : PySem.W.Frag} {H : Hp} (l : List Int) : DpAll K H (iL l) (l.map PyData.int) := by
  induction l with
  | nil => exact .nil
  | cons a r ih => exact .cons (.int a) ih
theorem dp_list {K : PySem.W.Frag} {H : Hp} {p : Addr} {l : List Int} (h : H p = some (.lst (iL l))) : Dp K H (.ref p) (.list (l.map PyData.int)) := .lst (SqL.of h) (dp_all l)
theorem dp_gap {K : PySem.W.Frag} {H : Hp} {p t : Addr} {d : Int} {l : List Int} (h : H p = some (.tup [.int d, .ref t])) (ht : H t = some (.tup (iL l))) : Dp K H (.ref p) (.tuple [.int d, .tuple (l.map PyData.int)]) :=
  .tup (SqT.of h) (.cons (.int d) (.cons (.tup (SqT.of ht) (dp_all l)) .nil))
theorem eqv_gap (d : Int) (l : List Int) : PyData.eqv (.tuple [.int d, .tuple (l.map PyData.int)]) (.tuple [.int 0, .tuple []]) = decide (d = 0 ∧ l = []) := by
  show ((d == 0) && (PyData.eqvAll (l.map PyData.int) [] && true)) = _
  cases l with
  | nil =>
    show ((d == 0) && (true && true)) = _
    by_cases c : d = 0
    · rw [decide_eq_true ⟨c, rfl⟩, c]; rfl
    · rw [decide_eq_false fun z => c z.1, show (d == 0) = false by simpa using c]; rfl
  | cons a r =>
    show ((d == 0) && (false && true)) = _
    rw [decide_eq_false fun z => by cases z.2]
    cases (d == 0) <;> rfl
section
variable {w : World} {K : PySem.W.Frag} {mg : Str → Option Value} {base : Heap} {CE fI : Addr}
/-! ### _law_script -/
abbrev s_law_script : Stmt := top 29
theorem sc_law_script : FnScope ["_law_cells", "_law_old", "_law_steps", "_law_left", "_law_cell_here", "_law_kind", "_law_count"] ["_law_cells", "_law_old"] (defScope s_law_script) := ⟨rfl, rfl, rfl, by decide +kernel, rfl, by decide +kernel, by decide +kernel⟩
def spLScr (K : PySem.W.Frag) : Sp := fun vs H Q _ => ∃ (a b : Addr) (cs old : List Int), vs = [.ref a, .ref b] ∧ SqL K H a (iL cs) ∧ H b = some (.lst (iL old)) ∧ cs.length ≤ 6 ∧ old.length ≤ 1000 ∧
  ∀ (p : Addr) (ws : List V) (st : List Step) (H' : Hp), Ex H H' → H' p = some (.lst ws) → Sts H' ws st → (∀ s ∈ st, BOk s) → csum st = old.length → asum st ≤ 24 → st.length ≤ 7 → Q (.ref p) H'
theorem can_lscr (B : Bl mg) (D : Df K mg "_law_script" s_law_script) (hit : Can w K mg base CX0 3 "_law_items" ["_law_cell_here", "_law_size"] spItems) : Can w K mg base CX0 4 "_law_script" ["_law_cells", "_law_old"] (spLScr K) := by
  obtain ⟨f, fd, g, F⟩ := D
  obtain ⟨f_law_items, d_law_items, g_law_items, k_law_items, b_law_items, G_law_items⟩ := hit
  refine ⟨f, fd, g, F.kp, F.binds fun _ _ _ _ _ _ us hl => match us, hl with | [_, _], _ => rfl, F.ok sc_law_script (fun vs H Q E h => ?_) (fun cdv A outer s H vs Q E hr h => ?_)⟩
  · obtain ⟨a, b, cs, old, rfl, _⟩ := h
    rfl
  · obtain ⟨a, b, cs, old, rfl, hA, hB, hcs, hold, q⟩ := h
    refine ⟨_, (pss_cons (ps_set (i := 2) sc_law_script.nd rfl (Or.inl rfl) (pe_lst pa_nil))
    (pss_cons (ps_set (i := 3) sc_law_script.nd rfl (Or.inl rfl) (pe_callB call_len_seq (by rfl) B.len_ (by decide +kernel) (pa_cons (pv 1) pa_nil)))
    (pss_cons (ps_for PassesOwn.never rfl (pi_list (pv 0)) (pg_name (i := 4) sc_law_script.nd rfl (Or.inl rfl))
    (pss_cons (ps_set (i := 5) sc_law_script.nd rfl (Or.inl rfl) (pe_op op_mod (pv 4) pe_int))
    (pss_one (ps_if (pt_cmpR op_eq (pv 5) pe_int (nomark _)) (pss_one (ps_expr (pe_bm PySem.F.plainAttrs_list PySem.F.slot_list_append PySem.F.type_list_append mt_append (pv 2) (pa_cons (pe_tup (pa_cons pe_str (pa_cons (pe_callTy call_tuple_of (by rfl) B.tuple_ (by decide +kernel) (pa_cons (pe_call G_law_items (hr.mono (by decide)) rfl g_law_items k_law_items b_law_items .nil pass0 (by exact (pa_cons (pe_op op_fdiv (pv 4) pe_int) (pa_cons (pe_op op_add pe_int (pe_op op_mod (pe_op op_fdiv (pv 4) pe_int) pe_int)) pa_nil)))) pa_nil)) pa_nil))) pa_nil)))) (pss_one (ps_if (pt_cmpR op_gt (pv 3) pe_int (nomark _)) (pss_cons (ps_set (i := 6) sc_law_script.nd rfl (Or.inl rfl) (pe_op op_add pe_int (pe_op op_mod (pe_op op_fdiv (pv 4) pe_int) (pe_callB (call_min2 rfl) (by rfl) B.min_ (by decide +kernel) (pa_cons (pv 3) (pa_cons pe_int pa_nil))))))
    (pss_cons (ps_expr (pe_bm PySem.F.plainAttrs_list PySem.F.slot_list_append PySem.F.type_list_append mt_append (pv 2) (pa_cons (pe_tup (pa_cons (pe_ix ix_tup (pe_tup (pa_cons pe_str (pa_cons pe_str pa_nil))) (pv 5) (fun _ _ => rfl)) (pa_cons (pv 6) pa_nil))) pa_nil)))
    (pss_one (ps_set (i := 3) sc_law_script.nd rfl (Or.inl rfl) (pe_op op_sub (pv 3) (pv 6)))))) pss_nil))))))
    (pss_cons (ps_if (pt_cmpR op_gt (pv 3) pe_int (nomark _)) (pss_one (ps_expr (pe_bm PySem.F.plainAttrs_list PySem.F.slot_list_append PySem.F.type_list_append mt_append (pv 2) (pa_cons (pe_tup (pa_cons pe_str (pa_cons (pv 3) pa_nil))) pa_nil)))) pss_nil)
    (pss_one (ps_ret (pv 2))))))), ?_⟩
    refine ⟨sz0, fun l hl => ⟨_, rfl, _, _, rfl, .inl (SqL.of (Evl.Ex.new hl _ _ hB)), ?_⟩⟩
    rw [iL_len]
    refine ⟨_, rfl, a, rfl, ⟨_, Evl.ex_l (Evl.Ex.new hl) hA⟩, for_list (K := K) (a := a) (xs := iL cs) (fun i σ H' => ∃ (lf : Int) (ws : List V) (acc : List Step) (v4 v5 v6 : Option V), σ = [some (.ref a), some (.ref b), some (.ref l), some (.int lf), v4, v5, v6] ∧
      Ex H H' ∧ H' l = some (.lst ws) ∧ Sts H' ws acc ∧ acc.length ≤ i ∧ asum acc ≤ 4 * i ∧ csum acc + lf = old.length ∧ 0 ≤ lf ∧ ∀ s ∈ acc, BOk s)
      ⟨_, [], [], none, none, none, rfl, Evl.Ex.new hl, upd_same, .nil, Nat.le_refl _, Nat.le_refl _, by show (0 : Int) + _ = _; omega, by omega, fun s hs => by cases hs⟩ (fun i σ H' _ ⟨_, _, _, _, _, _, _, e, _⟩ => Evl.ex_l e hA) ?_ ?_⟩
    · rintro i y σ H' hi ⟨lf, ws, acc, v4, v5, v6, rfl, e, hL, hS, h1, h2, h3, h4, h5⟩
      obtain ⟨c, hc, rfl⟩ := iL_get hi
      have hi6 : i < 6 := by have := at_lt hc; omega
      have hwl := paired_len hS
      have fit : ws.length < sizeLine := fitsL (by rw [hwl]; omega)
      -- one more step on the list
      have grow : ∀ (H1 : Hp) (pv : Addr) (s : Step) (lf' : Int) (v4 v5 v6 : Option V), Ex H' H1 → StAt H1 (.ref pv) s → BOk s → alen s ≤ 4 → csum acc + cnt s + lf' = old.length → 0 ≤ lf' →
          ∃ (lf : Int) (ws' : List V) (acc' : List Step) (v4' v5' v6' : Option V), [some (V.ref a), some (V.ref b), some (V.ref l), some (V.int lf'), v4, v5, v6] = [some (.ref a), some (.ref b), some (.ref l), some (.int lf), v4', v5', v6'] ∧
          Ex H (upd H1 l (.lst (ws ++ [.ref pv]))) ∧ upd H1 l (.lst (ws ++ [.ref pv])) l = some (.lst ws') ∧ Sts (upd H1 l (.lst (ws ++ [.ref pv]))) ws' acc' ∧ acc'.length ≤ i + 1 ∧ asum acc' ≤ 4 * (i + 1) ∧ csum acc' + lf = old.length ∧ 0 ≤ lf ∧ ∀ s ∈ acc', BOk s :=
        fun H1 pv s lf' v4 v5 v6 e1 hs hb ha hcs hlf => by
          refine ⟨lf', _, acc ++ [s], v4, v5, v6, rfl, Evl.Ex.mut (e.trans e1) hl, upd_same, Sts.mono (exb_lst Exb.upd (e1 _ _ hL)) (paired_snoc (Sts.mono (Ex.tups e1) hS) hs), by rw [List.length_append]; show acc.length + 1 ≤ i + 1; omega, by rw [asum_snoc]; omega, by rw [csum_snoc]; omega, hlf, all_snoc h5 hb⟩
      refine ⟨_, rfl, _, _, rfl, rfl, (by decide : (0 : Int) < 3), ?_⟩
      have m0 := Int.emod_nonneg c (by decide : (3 : Int) ≠ 0)
      have m1 := Int.emod_lt_of_pos c (by decide : (0 : Int) < 3)
      refine ⟨_, rfl, rfl, _, rfl, if2 (fun k => ?_) (fun k => ?_)⟩
      · have n0 := Int.emod_nonneg (c / 9) (by decide : (4 : Int) ≠ 0)
        have n1 := Int.emod_lt_of_pos (c / 9) (by decide : (0 : Int) < 4)
        refine ⟨_, rfl, .inl ⟨rfl, _, SqL.of hL⟩, _, rfl, _, _, rfl, rfl, ⟨by decide, by decide⟩, _, rfl, _, _, rfl, rfl, ⟨by decide, by decide⟩, _, _, rfl, rfl, (by decide : (0 : Int) < 4), _, _, rfl, rfl, _, _, rfl, by omega, by omega, fun p ns H1 e1 hp hlen ho => ?_⟩
        refine ⟨p, _, rfl, .inl ⟨SqL.of hp, fun p2 hp2 => ⟨(by show 2 ≤ sizeLine; decide), fun p3 hp3 => ⟨l, _, _, rfl, rfl, ?_, fit, ?_⟩⟩⟩⟩
        · exact Evl.Ex.new hp3 _ _ (Evl.Ex.new hp2 _ _ (e1 _ _ hL))
        · exact grow _ p3 (.add ns) lf _ _ _ ((e1.trans (Evl.Ex.new hp2)).trans (Evl.Ex.new hp3)) ⟨p3, p2, rfl, upd_same, by rw [upd_ne (ne_of_none upd_same hp3)]; exact upd_same⟩ ho (by show ns.length ≤ 4; omega) (by show csum acc + 0 + lf = _; omega) h4
      · refine ⟨_, rfl, _, _, rfl, rfl, _, rfl, if2 (fun k2 => ?_) (fun k2 => ?_)⟩
        · obtain ⟨mn, emn⟩ : ∃ mn : Int, mn = if (5 : Int) < lf then 5 else lf := ⟨_, rfl⟩
          have bmn : 0 < mn ∧ mn ≤ lf := by
            by_cases z : (5 : Int) < lf
            · rw [if_pos z] at emn; omega
            · rw [if_neg z] at emn; omega
          refine ⟨_, rfl, _, _, rfl, rfl, ⟨by decide, by decide⟩, _, rfl, _, _, rfl, ?_⟩
          rw [← emn]
          have q0 := Int.emod_nonneg (c / 3) (show mn ≠ 0 by omega)
          have q1 := Int.emod_lt_of_pos (c / 3) bmn.1
          refine ⟨_, _, rfl, rfl, bmn.1, _, _, rfl, rfl, _, rfl, .inl ⟨rfl, _, SqL.of hL⟩, by decide, fun p1 hp1 => ⟨_, rfl, ?_⟩⟩
          have hT : SqT K (upd H' p1 (.tup [.str "keep", .str "drop"])) p1 [.str "keep", .str "drop"] := SqT.of upd_same
          have hL1 := Evl.Ex.new (o := .tup [.str "keep", .str "drop"]) hp1 _ _ hL
          have c4 : c % 3 ≠ 2 := fun z => k (congrArg V.int z)
          rcases (by omega : c % 3 = 0 ∨ c % 3 = 1) with ek | ek
          · refine ⟨_, _, _, _, rfl, rfl, hT, at_of (j := 0) ek rfl, _, rfl, (by show 2 ≤ sizeLine; decide), fun p2 hp2 => ⟨l, _, _, rfl, rfl, Evl.Ex.new hp2 _ _ hL1, fit, _, rfl, _, rfl, _, _, rfl, rfl, ?_⟩⟩
            exact grow _ p2 (.keep (1 + c / 3 % mn)) (lf - (1 + c / 3 % mn)) _ _ _ ((Evl.Ex.new hp1).trans (Evl.Ex.new hp2)) ⟨p2, rfl, upd_same⟩ (by show 0 ≤ 1 + c / 3 % mn; omega) (Nat.zero_le _) (by show csum acc + (1 + c / 3 % mn) + (lf - (1 + c / 3 % mn)) = _; omega) (by omega)
          · refine ⟨_, _, _, _, rfl, rfl, hT, at_of (j := 1) ek rfl, _, rfl, (by show 2 ≤ sizeLine; decide), fun p2 hp2 => ⟨l, _, _, rfl, rfl, Evl.Ex.new hp2 _ _ hL1, fit, _, rfl, _, rfl, _, _, rfl, rfl, ?_⟩⟩
            exact grow _ p2 (.drop (1 + c / 3 % mn)) (lf - (1 + c / 3 % mn)) _ _ _ ((Evl.Ex.new hp1).trans (Evl.Ex.new hp2)) ⟨p2, rfl, upd_same⟩ (by show 0 ≤ 1 + c / 3 % mn; omega) (Nat.zero_le _) (by show csum acc + (1 + c / 3 % mn) + (lf - (1 + c / 3 % mn)) = _; omega) (by omega)
        · exact ⟨lf, ws, acc, _, _, _, rfl, e, hL, hS, by omega, by omega, h3, h4, h5⟩
    · rintro σ H' ⟨lf, ws, acc, v4, v5, v6, rfl, e, hL, hS, h1, h2, h3, h4, h5⟩
      rw [iL_len] at h1 h2
      have hwl := paired_len hS
      refine ⟨_, rfl, _, _, rfl, rfl, _, rfl, if2 (fun k => ?_) (fun k => ?_)⟩
      · refine ⟨_, rfl, .inl ⟨rfl, _, SqL.of hL⟩, _, rfl, (by show 2 ≤ sizeLine; decide), fun p2 hp2 => ⟨l, _, _, rfl, rfl, Evl.Ex.new hp2 _ _ hL, fitsL (by rw [hwl]; omega), _, rfl, ?_⟩⟩
        have hs : StAt (upd H' p2 (.tup [.str "keep", .int lf])) (.ref p2) (.keep lf) := ⟨p2, rfl, upd_same⟩
        have hS2 := paired_snoc (Sts.mono (Ex.tups (Evl.Ex.new hp2)) hS) hs
        have h45 : ∀ s ∈ acc ++ [Step.keep lf], BOk s := all_snoc h5 (show BOk (.keep lf) from h4)
        exact q l _ (acc ++ [.keep lf]) _ (Evl.Ex.mut (e.trans (Evl.Ex.new hp2)) hl) upd_same (Sts.mono (exb_lst Exb.upd (Evl.Ex.new hp2 _ _ hL)) hS2) h45 (by rw [csum_snoc]; exact h3) (by rw [asum_snoc]; show asum acc + 0 ≤ 24; omega) (by rw [List.length_append]; show acc.length + 1 ≤ 7; omega)
      · exact ⟨_, rfl, q l ws acc H' e hL hS h5 (by omega) (by omega) (by omega)⟩
end
end K17
set_option maxHeartbeats 4000000
namespace K17
open PySem PySem.Spec PyProof.Rows L2
/-- what a gap closes to -/
def clo (d : Int) (items : List Int) : List Step := (if d > 0 then [.drop d] else []) ++ (if items.length > 0 then [.add items] else [])
theorem clo_csum {d : Int} {items : List Int} (h : 0 ≤ d) : csum (clo d items) = d := by
  unfold clo
  rw [csum_app]
  by_cases c : d > 0
  · rw [if_pos c]
    by_cases c2 : items.length > 0
    · rw [if_pos c2]; show (d + 0) + (0 + 0) = d; omega
    · rw [if_neg c2]; show (d + 0) + 0 = d; omega
  · rw [if_neg c]
    by_cases c2 : items.length > 0
    · rw [if_pos c2]; show 0 + (0 + 0) = d; omega
    · rw [if_neg c2]; show (0 : Int) + 0 = d; omega
theorem clo_asum {d : Int} {items : List Int} : asum (clo d items) = items.length := by
  unfold clo
  rw [asum_app]
  by_cases c : d > 0
  · rw [if_pos c]
    by_cases c2 : items.length > 0
    · rw [if_pos c2]; show (0 + 0) + (items.length + 0) = _; omega
    · rw [if_neg c2]; show (0 + 0) + 0 = _; omega
  · rw [if_neg c]
    by_cases c2 : items.length > 0
    · rw [if_pos c2]; show 0 + (items.length + 0) = _; omega
    · rw [if_neg c2]; show 0 + 0 = _; omega
theorem clo_len (d : Int) (items : List Int) : (clo d items).length ≤ 2 := by
  unfold clo
  rw [List.length_append]
  by_cases c : d > 0
  · rw [if_pos c]
    by_cases c2 : items.length > 0
    · rw [if_pos c2]; exact Nat.le_refl 2
    · rw [if_neg c2]; exact Nat.le_succ 1
  · rw [if_neg c]
    by_cases c2 : items.length > 0
    · rw [if_pos c2]; exact Nat.le_succ 1
    · rw [if_neg c2]; exact Nat.zero_le _
theorem clo_ok {d : Int} {items : List Int} (hd : 0 ≤ d) (ho : Oct items) : ∀ s ∈ clo d items, BOk s := by
  unfold clo
  intro s hs
  rcases List.mem_append.mp hs with h | h
  · by_cases c : d > 0
    · rw [if_pos c] at h
      rw [List.mem_singleton.mp h]
      exact hd
    · rw [if_neg c] at h; cases h
  · by_cases c : items.length > 0
    · rw [if_pos c] at h
      rw [List.mem_singleton.mp h]
      exact ho
    · rw [if_neg c] at h; cases h
theorem all_app {P : Step → Prop} {l m : List Step} (h : ∀ x ∈ l, P x) (g : ∀ x ∈ m, P x) : ∀ x ∈ l ++ m, P x := fun x hx => (List.mem_append.mp hx).elim (h x) (g x)
theorem ixN_last {α : Type} (xs : List α) (v : α) : ixN (xs ++ [v]).length (-1) = some xs.length := by
  unfold ixN
  rw [if_neg (by omega), if_pos (by rw [List.length_append]; show -((xs.length + 1 : Nat) : Int) ≤ -1; omega), List.length_append]
  exact congrArg some (by show (-1 + ((xs.length + 1 : Nat) : Int)).toNat = _; omega)
theorem paired_unsnoc {α β : Type} {F : α → β → Prop} {l : List α} {m : List β} {y : β} (h : Paired F l (m ++ [y])) : ∃ l0 x, l = l0 ++ [x] ∧ Paired F l0 m ∧ F x y := by
  induction m generalizing l with
  | nil =>
    cases h with
    | cons r t =>
      cases t
      exact ⟨[], _, rfl, .nil, r⟩
  | cons b m ih =>
    cases h with
    | cons r t =>
      obtain ⟨l0, x, e, p, f⟩ := ih t
      exact ⟨_ :: l0, x, by rw [e]; rfl, .cons r p, f⟩
section
variable {w : World} {K : PySem.W.Frag} {mg : Str → Option Value} {base : Heap} {CE fI : Addr}
/-! ### _law_close -/
abbrev s_law_close : Stmt := top 34
theorem sc_law_close : FnScope ["_law_steps", "_law_gap"] ["_law_steps", "_law_gap"] (defScope s_law_close) := ⟨rfl, rfl, rfl, by decide +kernel, rfl, by decide +kernel, by decide +kernel⟩
def spClose : Sp := fun vs H Q _ => ∃ (l p t : Addr) (ws : List V) (d : Int) (items : List Int), vs = [.ref l, .ref p] ∧ H l = some (.lst ws) ∧ H p = some (.tup [.int d, .ref t]) ∧ H t = some (.tup (iL items)) ∧ ws.length ≤ 1000 ∧
  ∀ (ws' : List V) (H' : Hp), Exb l H H' → H' l = some (.lst (ws ++ ws')) → Sts H' ws' (clo d items) → Q .non H'
theorem can_close (B : Bl mg) (D : Df K mg "_law_close" s_law_close) : Can w K mg base CX0 1 "_law_close" ["_law_steps", "_law_gap"] spClose := by
  obtain ⟨f, fd, g, F⟩ := D
  refine ⟨f, fd, g, F.kp, F.binds fun _ _ _ _ _ _ us hl => match us, hl with | [_, _], _ => rfl, F.ok sc_law_close (fun vs H Q E h => ?_) (fun cdv A outer s H vs Q E hr h => ?_)⟩
  · obtain ⟨l, p, t, ws, d, items, rfl, _⟩ := h
    rfl
  · obtain ⟨l, p, t, ws, d, items, rfl, hL, hP, hT, hz, q⟩ := h
    refine ⟨_, (Evl.pss_cut (ps_if (pt_cmpR op_gt (pe_ix ix_tup (pv 1) pe_int (fun _ _ => rfl)) pe_int (nomark _)) (pss_one (ps_expr (pe_bm PySem.F.plainAttrs_list PySem.F.slot_list_append PySem.F.type_list_append mt_append (pv 0) (pa_cons (pe_tup (pa_cons pe_str (pa_cons (pe_ix ix_tup (pv 1) pe_int (fun _ _ => rfl)) pa_nil))) pa_nil)))) pss_nil)
    (pss_one (ps_if (pt_cmpR op_gt (pe_callB call_len_seq (by rfl) B.len_ (by decide +kernel) (pa_cons (pe_ix ix_tup (pv 1) pe_int (fun _ _ => rfl)) pa_nil)) pe_int (nomark _)) (pss_one (ps_expr (pe_bm PySem.F.plainAttrs_list PySem.F.slot_list_append PySem.F.type_list_append mt_append (pv 0) (pa_cons (pe_tup (pa_cons pe_str (pa_cons (pe_ix ix_tup (pv 1) pe_int (fun _ _ => rfl)) pa_nil))) pa_nil)))) pss_nil))), ?_⟩
    refine ⟨fun σ' H' => σ' = [some (.ref l), some (.ref p)] ∧ Exb l H H' ∧ ∃ ws1 : List V, H' l = some (.lst (ws ++ ws1)) ∧ ws1.length ≤ 1 ∧ Sts H' ws1 (if d > 0 then [.drop d] else []), ?_, ?_⟩
    · refine ⟨_, rfl, _, _, _, _, rfl, rfl, SqT.of hP, at_of (j := 0) rfl rfl, _, _, rfl, rfl, _, rfl, if2 (fun c => ?_) (fun c => ?_)⟩
      · refine ⟨_, rfl, .inl ⟨rfl, _, SqL.of hL⟩, _, rfl, _, _, _, _, rfl, rfl, SqT.of hP, at_of (j := 0) rfl rfl, (by show 2 ≤ sizeLine; decide), fun p2 hp2 => ⟨l, _, _, rfl, rfl, Evl.Ex.new hp2 _ _ hL, fitsL (by omega), rfl, (Exb.of (Evl.Ex.new hp2)).trans Exb.upd, [.ref p2], upd_same, Nat.le_refl _, ?_⟩⟩
        rw [if_pos c]
        have hn : p2 ≠ l := fun z => by rw [z, hL] at hp2; cases hp2
        exact .cons ⟨p2, rfl, by rw [upd_ne hn, upd_same]⟩ .nil
      · refine ⟨rfl, Exb.of (Evl.Ex.refl _), [], by rw [List.append_nil]; exact hL, Nat.zero_le _, ?_⟩
        rw [if_neg c]
        exact .nil
    · rintro σ' H1 ⟨rfl, e1, ws1, hL1, hz1, hS1⟩
      have tp := exb_lst e1 hL
      have hP1 := tp _ _ hP
      have hT1 := tp _ _ hT
      refine ⟨_, rfl, _, _, _, _, rfl, rfl, SqT.of hP1, at_of (j := 1) rfl rfl, _, _, rfl, .inr (SqT.of hT1), _, _, rfl, rfl, _, rfl, if2 (fun c => ?_) (fun c => ?_)⟩
      · rw [iL_len] at c
        refine ⟨_, rfl, .inl ⟨rfl, _, SqL.of hL1⟩, _, rfl, _, _, _, _, rfl, rfl, SqT.of hP1, at_of (j := 1) rfl rfl, (by show 2 ≤ sizeLine; decide), fun p2 hp2 => ⟨l, _, _, rfl, rfl, Evl.Ex.new hp2 _ _ hL1, fitsL (by rw [List.length_append]; omega), ?_⟩⟩
        have hn : p2 ≠ l := fun z => by rw [z, hL1] at hp2; cases hp2
        have hnt : t ≠ p2 := ne_of_none hT1 hp2
        have hnl : t ≠ l := fun z => by rw [z, hL1] at hT1; cases hT1
        refine q (ws1 ++ [.ref p2]) _ (e1.trans ((Exb.of (Evl.Ex.new hp2)).trans Exb.upd)) (by rw [upd_same, List.append_assoc]) ?_
        unfold clo
        rw [if_pos (show items.length > 0 by omega)]
        have tp2 := exb_lst (Exb.upd (r := l) (H := upd H1 p2 (.tup [.str "add", .ref t])) (o := .lst (ws ++ ws1 ++ [.ref p2]))) (Evl.Ex.new hp2 _ _ hL1)
        exact paired_snoc (Sts.mono tp2 (Sts.mono (Ex.tups (Evl.Ex.new hp2)) hS1)) ⟨p2, t, rfl, by rw [upd_ne hn, upd_same], by rw [upd_ne hnl, upd_ne hnt]; exact hT1⟩
      · rw [iL_len] at c
        refine q ws1 _ e1 hL1 ?_
        unfold clo
        rw [if_neg (show ¬ items.length > 0 by omega), List.append_nil]
        exact hS1
/-! ### _law_normal -/
abbrev s_law_normal : Stmt := top 35
theorem sc_law_normal : FnScope ["_law_script_here", "_law_steps", "_law_gap", "_law_kind", "_law_part"] ["_law_script_here"] (defScope s_law_normal) := ⟨rfl, rfl, rfl, by decide +kernel, rfl, by decide +kernel, by decide +kernel⟩
def spNorm : Sp := fun vs H Q _ => ∃ (a : Addr) (ws : List V) (st : List Step), vs = [.ref a] ∧ H a = some (.lst ws) ∧ Sts H ws st ∧ (∀ s ∈ st, BOk s) ∧ asum st ≤ 24 ∧ st.length ≤ 7 ∧
  ∀ (l : Addr) (ws' : List V) (st' : List Step) (H' : Hp), H l = none → Ex H H' → H' l = some (.lst ws') → Sts H' ws' st' → (∀ s ∈ st', BOk s) → csum st' = csum st → asum st' = asum st → st'.length ≤ 23 → Q (.ref l) H'
theorem can_norm (B : Bl mg) (D : Df K mg "_law_normal" s_law_normal) (hc : Can w K mg base CX0 1 "_law_close" ["_law_steps", "_law_gap"] spClose) : Can w K mg base CX0 2 "_law_normal" ["_law_script_here"] spNorm := by
  obtain ⟨f, fd, g, F⟩ := D
  obtain ⟨f_law_close, d_law_close, g_law_close, k_law_close, b_law_close, G_law_close⟩ := hc
  refine ⟨f, fd, g, F.kp, F.binds fun _ _ _ _ _ _ us hl => match us, hl with | [_], _ => rfl, F.ok sc_law_normal (fun vs H Q E h => ?_) (fun cdv A outer s H vs Q E hr h => ?_)⟩
  · obtain ⟨a, ws, st, rfl, _⟩ := h
    rfl
  · obtain ⟨a, ws, st, rfl, hA, hS, hB, hz, hz2, q⟩ := h
    have hlen := paired_len hS
    refine ⟨_, (pss_cons (ps_set (i := 1) sc_law_normal.nd rfl (Or.inl rfl) (pe_lst pa_nil))
    (pss_cons (ps_set (i := 2) sc_law_normal.nd rfl (Or.inl rfl) (pe_tup (pa_cons pe_int (pa_cons (pe_tup pa_nil) pa_nil))))
    (pss_cons (ps_for PassesOwn.never rfl (pi_list (pv 0)) (pg_tup rfl (pgs_cons (pg_name (i := 3) sc_law_normal.nd rfl (Or.inl rfl)) (pgs_cons (pg_name (i := 4) sc_law_normal.nd rfl (Or.inl rfl)) pgs_nil)))
    (pss_one (ps_if (pt_cmpR op_eq (pv 3) pe_str (nomark _)) (pss_one (ps_set (i := 2) sc_law_normal.nd rfl (Or.inl rfl) (pe_tup (pa_cons (pe_op op_add (pe_ix ix_tup (pv 2) pe_int (fun _ _ => rfl)) (pv 4)) (pa_cons (pe_ix ix_tup (pv 2) pe_int (fun _ _ => rfl)) pa_nil))))) (pss_one (ps_if (pt_cmpR op_eq (pv 3) pe_str (nomark _)) (pss_one (ps_set (i := 2) sc_law_normal.nd rfl (Or.inl rfl) (pe_tup (pa_cons (pe_ix ix_tup (pv 2) pe_int (fun _ _ => rfl)) (pa_cons (pe_op op_catA (pe_ix ix_tup (pv 2) pe_int (fun _ _ => rfl)) (pe_callTy call_tuple_of (by rfl) B.tuple_ (by decide +kernel) (pa_cons (pv 4) pa_nil))) pa_nil))))) (pss_cons (ps_expr (pe_call G_law_close (hr.mono (by decide)) rfl g_law_close k_law_close b_law_close .nil pass0 (by exact (pa_cons (pv 1) (pa_cons (pv 2) pa_nil)))))
    (pss_cons (ps_if (PW.pt (pw_and (pt_cmpR (op_eqD hr.units) (pv 2) (pe_tup (pa_cons pe_int (pa_cons (pe_tup pa_nil) pa_nil))) (nomark _)) (pw_and1 (pt_cmpR op_gt (pe_callB call_len_seq (by rfl) B.len_ (by decide +kernel) (pa_cons (pv 1) pa_nil)) pe_int (nomark _))))) (pss_one (ps_asg (pe_tup (pa_cons pe_str (pa_cons (pe_op op_add (pe_ix ix_tup (pe_ix ix_list (pv 1) (pe_un un_neg pe_int) (fun _ _ => rfl)) pe_int (fun _ _ => rfl)) (pv 4)) pa_nil))) (pg_sub (pv 1) (pe_un un_neg pe_int) set_list))) (pss_one (ps_expr (pe_bm PySem.F.plainAttrs_list PySem.F.slot_list_append PySem.F.type_list_append mt_append (pv 1) (pa_cons (pe_tup (pa_cons pe_str (pa_cons (pv 4) pa_nil))) pa_nil)))))
    (pss_one (ps_set (i := 2) sc_law_normal.nd rfl (Or.inl rfl) (pe_tup (pa_cons pe_int (pa_cons (pe_tup pa_nil) pa_nil))))))))))))
    (pss_cons (ps_expr (pe_call G_law_close (hr.mono (by decide)) rfl g_law_close k_law_close b_law_close .nil pass0 (by exact (pa_cons (pv 1) (pa_cons (pv 2) pa_nil)))))
    (pss_one (ps_ret (pv 1))))))), ?_⟩
    refine ⟨sz0, fun l hl => ⟨(by show 0 ≤ sizeLine; decide), fun t0 ht0 => ⟨(by show 2 ≤ sizeLine; decide), fun p0 hp0 => ⟨_, rfl, a, rfl, ⟨ws, SqL.of ?_⟩, ?_⟩⟩⟩⟩
    · exact Evl.Ex.new hp0 _ _ (Evl.Ex.new ht0 _ _ (Evl.Ex.new hl _ _ hA))
    have stp : ∀ {i : Nat} {s : Step}, st[i]? = some s → csum (st.take (i + 1)) = csum (st.take i) + K17.cnt s ∧ asum (st.take (i + 1)) = asum (st.take i) + alen s := fun h => by rw [take_next h, csum_snoc, asum_snoc]; exact ⟨rfl, rfl⟩
    refine for_list (K := K) (a := a) (xs := ws) (fun i σ H' => ∃ (p t : Addr) (d : Int) (items : List Int) (vs : List V) (acc : List Step) (v3 v4 : Option V), σ = [some (.ref a), some (.ref l), some (.ref p), v3, v4] ∧ Ex H H' ∧ H' l = some (.lst vs) ∧ Sts H' vs acc ∧
      H' p = some (.tup [.int d, .ref t]) ∧ H' t = some (.tup (iL items)) ∧ 0 ≤ d ∧ Oct items ∧ (∀ s ∈ acc, BOk s) ∧ csum acc + d = csum (st.take i) ∧ asum acc + items.length = asum (st.take i) ∧ acc.length ≤ 3 * i ∧ (acc = [] ∨ ∃ acc0 n, acc = acc0 ++ [.keep n]))
      ⟨p0, t0, 0, [], [], [], none, none, rfl, (Evl.Ex.new hl).trans ((Evl.Ex.new ht0).trans (Evl.Ex.new hp0)), ?_, .nil, upd_same, ?_, by omega, Oct.nil, (fun s hs => by cases hs), rfl, rfl, Nat.le_refl _, .inl rfl⟩ (fun i σ H' _ ⟨_, _, _, _, _, _, _, _, _, e, _⟩ => SqL.of (e _ _ hA)) ?_ ?_
    · exact Evl.Ex.new hp0 _ _ (Evl.Ex.new ht0 _ _ upd_same)
    · exact Evl.Ex.new hp0 _ _ upd_same
    · rintro i y σ H' hi ⟨p, t, d, items, vs, acc, v3, v4, rfl, e, hL, hS', hP, hT, hd, ho, hb, h1, h2, h3, h4⟩
      obtain ⟨s, hs, hy⟩ := paired_at hS hi
      obtain ⟨g1, g2⟩ := stp hs
      have hBs := hB s (List.mem_of_getElem? hs)
      have hi7 : i < 7 := by have := at_lt hs; omega
      have ha24 : asum (st.take i) ≤ 24 := by
        have := asum_app (st.take i) (st.drop i)
        rw [List.take_append_drop] at this
        omega
      have hy' : StAt H' y s := hy.mono (Ex.tups e)
      have hvl := paired_len hS'
      cases s with
      | drop n =>
        obtain ⟨pp, rfl, hp⟩ := hy'
        refine ⟨pp, _, rfl, SqT.of hp, rfl, _, _, rfl, _, _, rfl, rfl, ?_⟩
        refine ⟨_, rfl, rfl, _, rfl, ifD rfl ⟨_, rfl, _, _, _, _, rfl, rfl, SqT.of hP, at_of (j := 0) rfl rfl, _, rfl, _, _, rfl, rfl, _, rfl, _, _, _, _, rfl, rfl, SqT.of hP, at_of (j := 1) rfl rfl, (by show 2 ≤ sizeLine; decide), fun p2 hp2 => ?_⟩⟩
        exact ⟨p2, t, d + n, items, vs, acc, _, _, rfl, e.trans (Evl.Ex.new hp2), Evl.Ex.new hp2 _ _ hL, Sts.mono (Ex.tups (Evl.Ex.new hp2)) hS', upd_same, Evl.Ex.new hp2 _ _ hT, by have : 0 ≤ n := hBs; omega, ho, hb, by rw [g1, ← h1]; show csum acc + (d + n) = csum acc + d + n; omega, by rw [g2, ← h2]; rfl, by omega, h4⟩
      | add xs =>
        obtain ⟨pp, r, rfl, hp, hr2⟩ := hy'
        refine ⟨pp, _, rfl, SqT.of hp, rfl, _, _, rfl, _, _, rfl, rfl, ?_⟩
        refine ⟨_, rfl, rfl, _, rfl, ifN adD ⟨_, rfl, rfl, _, rfl, ifD rfl ⟨_, rfl, _, _, _, _, rfl, rfl, SqT.of hP, at_of (j := 0) rfl rfl, _, rfl, _, _, _, _, rfl, rfl, SqT.of hP, at_of (j := 1) rfl rfl, _, rfl, _, _, rfl, .inr ⟨SqT.of hr2, ?_⟩⟩⟩⟩
        have fin : ∀ (t2 : Addr) (H2 : Hp), Ex H' H2 → H2 t2 = some (.tup (iL (items ++ xs))) → ∀ p2, H2 p2 = none → ∃ (p t : Addr) (d' : Int) (items : List Int) (vs : List V) (acc : List Step) (v3 v4 : Option V), [some (V.ref a), some (V.ref l), some (V.ref p2), some (V.str "add"), some (V.ref r)] = [some (.ref a), some (.ref l), some (.ref p), v3, v4] ∧ Ex H (upd H2 p2 (.tup [.int d, .ref t2])) ∧ upd H2 p2 (.tup [.int d, .ref t2]) l = some (.lst vs) ∧ Sts (upd H2 p2 (.tup [.int d, .ref t2])) vs acc ∧
            upd H2 p2 (.tup [.int d, .ref t2]) p = some (.tup [.int d', .ref t]) ∧ upd H2 p2 (.tup [.int d, .ref t2]) t = some (.tup (iL items)) ∧ 0 ≤ d' ∧ Oct items ∧ (∀ s ∈ acc, BOk s) ∧ csum acc + d' = csum (st.take (i + 1)) ∧ asum acc + items.length = asum (st.take (i + 1)) ∧ acc.length ≤ 3 * (i + 1) ∧ (acc = [] ∨ ∃ acc0 n, acc = acc0 ++ [.keep n]) :=
          fun t2 H2 e2 ht2 p2 hp2 => ⟨p2, t2, d, items ++ xs, vs, acc, _, _, rfl, e.trans (e2.trans (Evl.Ex.new hp2)), Evl.Ex.new hp2 _ _ (e2 _ _ hL), Sts.mono (Ex.tups (e2.trans (Evl.Ex.new hp2))) hS', upd_same, Evl.Ex.new hp2 _ _ ht2, hd, ho.app hBs, hb, by rw [g1, ← h1]; show csum acc + d = csum acc + d + 0; omega, by rw [g2, ← h2, List.length_append]; show _ = asum acc + items.length + xs.length; omega, by omega, h4⟩
        refine ⟨t, r, _, _, rfl, rfl, SqT.of hT, SqT.of hr2, fitsM ?_, fun z => ?_, fun z1 z2 => ?_, fun z1 z2 t2 ht2 => ?_⟩
        · rw [iL_len, iL_len]
          have : asum (st.take (i + 1)) ≤ 24 := by
            have := asum_app (st.take (i + 1)) (st.drop (i + 1))
            rw [List.take_append_drop] at this
            omega
          have : alen (.add xs) = xs.length := rfl
          omega
        · have z0 : items = [] := List.map_eq_nil_iff.mp z
          exact ⟨(by show 2 ≤ sizeLine; decide), fun p2 hp2 => fin r H' (Evl.Ex.refl _) (by rw [z0]; exact hr2) p2 hp2⟩
        · have z0 : xs = [] := List.map_eq_nil_iff.mp z2
          exact ⟨(by show 2 ≤ sizeLine; decide), fun p2 hp2 => fin t H' (Evl.Ex.refl _) (by rw [z0, List.append_nil]; exact hT) p2 hp2⟩
        · exact ⟨(by show 2 ≤ sizeLine; decide), fun p2 hp2 => fin t2 _ (Evl.Ex.new ht2) (by rw [upd_same, iL_app]) p2 hp2⟩
      | keep n =>
        obtain ⟨pp, rfl, hp⟩ := hy'
        have hn0 : 0 ≤ n := hBs
        refine ⟨pp, _, rfl, SqT.of hp, rfl, _, _, rfl, _, _, rfl, rfl, ?_⟩
        refine ⟨_, rfl, rfl, _, rfl, ifN kwD ⟨_, rfl, rfl, _, rfl, ifN kwA ⟨_, rfl, _, rfl, l, p, t, vs, d, items, rfl, hL, hP, hT, by omega, fun ws' H1 e1 hL1 hS1 => ?_⟩⟩⟩
        have eH1 : Ex H H1 := Exb.fresh e hl e1
        have tp1 := exb_lst e1 hL
        have hP1 := tp1 _ _ hP
        have hT1 := tp1 _ _ hT
        have hSa := paired_app (Sts.mono tp1 hS') hS1
        have hcs := clo_csum (items := items) hd
        have has := clo_asum (d := d) (items := items)
        have hcl := clo_len d items
        have hbc := all_app hb (clo_ok hd ho)
        -- the gap anew
        have fin : ∀ (vs2 : List V) (acc2 : List Step) (H2 : Hp), Ex H H2 → H2 l = some (.lst vs2) → Sts H2 vs2 acc2 → (∀ s ∈ acc2, BOk s) → csum acc2 = csum acc + d + n → asum acc2 = asum acc + items.length → acc2.length ≤ 3 * (i + 1) → (∃ acc0 n, acc2 = acc0 ++ [Step.keep n]) → ∀ t2, H2 t2 = none → ∀ p2, upd H2 t2 (.tup []) p2 = none →
            ∃ (p t : Addr) (d' : Int) (items : List Int) (vs : List V) (acc : List Step) (v3 v4 : Option V), [some (V.ref a), some (V.ref l), some (V.ref p2), some (V.str "keep"), some (V.int n)] = [some (.ref a), some (.ref l), some (.ref p), v3, v4] ∧ Ex H (upd (upd H2 t2 (.tup [])) p2 (.tup [.int 0, .ref t2])) ∧ upd (upd H2 t2 (.tup [])) p2 (.tup [.int 0, .ref t2]) l = some (.lst vs) ∧ Sts (upd (upd H2 t2 (.tup [])) p2 (.tup [.int 0, .ref t2])) vs acc ∧
            upd (upd H2 t2 (.tup [])) p2 (.tup [.int 0, .ref t2]) p = some (.tup [.int d', .ref t]) ∧ upd (upd H2 t2 (.tup [])) p2 (.tup [.int 0, .ref t2]) t = some (.tup (iL items)) ∧ 0 ≤ d' ∧ Oct items ∧ (∀ s ∈ acc, BOk s) ∧ csum acc + d' = csum (st.take (i + 1)) ∧ asum acc + items.length = asum (st.take (i + 1)) ∧ acc.length ≤ 3 * (i + 1) ∧ (acc = [] ∨ ∃ acc0 n, acc = acc0 ++ [.keep n]) :=
          fun vs2 acc2 H2 e2 hL2 hS2 hb2 k1 k2 k3 k4 t2 ht2 p2 hp2 => ⟨p2, t2, 0, [], vs2, acc2, _, _, rfl, e2.trans ((Evl.Ex.new ht2).trans (Evl.Ex.new hp2)), Evl.Ex.new hp2 _ _ (Evl.Ex.new ht2 _ _ hL2), Sts.mono (Ex.tups ((Evl.Ex.new ht2).trans (Evl.Ex.new hp2))) hS2, upd_same, Evl.Ex.new hp2 _ _ upd_same, by omega, Oct.nil, hb2, by rw [g1, ← h1, k1]; show csum acc + d + n + 0 = csum acc + d + n; omega, by rw [g2, ← h2, k2]; rfl, k3, .inr k4⟩
        have hvl1 := paired_len hSa
        rw [List.length_append, List.length_append] at hvl1
        refine ⟨_, rfl, (by show 0 ≤ sizeLine; decide), fun t2 ht2 => ⟨(by show 2 ≤ sizeLine; decide), fun p2 hp2 => ?_⟩⟩
        have e12 : Ex H1 (upd (upd H1 t2 (.tup [])) p2 (.tup [.int 0, .ref t2])) := (Evl.Ex.new ht2).trans (Evl.Ex.new hp2)
        have hP2 := e12 _ _ hP1
        have hT2 := e12 _ _ hT1
        have hL2 := e12 _ _ hL1
        have hS2 := Sts.mono (Ex.tups e12) hSa
        generalize hgH : upd (upd H1 t2 (.tup [])) p2 (.tup [.int 0, .ref t2]) = H2 at *
        have hPn : H2 p2 = some (.tup [.int 0, .ref t2]) := by rw [← hgH]; exact upd_same
        have hTn : H2 t2 = some (.tup (iL [])) := by rw [← hgH]; exact Evl.Ex.new hp2 _ _ upd_same
        have eH2 : Ex H H2 := eH1.trans e12
        refine ⟨_, _, dp_gap hP2 hT2, dp_gap (l := []) hPn hTn, sh_gap _ _, sh_gap _ _, _, rfl, ?_⟩
        rw [show List.map PyData.int [] = [] from rfl, eqv_gap]
        have fit : ((vs ++ ws' : List V)).length < sizeLine := fitsL (by rw [List.length_append]; omega)
        have app : ∀ p3 : Addr, H2 p3 = none → ∀ t4, upd (upd H2 p3 (.tup [.str "keep", .int n])) l (.lst (vs ++ ws' ++ [.ref p3])) t4 = none → ∀ p4, upd (upd (upd H2 p3 (.tup [.str "keep", .int n])) l (.lst (vs ++ ws' ++ [.ref p3]))) t4 (.tup []) p4 = none → _ := fun p3 hp3 t4 ht4 p4 hp4 =>
          have hs : StAt (upd H2 p3 (.tup [.str "keep", .int n])) (.ref p3) (.keep n) := ⟨p3, rfl, upd_same⟩
          have hS3 := paired_snoc (Sts.mono (Ex.tups (Evl.Ex.new hp3)) hS2) hs
          fin (vs ++ ws' ++ [.ref p3]) (acc ++ clo d items ++ [.keep n]) _ (Evl.Ex.mut (eH2.trans (Evl.Ex.new hp3)) hl) upd_same (Sts.mono (exb_lst Exb.upd (Evl.Ex.new hp3 _ _ hL2)) hS3) (all_snoc hbc (show BOk (.keep n) from hn0))
            (by rw [csum_snoc, csum_app, hcs]; rfl) (by rw [asum_snoc, asum_app, has]; rfl) (by rw [List.length_append, List.length_append]; show acc.length + (clo d items).length + 1 ≤ _; omega) ⟨_, _, rfl⟩ t4 ht4 p4 hp4
        refine if2 (fun c => ⟨_, rfl, _, _, rfl, .inl (SqL.of hL2), _, _, rfl, rfl, _, rfl, if2 (fun c2 => ?_) (fun c2 => ?_)⟩) (fun c => iteF ?_)
        · -- one more to the last keep
          obtain ⟨c0, c1⟩ := c
          subst c0 c1
          have hw0 : ws' = [] := by cases hS1; rfl
          subst hw0
          rw [List.append_nil] at *
          rcases h4 with h4 | ⟨acc0, n0, h4⟩
          · subst h4
            rw [show vs = [] from List.length_eq_zero_iff.mp hvl] at c2
            exact absurd c2 (by decide)
          · subst h4
            obtain ⟨vs0, x0, rfl, hv0, hx0⟩ := paired_unsnoc (Sts.mono tp1 hS')
            obtain ⟨q0, rfl, hq0⟩ := hx0
            have hq2 := e12 _ _ hq0
            refine ⟨_, rfl, _, rfl, _, _, _, _, rfl, rfl, SqL.of hL2, atI_last _ _, _, _, _, _, rfl, rfl, SqT.of hq2, at_of (j := 1) rfl rfl, _, rfl, _, _, rfl, rfl, (by show 2 ≤ sizeLine; decide), fun p3 hp3 => ⟨_, rfl, _, rfl, l, _, _, _, rfl, rfl, Evl.Ex.new hp3 _ _ hL2, ixN_last _ _, ?_⟩⟩
            rw [show (vs0 ++ [V.ref q0]).set vs0.length (V.ref p3) = vs0 ++ [V.ref p3] by rw [List.set_append_right _ _ (Nat.le_refl _), Nat.sub_self]; rfl]
            have hs : StAt (upd H2 p3 (.tup [.str "keep", .int (n0 + n)])) (.ref p3) (.keep (n0 + n)) := ⟨p3, rfl, upd_same⟩
            have hS3 := paired_snoc (Sts.mono (Ex.tups (e12.trans (Evl.Ex.new hp3))) hv0) hs
            have hn1 : 0 ≤ n0 := hb (.keep n0) (List.mem_append.mpr (.inr (List.mem_singleton.mpr rfl)))
            refine ⟨(by show 0 ≤ sizeLine; decide), fun t4 ht4 => ⟨(by show 2 ≤ sizeLine; decide), fun p4 hp4 => ?_⟩⟩
            refine fin (vs0 ++ [.ref p3]) (acc0 ++ [.keep (n0 + n)]) _ (Evl.Ex.mut (eH2.trans (Evl.Ex.new hp3)) hl) upd_same (Sts.mono (exb_lst Exb.upd (Evl.Ex.new hp3 _ _ hL2)) hS3) (all_snoc (fun s hs => hb s (List.mem_append.mpr (.inl hs))) (show BOk (.keep (n0 + n)) by show 0 ≤ n0 + n; omega))
              (by rw [csum_snoc, csum_snoc]; show csum acc0 + (n0 + n) = csum acc0 + n0 + 0 + n; omega) (by rw [asum_snoc, asum_snoc]; rfl) (by rw [List.length_append] at h3 ⊢; have z1 : [Step.keep n0].length = 1 := rfl; have z2 : [Step.keep (n0 + n)].length = 1 := rfl; omega) ⟨_, _, rfl⟩ t4 ht4 p4 hp4
        · exact ⟨_, rfl, .inl ⟨rfl, _, SqL.of hL2⟩, _, rfl, (by show 2 ≤ sizeLine; decide), fun p3 hp3 => ⟨l, _, _, rfl, rfl, Evl.Ex.new hp3 _ _ hL2, fit, (by show 0 ≤ sizeLine; decide), fun t4 ht4 => ⟨(by show 2 ≤ sizeLine; decide), fun p4 hp4 => app p3 hp3 t4 ht4 p4 hp4⟩⟩⟩
        · exact ⟨_, rfl, .inl ⟨rfl, _, SqL.of hL2⟩, _, rfl, (by show 2 ≤ sizeLine; decide), fun p3 hp3 => ⟨l, _, _, rfl, rfl, Evl.Ex.new hp3 _ _ hL2, fit, (by show 0 ≤ sizeLine; decide), fun t4 ht4 => ⟨(by show 2 ≤ sizeLine; decide), fun p4 hp4 => app p3 hp3 t4 ht4 p4 hp4⟩⟩⟩
    · rintro σ H' ⟨p, t, d, items, vs, acc, v3, v4, rfl, e, hL, hS', hP, hT, hd, ho, hb, h1, h2, h3, h4⟩
      rw [hlen, List.take_length] at h1 h2
      have hvl := paired_len hS'
      refine ⟨_, rfl, _, rfl, l, p, t, vs, d, items, rfl, hL, hP, hT, by omega, fun ws' H1 e1 hL1 hS1 => ⟨_, rfl, ?_⟩⟩
      have hcs := clo_csum (items := items) hd
      have has := clo_asum (d := d) (items := items)
      have hcl := clo_len d items
      exact q l _ (acc ++ clo d items) H1 hl (Exb.fresh e hl e1) hL1 (paired_app (Sts.mono (exb_lst e1 hL) hS') hS1) (all_app hb (clo_ok hd ho)) (by rw [csum_app]; omega) (by rw [asum_app]; omega) (by rw [List.length_append]; omega)
end
end K17
set_option maxHeartbeats 4000000
namespace K17
open PySem PySem.Spec PyProof.Rows L2
/-- a script's list -/
def ScAt (H : Hp) (v : V) (st : List Step) : Prop := ∃ p ws, v = .ref p ∧ H p = some (.lst ws) ∧ Sts H ws st
theorem cut_some (os : List Int) (ho : Oct os) (lo hi : Option Int) : ∃ ns, cutV (iL os) lo hi = iL ns ∧ ns.length ≤ os.length ∧ Oct ns := by
  unfold cutV
  refine ⟨(os.drop _).take _, by rw [← List.map_drop, ← List.map_take], ?_, (ho.drop _).take _⟩
  rw [List.length_take, List.length_drop]
  omega
section
variable {w : World} {K : PySem.W.Frag} {mg : Str → Option Value} {base : Heap} {CE fI : Addr}
/-! ### _law_damaged -/
abbrev s_law_damaged : Stmt := top 41
theorem sc_law_damaged : FnScope ["_law_octets", "_law_cell_here", "_law_at", "_law_kind"] ["_law_octets", "_law_cell_here"] (defScope s_law_damaged) := ⟨rfl, rfl, rfl, by decide +kernel, rfl, by decide +kernel, by decide +kernel⟩
def spDam : Sp := fun vs H Q _ => ∃ (a : Addr) (os : List Int) (c : Int), vs = [.ref a, .int c] ∧ H a = some (.lst (iL os)) ∧ Oct os ∧ os.length ≤ 20000 ∧
  ∀ (p : Addr) (ns : List Int) (H' : Hp), Ex H H' → H' p = some (.lst (iL ns)) → Oct ns → ns.length ≤ 2 * os.length + 2 → Q (.ref p) H'
theorem can_dam (B : Bl mg) (D : Df K mg "_law_damaged" s_law_damaged) : Can w K mg base CX0 1 "_law_damaged" ["_law_octets", "_law_cell_here"] spDam := by
  obtain ⟨f, fd, g, F⟩ := D
  refine ⟨f, fd, g, F.kp, F.binds fun _ _ _ _ _ _ us hl => match us, hl with | [_, _], _ => rfl, F.ok sc_law_damaged (fun vs H Q E h => ?_) (fun cdv A outer s H vs Q E hr h => ?_)⟩
  · obtain ⟨a, os, c, rfl, _⟩ := h
    rfl
  · obtain ⟨a, os, c, rfl, hA, hO, hz, q⟩ := h
    refine ⟨_, (pss_cons (ps_set (i := 2) sc_law_damaged.nd rfl (Or.inl rfl) (pe_op op_mod (pv 1) (pe_op op_add (pe_callB call_len_seq (by rfl) B.len_ (by decide +kernel) (pa_cons (pv 0) pa_nil)) pe_int)))
    (pss_cons (ps_set (i := 3) sc_law_damaged.nd rfl (Or.inl rfl) (pe_op op_mod (pe_op op_fdiv (pv 1) pe_int) pe_int))
    (pss_cons (ps_if (pt_cmpR op_eq (pv 3) pe_int (nomark _)) (pss_one (ps_ret (pe_op op_cat (pe_slice sl_list (pv 0) po_none (po_some (pv 2))) (pe_slice sl_list (pv 0) (po_some (pe_op op_add (pv 2) pe_int)) po_none)))) pss_nil)
    (pss_cons (ps_if (pt_cmpR op_eq (pv 3) pe_int (nomark _)) (pss_one (ps_ret (pe_op op_cat (pe_op op_cat (pe_slice sl_list (pv 0) po_none (po_some (pv 2))) (pe_lst (pa_cons (pe_op op_mod (pe_op op_fdiv (pv 1) pe_int) pe_int) pa_nil))) (pe_slice sl_list (pv 0) (po_some (pv 2)) po_none)))) pss_nil)
    (pss_cons (ps_if (pt_cmpR op_eq (pv 3) pe_int (nomark _)) (pss_one (ps_ret (pe_slice sl_list (pv 0) po_none (po_some (pv 2))))) pss_nil)
    (pss_cons (ps_if (pt_cmpR op_eq (pv 3) pe_int (nomark _)) (pss_one (ps_ret (pe_op op_cat (pe_op op_cat (pe_slice sl_list (pv 0) po_none (po_some (pv 2))) (pe_lst (pa_cons (pe_op op_add pe_int (pe_op op_mod (pe_op op_fdiv (pv 1) pe_int) pe_int)) (pa_cons (pe_op op_mod (pe_op op_fdiv (pv 1) pe_int) pe_int) pa_nil)))) (pe_slice sl_list (pv 0) (po_some (pe_op op_add (pv 2) pe_int)) po_none)))) pss_nil)
    (pss_one (ps_ret (pe_op op_cat (pe_op op_cat (pe_slice sl_list (pv 0) po_none (po_some (pv 2))) (pe_lst (pa_cons (pe_op op_mod (pe_op op_fdiv (pv 1) pe_int) pe_int) pa_nil))) (pe_slice sl_list (pv 0) (po_some (pe_op op_add (pv 2) pe_int)) po_none)))))))))), ?_⟩
    have d0 : (2 ^ 63 : Int) = 9223372036854775808 := by decide
    refine ⟨_, rfl, _, rfl, _, _, rfl, .inl (SqL.of hA), _, _, rfl, rfl, _, _, rfl, rfl, (by omega : (0 : Int) < _), _, rfl, _, _, rfl, rfl, ⟨by decide, by decide⟩, _, _, rfl, rfl, (by decide : (0 : Int) < 5), ?_⟩
    obtain ⟨n1, x1, x2, x3⟩ := cut_some os hO none (some (c % (((iL os).length : Int) + 1)))
    obtain ⟨n2, y1, y2, y3⟩ := cut_some os hO (some (c % (((iL os).length : Int) + 1) + 1)) none
    obtain ⟨n3, z1, z2, z3⟩ := cut_some os hO (some (c % (((iL os).length : Int) + 1))) none
    -- x[:at] + [..] + x[..:]
    have three : ∀ (m nn : List Int) (hi : Option Int) (H1 : Hp), True := fun _ _ _ _ => trivial
    refine ⟨_, rfl, rfl, _, rfl, if2 (fun _ => ?_) (fun _ => ⟨_, rfl, rfl, _, rfl, if2 (fun _ => ?_) (fun _ => ⟨_, rfl, rfl, _, rfl, if2 (fun _ => ?_) (fun _ => ⟨_, rfl, rfl, _, rfl, if2 (fun _ => ?_) (fun _ => ?_)⟩)⟩)⟩)⟩
    · refine ⟨_, rfl, _, rfl, _, rfl, a, _, rfl, SqL.of hA, fun p1 hp1 => ?_⟩
      rw [x1]
      have e1 := Evl.Ex.new (o := .lst (iL n1)) hp1
      refine ⟨_, rfl, _, rfl, _, _, rfl, rfl, _, rfl, a, _, rfl, SqL.of (e1 _ _ hA), fun p2 hp2 => ?_⟩
      rw [y1]
      have e2 := Evl.Ex.new (o := .lst (iL n2)) hp2
      refine ⟨p1, p2, _, _, rfl, rfl, e2 _ _ upd_same, upd_same, fitsM (by rw [iL_len, iL_len]; omega), fun p3 hp3 => q p3 (n1 ++ n2) _ ((e1.trans e2).trans (Evl.Ex.new hp3)) (by rw [upd_same, iL_app]) (x3.app y3) (by rw [List.length_append]; omega)⟩
    · refine ⟨_, rfl, _, rfl, _, rfl, a, _, rfl, SqL.of hA, fun p1 hp1 => ?_⟩
      rw [x1]
      have e1 := Evl.Ex.new (o := .lst (iL n1)) hp1
      refine ⟨_, rfl, _, _, rfl, rfl, ⟨by decide, by decide⟩, _, _, rfl, rfl, (by decide : (0 : Int) < 4), (by show 1 ≤ sizeLine; decide), fun p2 hp2 => ?_⟩
      have e2 := Evl.Ex.new (o := .lst (iL [c / 32768 % 4])) hp2
      refine ⟨p1, p2, _, _, rfl, rfl, e2 _ _ upd_same, upd_same, fitsM (by rw [iL_len]; show n1.length + 1 ≤ _; omega), fun p3 hp3 => ?_⟩
      have e3 := Evl.Ex.new (o := .lst (iL n1 ++ iL [c / 32768 % 4])) hp3
      refine ⟨_, rfl, _, rfl, _, rfl, a, _, rfl, SqL.of (e3 _ _ (e2 _ _ (e1 _ _ hA))), fun p4 hp4 => ?_⟩
      rw [z1]
      have e4 := Evl.Ex.new (o := .lst (iL n3)) hp4
      exact ⟨p3, p4, _, _, rfl, rfl, e4 _ _ upd_same, upd_same, fitsM (by rw [List.length_append, iL_len, iL_len]; show n1.length + 1 + n3.length ≤ _; omega), fun p5 hp5 => q p5 (n1 ++ [c / 32768 % 4] ++ n3) _ (((e1.trans e2).trans (e3.trans e4)).trans (Evl.Ex.new hp5)) (by rw [upd_same, iL_app, iL_app]; rfl) ((x3.app (Oct.one ⟨by omega, by omega⟩)).app z3) (by rw [List.length_append, List.length_append]; show n1.length + 1 + n3.length ≤ _; omega)⟩
    · refine ⟨_, rfl, _, rfl, _, rfl, a, _, rfl, SqL.of hA, fun p1 hp1 => ?_⟩
      rw [x1]
      exact q p1 n1 _ (Evl.Ex.new hp1) upd_same x3 (by omega)
    · refine ⟨_, rfl, _, rfl, _, rfl, a, _, rfl, SqL.of hA, fun p1 hp1 => ?_⟩
      rw [x1]
      have e1 := Evl.Ex.new (o := .lst (iL n1)) hp1
      refine ⟨_, rfl, _, _, rfl, rfl, ⟨by decide, by decide⟩, _, _, rfl, rfl, (by decide : (0 : Int) < 128), _, _, rfl, rfl, _, rfl, _, _, rfl, rfl, ⟨by decide, by decide⟩, _, _, rfl, rfl, (by decide : (0 : Int) < 2), (by show 2 ≤ sizeLine; decide), fun p2 hp2 => ?_⟩
      have e2 := Evl.Ex.new (o := .lst (iL [128 + c / 32768 % 128, c / 32768 % 2])) hp2
      refine ⟨p1, p2, _, _, rfl, rfl, e2 _ _ upd_same, upd_same, fitsM (by rw [iL_len]; show n1.length + 2 ≤ _; omega), fun p3 hp3 => ?_⟩
      have e3 := Evl.Ex.new (o := .lst (iL n1 ++ iL [128 + c / 32768 % 128, c / 32768 % 2])) hp3
      refine ⟨_, rfl, _, rfl, _, _, rfl, rfl, _, rfl, a, _, rfl, SqL.of (e3 _ _ (e2 _ _ (e1 _ _ hA))), fun p4 hp4 => ?_⟩
      rw [y1]
      have e4 := Evl.Ex.new (o := .lst (iL n2)) hp4
      have o2 : Oct [128 + c / 32768 % 128, c / 32768 % 2] := (Oct.one (a := 128 + c / 32768 % 128) ⟨by omega, by omega⟩).app (Oct.one (a := c / 32768 % 2) ⟨by omega, by omega⟩)
      exact ⟨p3, p4, _, _, rfl, rfl, e4 _ _ upd_same, upd_same, fitsM (by rw [List.length_append, iL_len, iL_len]; show n1.length + 2 + n2.length ≤ _; omega), fun p5 hp5 => q p5 (n1 ++ [128 + c / 32768 % 128, c / 32768 % 2] ++ n2) _ (((e1.trans e2).trans (e3.trans e4)).trans (Evl.Ex.new hp5)) (by rw [upd_same, iL_app, iL_app]; rfl) ((x3.app o2).app y3) (by rw [List.length_append, List.length_append]; show n1.length + 2 + n2.length ≤ _; omega)⟩
    · refine ⟨_, rfl, _, rfl, _, rfl, a, _, rfl, SqL.of hA, fun p1 hp1 => ?_⟩
      rw [x1]
      have e1 := Evl.Ex.new (o := .lst (iL n1)) hp1
      refine ⟨_, rfl, _, _, rfl, rfl, ⟨by decide, by decide⟩, _, _, rfl, rfl, (by decide : (0 : Int) < 256), (by show 1 ≤ sizeLine; decide), fun p2 hp2 => ?_⟩
      have e2 := Evl.Ex.new (o := .lst (iL [c / 32768 % 256])) hp2
      refine ⟨p1, p2, _, _, rfl, rfl, e2 _ _ upd_same, upd_same, fitsM (by rw [iL_len]; show n1.length + 1 ≤ _; omega), fun p3 hp3 => ?_⟩
      have e3 := Evl.Ex.new (o := .lst (iL n1 ++ iL [c / 32768 % 256])) hp3
      refine ⟨_, rfl, _, rfl, _, _, rfl, rfl, _, rfl, a, _, rfl, SqL.of (e3 _ _ (e2 _ _ (e1 _ _ hA))), fun p4 hp4 => ?_⟩
      rw [y1]
      have e4 := Evl.Ex.new (o := .lst (iL n2)) hp4
      exact ⟨p3, p4, _, _, rfl, rfl, e4 _ _ upd_same, upd_same, fitsM (by rw [List.length_append, iL_len, iL_len]; show n1.length + 1 + n2.length ≤ _; omega), fun p5 hp5 => q p5 (n1 ++ [c / 32768 % 256] ++ n2) _ (((e1.trans e2).trans (e3.trans e4)).trans (Evl.Ex.new hp5)) (by rw [upd_same, iL_app, iL_app]; rfl) ((x3.app (Oct.one ⟨by omega, by omega⟩)).app y3) (by rw [List.length_append, List.length_append]; show n1.length + 1 + n2.length ≤ _; omega)⟩
/-! ### _law_history -/
abbrev s_law_history : Stmt := top 36
theorem sc_law_history : FnScope ["_law_versions", "_law_scripts", "_law_octets", "_law_script_here", "_law_kind", "_law_part"] ["_law_versions", "_law_scripts"] (defScope s_law_history) := ⟨rfl, rfl, rfl, by decide +kernel, rfl, by decide +kernel, by decide +kernel⟩
def spLHis : Sp := fun vs H Q _ => ∃ (a b r : Addr) (us ss : List V) (f : List Int) (scs : List (List Step)), vs = [.ref a, .ref b] ∧ H a = some (.lst us) ∧ us[0]? = some (.ref r) ∧ H r = some (.lst (iL f)) ∧ H b = some (.lst ss) ∧ Paired (ScAt H) ss scs ∧
  Oct f ∧ f.length ≤ 8 ∧ scs.length ≤ 4 ∧ (∀ st ∈ scs, st.length ≤ 23 ∧ asum st ≤ 24 ∧ ∀ s ∈ st, BOk s) ∧
  ∀ (p : Addr) (ns : List Int) (H' : Hp), Ex H H' → H' p = some (.lst (iL ns)) → Oct ns → ns.length ≤ 1000 → Q (.ref p) H'
theorem can_lhis (B : Bl mg) (D : Df K mg "_law_history" s_law_history) (hn : Can w K mg base CX0 1 "_law_number" ["_law_number_here"] spLNum) : Can w K mg base CX0 2 "_law_history" ["_law_versions", "_law_scripts"] spLHis := by
  obtain ⟨f, fd, g, F⟩ := D
  obtain ⟨f_law_number, d_law_number, g_law_number, k_law_number, b_law_number, G_law_number⟩ := hn
  refine ⟨f, fd, g, F.kp, F.binds fun _ _ _ _ _ _ us hl => match us, hl with | [_, _], _ => rfl, F.ok sc_law_history (fun vs H Q E h => ?_) (fun cdv A outer s H vs Q E hr h => ?_)⟩
  · obtain ⟨a, b, r, us, ss, f, scs, rfl, _⟩ := h
    rfl
  · obtain ⟨a, b, r, us, ss, f, scs, rfl, hA, hu, hR, hB, hP, hO, hf, hs4, hall, q⟩ := h
    have hlen := paired_len hP
    refine ⟨_, (pss_cons (ps_set (i := 2) sc_law_history.nd rfl (Or.inl rfl) (pe_op op_cat (pe_op op_cat (pe_call G_law_number (hr.mono (by decide)) rfl g_law_number k_law_number b_law_number .nil pass0 (by exact (pa_cons (pe_op op_add (pe_callB call_len_seq (by rfl) B.len_ (by decide +kernel) (pa_cons (pv 1) pa_nil)) pe_int) pa_nil))) (pe_call G_law_number (hr.mono (by decide)) rfl g_law_number k_law_number b_law_number .nil pass0 (by exact (pa_cons (pe_callB call_len_seq (by rfl) B.len_ (by decide +kernel) (pa_cons (pe_ix ix_list (pv 0) pe_int (fun _ _ => rfl)) pa_nil)) pa_nil)))) (pe_ix ix_list (pv 0) pe_int (fun _ _ => rfl))))
    (pss_cons (ps_for PassesOwn.never rfl (pi_list (pv 1)) (pg_name (i := 3) sc_law_history.nd rfl (Or.inl rfl))
    (pss_cons (ps_set (i := 2) sc_law_history.nd rfl (Or.inl rfl) (pe_op op_cat (pv 2) (pe_call G_law_number (hr.mono (by decide)) rfl g_law_number k_law_number b_law_number .nil pass0 (by exact (pa_cons (pe_callB call_len_seq (by rfl) B.len_ (by decide +kernel) (pa_cons (pv 3) pa_nil)) pa_nil)))))
    (pss_one (ps_for PassesOwn.never rfl (pi_list (pv 3)) (pg_tup rfl (pgs_cons (pg_name (i := 4) sc_law_history.nd rfl (Or.inl rfl)) (pgs_cons (pg_name (i := 5) sc_law_history.nd rfl (Or.inl rfl)) pgs_nil)))
    (pss_one (ps_if (pt_cmpR op_eq (pv 4) pe_str (nomark _)) (pss_one (ps_set (i := 2) sc_law_history.nd rfl (Or.inl rfl) (pe_op op_cat (pe_op op_cat (pe_op op_cat (pv 2) (pe_lst (pa_cons pe_int pa_nil))) (pe_call G_law_number (hr.mono (by decide)) rfl g_law_number k_law_number b_law_number .nil pass0 (by exact (pa_cons (pe_callB call_len_seq (by rfl) B.len_ (by decide +kernel) (pa_cons (pv 5) pa_nil)) pa_nil)))) (pe_callTy call_list_of (by rfl) B.list_ (by decide +kernel) (pa_cons (pv 5) pa_nil))))) (pss_one (ps_set (i := 2) sc_law_history.nd rfl (Or.inl rfl) (pe_op op_cat (pe_op op_cat (pv 2) (pe_lst (pa_cons (pe_callTy call_int1 (by rfl) B.int_ (by decide +kernel) (pa_cons (pe_cmpR op_eq (pv 4) pe_str (nomark _)) pa_nil)) pa_nil))) (pe_call G_law_number (hr.mono (by decide)) rfl g_law_number k_law_number b_law_number .nil pass0 (by exact (pa_cons (pv 5) pa_nil))))))))))))
    (pss_one (ps_ret (pv 2))))), ?_⟩
    refine ⟨_, rfl, _, _, rfl, .inl (SqL.of hB), _, _, rfl, rfl, _, rfl, by omega, fun p1 n1 H1 e1 hp1 l1 o1 => ?_⟩
    refine ⟨_, rfl, _, _, _, _, rfl, rfl, SqL.of (e1 _ _ hA), at_of (j := 0) rfl hu, _, _, rfl, .inl (SqL.of (e1 _ _ hR)), _, rfl, by omega, fun p2 n2 H2 e2 hp2 l2 o2 => ?_⟩
    refine ⟨p1, p2, _, _, rfl, rfl, e2 _ _ hp1, hp2, fitsM (by rw [iL_len, iL_len]; omega), fun p3 hp3 => ?_⟩
    have e3 := Evl.Ex.new (o := .lst (iL n1 ++ iL n2)) hp3
    have e13 := (e1.trans e2).trans e3
    refine ⟨_, rfl, _, _, _, _, rfl, rfl, SqL.of (e13 _ _ hA), at_of (j := 0) rfl hu, p3, r, _, _, rfl, rfl, upd_same, e13 _ _ hR, fitsM (by rw [List.length_append, iL_len, iL_len, iL_len]; omega), fun p4 hp4 => ?_⟩
    have e4 := e13.trans (Evl.Ex.new (o := .lst (iL n1 ++ iL n2 ++ iL f)) hp4)
    refine ⟨_, rfl, b, rfl, ⟨ss, SqL.of (e4 _ _ hB)⟩, ?_⟩
    refine for_list (K := K) (a := b) (xs := ss) (fun i σ H' => ∃ (p : Addr) (ns : List Int) (v3 v4 v5 : Option V), σ = [some (.ref a), some (.ref b), some (.ref p), v3, v4, v5] ∧ Ex H H' ∧ H' p = some (.lst (iL ns)) ∧ Oct ns ∧ ns.length ≤ 20 + 191 * i)
      ⟨p4, n1 ++ n2 ++ f, none, none, none, rfl, e4, by rw [upd_same, iL_app, iL_app], (o1.app o2).app hO, by rw [List.length_append, List.length_append]; omega⟩ (fun i σ H' _ ⟨_, _, _, _, _, _, e, _⟩ => SqL.of (e _ _ hB)) ?_ ?_
    · rintro i y σ H' hi ⟨p, ns, v3, v4, v5, rfl, e, hp, ho, hl⟩
      obtain ⟨st, hst, pv, ws, rfl, hpv, hS⟩ := paired_at hP hi
      obtain ⟨c1, c2, c3⟩ := hall st (List.mem_of_getElem? hst)
      have hi4 : i < 4 := by have := at_lt hst; omega
      have hwl := paired_len hS
      refine ⟨_, rfl, _, rfl, _, _, rfl, .inl (SqL.of (e _ _ hpv)), _, rfl, by omega, fun p5 n5 H5 e5 hp5 l5 o5 => ⟨p, p5, _, _, rfl, rfl, e5 _ _ hp, hp5, fitsM (by rw [iL_len, iL_len]; omega), fun p6 hp6 => ?_⟩⟩
      have e6 := (e.trans e5).trans (Evl.Ex.new (o := .lst (iL ns ++ iL n5)) hp6)
      refine ⟨_, rfl, pv, rfl, ⟨ws, SqL.of (e6 _ _ hpv)⟩, ?_⟩
      refine for_list (K := K) (a := pv) (xs := ws) (fun j σ H' => ∃ (p : Addr) (ns : List Int) (v4 v5 : Option V), σ = [some (.ref a), some (.ref b), some (.ref p), some (.ref pv), v4, v5] ∧ Ex H H' ∧ H' p = some (.lst (iL ns)) ∧ Oct ns ∧ ns.length ≤ 26 + 191 * i + 7 * j + asum (st.take j))
        ⟨p6, ns ++ n5, v4, v5, rfl, e6, by rw [upd_same, iL_app], ho.app o5, by rw [List.length_append]; show _ ≤ 26 + 191 * i + 7 * 0 + 0; omega⟩ (fun i σ H' _ ⟨_, _, _, _, _, e, _⟩ => SqL.of (e _ _ hpv)) ?_ ?_
      · rintro j y σ H7 hj ⟨p, ns, v4, v5, rfl, e, hp, ho, hl⟩
        obtain ⟨s, hs, hy⟩ := paired_at hS hj
        have hb := c3 s (List.mem_of_getElem? hs)
        have hj23 : j < 23 := by have := at_lt hs; omega
        have nx : asum (st.take (j + 1)) = asum (st.take j) + alen s := by rw [take_next hs, asum_snoc]
        have ha24 : asum (st.take (j + 1)) ≤ 24 := by
          have := asum_app (st.take (j + 1)) (st.drop (j + 1))
          rw [List.take_append_drop] at this
          omega
        cases s with
        | add xs =>
          obtain ⟨q1, q2, rfl, hq1, hq2⟩ := hy
          refine ⟨q1, _, rfl, SqT.of (e _ _ hq1), rfl, _, _, rfl, _, _, rfl, rfl, ?_⟩
          have al : alen (.add xs) = xs.length := rfl
          refine ⟨_, rfl, rfl, _, rfl, ifD rfl ⟨_, rfl, (by show 1 ≤ sizeLine; decide), fun t1 ht1 => ⟨p, t1, _, _, rfl, rfl, Evl.Ex.new ht1 _ _ hp, upd_same, fitsM (by rw [iL_len]; show ns.length + 1 ≤ _; omega), fun t2 ht2 => ?_⟩⟩⟩
          have e8 := e.trans ((Evl.Ex.new (o := .lst [.int 2]) ht1).trans (Evl.Ex.new (o := .lst (iL ns ++ [.int 2])) ht2))
          refine ⟨_, rfl, _, _, rfl, .inr (SqT.of (e8 _ _ hq2)), _, rfl, by omega, fun t3 n3 H3 e3 ht3 l3 o3 => ⟨t2, t3, _, _, rfl, rfl, e3 _ _ upd_same, ht3, fitsM (by rw [List.length_append, iL_len, iL_len]; show ns.length + 1 + n3.length ≤ _; omega), fun t4 ht4 => ?_⟩⟩
          have e9 := (e8.trans e3).trans (Evl.Ex.new (o := .lst (iL ns ++ [.int 2] ++ iL n3)) ht4)
          refine ⟨_, rfl, _, _, rfl, .inr (SqT.of (e9 _ _ hq2)), fun t5 ht5 => ?_⟩
          have e10 := e9.trans (Evl.Ex.new (o := .lst (iL xs)) ht5)
          refine ⟨t4, t5, _, _, rfl, rfl, Evl.Ex.new ht5 _ _ upd_same, upd_same, fitsM (by rw [List.length_append, List.length_append, iL_len, iL_len, iL_len]; show ns.length + 1 + n3.length + xs.length ≤ _; omega), fun t6 ht6 => ?_⟩
          refine ⟨t6, ns ++ [2] ++ n3 ++ xs, _, _, rfl, e10.trans (Evl.Ex.new ht6), by rw [upd_same, iL_app, iL_app, iL_app]; rfl, ((ho.app (Oct.one ⟨by decide, by decide⟩)).app o3).app hb, ?_⟩
          rw [List.length_append, List.length_append, List.length_append]
          show ns.length + 1 + n3.length + xs.length ≤ _
          omega
        | keep n =>
          obtain ⟨q1, rfl, hq1⟩ := hy
          have hb0 : 0 ≤ n := hb
          refine ⟨q1, _, rfl, SqT.of (e _ _ hq1), rfl, _, _, rfl, _, _, rfl, rfl, ?_⟩
          refine ⟨_, rfl, rfl, _, rfl, ifN kwA ⟨_, rfl, _, rfl, rfl, .inr ⟨_, rfl, (by show 1 ≤ sizeLine; decide), fun t1 ht1 => ⟨p, t1, _, _, rfl, rfl, Evl.Ex.new ht1 _ _ hp, upd_same, fitsM (by rw [iL_len]; show ns.length + 1 ≤ _; omega), fun t2 ht2 => ?_⟩⟩⟩⟩
          have hz : (if decide (V.str "keep" = V.str "drop") = true then (1 : Int) else 0) = 0 := if_neg (fun h => kwD (of_decide_eq_true h))
          rw [hz] at ht2 ⊢
          have e8 := e.trans ((Evl.Ex.new (o := .lst [.int 0]) ht1).trans (Evl.Ex.new (o := .lst (iL ns ++ [.int 0])) ht2))
          refine ⟨_, rfl, _, rfl, hb0, fun t3 n3 H3 e3 ht3 l3 o3 => ⟨t2, t3, _, _, rfl, rfl, e3 _ _ upd_same, ht3, fitsM (by rw [List.length_append, iL_len, iL_len]; show ns.length + 1 + n3.length ≤ _; omega), fun t4 ht4 => ?_⟩⟩
          refine ⟨t4, ns ++ [0] ++ n3, _, _, rfl, (e8.trans e3).trans (Evl.Ex.new ht4), by rw [upd_same, iL_app, iL_app]; rfl, (ho.app (Oct.one ⟨by decide, by decide⟩)).app o3, ?_⟩
          rw [List.length_append, List.length_append]
          show ns.length + 1 + n3.length ≤ _
          omega
        | drop n =>
          obtain ⟨q1, rfl, hq1⟩ := hy
          have hb0 : 0 ≤ n := hb
          refine ⟨q1, _, rfl, SqT.of (e _ _ hq1), rfl, _, _, rfl, _, _, rfl, rfl, ?_⟩
          refine ⟨_, rfl, rfl, _, rfl, ifN drA ⟨_, rfl, _, rfl, rfl, .inr ⟨_, rfl, (by show 1 ≤ sizeLine; decide), fun t1 ht1 => ⟨p, t1, _, _, rfl, rfl, Evl.Ex.new ht1 _ _ hp, upd_same, fitsM (by rw [iL_len]; show ns.length + 1 ≤ _; omega), fun t2 ht2 => ?_⟩⟩⟩⟩
          have hz : (if decide (V.str "drop" = V.str "drop") = true then (1 : Int) else 0) = 1 := if_pos (decide_eq_true rfl)
          rw [hz] at ht2 ⊢
          have e8 := e.trans ((Evl.Ex.new (o := .lst [.int 1]) ht1).trans (Evl.Ex.new (o := .lst (iL ns ++ [.int 1])) ht2))
          refine ⟨_, rfl, _, rfl, hb0, fun t3 n3 H3 e3 ht3 l3 o3 => ⟨t2, t3, _, _, rfl, rfl, e3 _ _ upd_same, ht3, fitsM (by rw [List.length_append, iL_len, iL_len]; show ns.length + 1 + n3.length ≤ _; omega), fun t4 ht4 => ?_⟩⟩
          refine ⟨t4, ns ++ [1] ++ n3, _, _, rfl, (e8.trans e3).trans (Evl.Ex.new ht4), by rw [upd_same, iL_app, iL_app]; rfl, (ho.app (Oct.one ⟨by decide, by decide⟩)).app o3, ?_⟩
          rw [List.length_append, List.length_append]
          show ns.length + 1 + n3.length ≤ _
          omega
      · rintro σ H7 ⟨p, ns, v4, v5, rfl, e, hp, ho, hl⟩
        rw [hwl, List.take_length] at hl
        exact ⟨p, ns, _, v4, v5, rfl, e, hp, ho, by omega⟩
    · rintro σ H' ⟨p, ns, v3, v4, v5, rfl, e, hp, ho, hl⟩
      rw [hlen] at hl
      exact ⟨_, rfl, q p ns H' e hp ho (by omega)⟩
end
end K17
set_option maxHeartbeats 4000000
namespace K17
open PySem PySem.Spec PyProof.Rows L2
/-! ### instances: their fields -/
structure HisC (K : PySem.W.Frag) (CH : Addr) : Prop where
  cls : Cls K CH
  first : NoAttr K CH "first"
  scripts : NoAttr K CH "scripts"
structure RdrC (K : PySem.W.Frag) (CR : Addr) : Prop where
  cls : Cls K CR
  octets : NoAttr K CR "_octets"
  at_ : NoAttr K CR "at"
abbrev hFs (pf ps : Addr) : List (Str × V) := [("first", .ref pf), ("scripts", .ref ps)]
abbrev rFs (a : Addr) (n : Int) : List (Str × V) := [("_octets", .ref a), ("at", .int n)]
theorem neFS : ("first" : Str) ≠ "scripts" := by decide +kernel
theorem neSF : ("scripts" : Str) ≠ "first" := by decide +kernel
theorem neOA : ("_octets" : Str) ≠ "at" := by decide +kernel
theorem neAO : ("at" : Str) ≠ "_octets" := by decide +kernel
theorem look1 {f : Str} {v : V} {r : List (Str × V)} : ((f, v) :: r).lookup f = some v := by rw [List.lookup_cons]; simp
theorem look2 {f g : Str} {u v : V} {r : List (Str × V)} (h : g ≠ f) : ((f, u) :: (g, v) :: r).lookup g = some v := by
  rw [List.lookup_cons, show (g == f) = false by simpa using h]
  exact look1
theorem put1 {f : Str} {u v : V} {r : List (Str × V)} : putF f v ((f, u) :: r) = (f, v) :: r := if_pos rfl
theorem put2 {f g : Str} {u v : V} {r : List (Str × V)} (h : f ≠ g) : putF g v ((f, u) :: r) = (f, u) :: putF g v r := if_neg h
/-- a script's tuple -/
def ScT (H : Hp) (v : V) (st : List Step) : Prop := ∃ p ws, v = .ref p ∧ H p = some (.tup ws) ∧ Sts H ws st
theorem ScT.mono {H H' : Hp} {v : V} {st : List Step} (e : ∀ a xs, H a = some (.tup xs) → H' a = some (.tup xs)) (h : ScT H v st) : ScT H' v st := by
  obtain ⟨p, ws, h1, h2, h3⟩ := h
  exact ⟨p, ws, h1, e _ _ h2, h3.mono e⟩
def HisAt (CH : Addr) (H : Hp) (h : Addr) (f : List Int) (scs : List (List Step)) : Prop := ∃ dx pf psa ss, H h = some (.ins CH dx (hFs pf psa)) ∧ H pf = some (.tup (iL f)) ∧ H psa = some (.tup ss) ∧ Paired (ScT H) ss scs
theorem paired_mono {α β : Type} {F G : α → β → Prop} {l : List α} {m : List β} (h : Paired F l m) (e : ∀ x y, F x y → G x y) : Paired G l m := Paired.mapP h fun x y z => e x y z
theorem HisAt.mono {CH : Addr} {H H' : Hp} {h : Addr} {f : List Int} {scs : List (List Step)} (e : Ex H H') (a : HisAt CH H h f scs) : HisAt CH H' h f scs := by
  obtain ⟨dx, pf, psa, ss, h1, h2, h3, h4⟩ := a
  exact ⟨dx, pf, psa, ss, e _ _ h1, e _ _ h2, e _ _ h3, paired_mono h4 fun _ _ z => z.mono (Ex.tups e)⟩
def DfI (K : PySem.W.Frag) (C : Addr) (qual : Str) (st : Stmt) : Prop := ∃ f fd, Mk K C f ∧ L2.Fun K "__init__" qual st f fd
def CanI (w : World) (K : PySem.W.Frag) (mg : Str → Option Value) (base : Heap) (CX : CXT) (k : Nat) (C : Addr) (ps : List Str) (sp : Sp) : Prop := ∃ f fd, Mk K C f ∧ Binds K fd ps [] ∧ FnOk prog17 w K mg base CX k f fd ps sp
section
variable {w : World} {K : PySem.W.Frag} {mg : Str → Option Value} {base : Heap} {CE fI CH CR : Addr}
/-! ### History -/
abbrev s_History_init : Stmt := inClass (top 18) 0
theorem sc_History_init : FnScope ["self", "octets"] ["self", "octets"] (defScope s_History_init) := ⟨rfl, rfl, rfl, by decide +kernel, rfl, by decide +kernel, by decide +kernel⟩
def spHInit (CH : Addr) : Sp := fun vs H Q _ => ∃ (x t dx : Addr) (f : List Int), vs = [.ref x, .ref t] ∧ H x = some (.ins CH dx []) ∧ H t = some (.tup (iL f)) ∧ ∀ H', Exb x H H' → HisAt CH H' x f [] → Q .non H'
theorem can_hinit (B : Bl mg) (hC : HisC K CH) (D : DfI K CH "History.__init__" s_History_init) : CanI w K mg base CX0 1 CH ["self", "octets"] (spHInit CH) := by
  obtain ⟨f, fd, M, F⟩ := D
  refine ⟨f, fd, M, F.binds fun _ _ _ _ _ _ us hl => match us, hl with | [_, _], _ => rfl, F.ok sc_History_init (fun vs H Q E h => ?_) (fun cdv A outer s H vs Q E hr h => ?_)⟩
  · obtain ⟨x, t, dx, f, rfl, _⟩ := h
    rfl
  · obtain ⟨x, t, dx, f, rfl, hX, hT, q⟩ := h
    refine ⟨_, (pss_cons (ps_fld (pv 0) (pe_callTy call_tuple_of (by rfl) B.tuple_ (by decide +kernel) (pa_cons (pv 1) pa_nil)) rfl)
    (pss_one (ps_fld (pv 0) (pe_tup pa_nil) rfl))), ?_⟩
    refine ⟨_, rfl, _, _, rfl, .inr ⟨SqT.of hT, _, rfl, x, CH, dx, _, rfl, hX, hC.cls, hC.first, (by decide : 0 < 1000), (by show 0 ≤ sizeLine; decide), fun p hp => ⟨_, rfl, x, CH, dx, [("first", .ref t)], rfl, ?_, hC.cls, hC.scripts, (by show 1 < 1000; decide), ?_⟩⟩⟩
    · exact Evl.Ex.new hp _ _ upd_same
    · have hpx : p ≠ x := fun z => by rw [z, upd_same] at hp; cases hp
      have htx : t ≠ x := fun z => by rw [z, hX] at hT; cases hT
      refine q _ ((Exb.upd.trans (Exb.of (Evl.Ex.new hp))).trans Exb.upd) ⟨dx, t, p, [], ?_, ?_, ?_, .nil⟩
      · rw [upd_same]
        show some (HO.ins CH dx (putF "scripts" (.ref p) [("first", .ref t)])) = _
        rw [put2 neFS]; rfl
      · rw [upd_ne htx]
        exact Evl.Ex.new hp _ _ (by rw [upd_ne htx]; exact hT)
      · rw [upd_ne hpx, upd_same]
abbrev s_History_len : Stmt := inClass (top 18) 1
theorem sc_History_len : FnScope ["self"] ["self"] (defScope s_History_len) := ⟨rfl, rfl, rfl, by decide +kernel, rfl, by decide +kernel, by decide +kernel⟩
def spHLen (CH : Addr) : Sp := fun vs H Q _ => ∃ (h : Addr) (f : List Int) (scs : List (List Step)), vs = [.ref h] ∧ HisAt CH H h f scs ∧ scs.length ≤ 100000 ∧ ∀ H', Ex H H' → Q (.int ((scs.length : Int) + 1)) H'
theorem can_hlen (B : Bl mg) (hC : HisC K CH) (D : DfM K CH "__len__" "History.__len__" s_History_len) : CanM w K mg base CX0 1 CH "__len__" ["self"] (spHLen CH) := by
  obtain ⟨f, fd, M, F⟩ := D
  refine ⟨f, fd, M, F.binds fun _ _ _ _ _ _ us hl => match us, hl with | [_], _ => rfl, F.ok sc_History_len (fun vs H Q E h => ?_) (fun cdv A outer s H vs Q E hr h => ?_)⟩
  · obtain ⟨x, f, scs, rfl, _⟩ := h
    rfl
  · obtain ⟨x, f, scs, rfl, ⟨dx, pf, psa, ss, h1, h2, h3, h4⟩, hz, q⟩ := h
    have hl := paired_len h4
    refine ⟨_, (pss_one (ps_ret (pe_callB call_len_seq (by rfl) B.len_ (by decide +kernel) (pa_cons (pe_op op_catA (pe_tup (pa_cons (pe_fld (pv 0) rfl) pa_nil)) (pe_fld (pv 0) rfl)) pa_nil)))), ?_⟩
    refine ⟨_, rfl, x, CH, dx, _, _, rfl, h1, hC.cls, hC.first, look1, (by show 1 ≤ sizeLine; decide), fun p hp => ⟨_, rfl, x, CH, dx, _, _, rfl, Evl.Ex.new hp _ _ h1, hC.cls, hC.scripts, look2 neSF, ?_⟩⟩
    have e1 := Evl.Ex.new (o := .tup [.ref pf]) hp
    refine ⟨p, psa, _, _, rfl, rfl, SqT.of upd_same, SqT.of (e1 _ _ h3), fits200 (by show 1 + ss.length ≤ _; omega), (fun z => by cases z), fun _ z => ?_, fun _ _ p2 hp2 => ?_⟩
    · refine ⟨_, _, rfl, .inr (SqT.of upd_same), ?_⟩
      have : scs.length = 0 := by rw [← hl, z]; rfl
      rw [this] at q
      exact q _ e1
    · refine ⟨_, _, rfl, .inr (SqT.of upd_same), ?_⟩
      have e3 : (([V.ref pf] ++ ss).length : Int) = (scs.length : Int) + 1 := by
        rw [List.length_append]
        show ((1 + ss.length : Nat) : Int) = _
        omega
      rw [e3]
      exact q _ (e1.trans (Evl.Ex.new hp2))
abbrev s_History_extend_by : Stmt := inClass (top 18) 4
theorem sc_History_extend_by : FnScope ["self", "script"] ["self", "script"] (defScope s_History_extend_by) := ⟨rfl, rfl, rfl, by decide +kernel, rfl, by decide +kernel, by decide +kernel⟩
def spExt (CH : Addr) : Sp := fun vs H Q _ => ∃ (h l : Addr) (f : List Int) (scs : List (List Step)) (ws : List V) (st : List Step), vs = [.ref h, .ref l] ∧ HisAt CH H h f scs ∧ H l = some (.lst ws) ∧ Sts H ws st ∧ scs.length ≤ 100000 ∧
  ∀ H', Exb h H H' → HisAt CH H' h f (scs ++ [st]) → Q .non H'
theorem can_ext (B : Bl mg) (hC : HisC K CH) (D : DfM K CH "extend_by" "History.extend_by" s_History_extend_by) : CanM w K mg base CX0 1 CH "extend_by" ["self", "script"] (spExt CH) := by
  obtain ⟨f, fd, M, F⟩ := D
  refine ⟨f, fd, M, F.binds fun _ _ _ _ _ _ us hl => match us, hl with | [_, _], _ => rfl, F.ok sc_History_extend_by (fun vs H Q E h => ?_) (fun cdv A outer s H vs Q E hr h => ?_)⟩
  · obtain ⟨x, l, f, scs, ws, st, rfl, _⟩ := h
    rfl
  · obtain ⟨x, l, f, scs, ws, st, rfl, ⟨dx, pf, psa, ss, h1, h2, h3, h4⟩, hL, hS, hz, q⟩ := h
    have hl := paired_len h4
    refine ⟨_, (pss_one (ps_fld (pv 0) (pe_op op_catA (pe_fld (pv 0) rfl) (pe_tup (pa_cons (pe_callTy call_tuple_of (by rfl) B.tuple_ (by decide +kernel) (pa_cons (pv 1) pa_nil)) pa_nil))) rfl)), ?_⟩
    refine ⟨_, rfl, x, CH, dx, _, _, rfl, h1, hC.cls, hC.scripts, look2 neSF, _, rfl, _, _, rfl, .inl ⟨SqL.of hL, fun t ht => ⟨(by show 1 ≤ sizeLine; decide), fun p hp => ?_⟩⟩⟩
    have e1 := (Evl.Ex.new (o := .tup ws) ht).trans (Evl.Ex.new (o := .tup [.ref t]) hp)
    have hT : upd (upd H t (.tup ws)) p (.tup [.ref t]) t = some (.tup ws) := Evl.Ex.new hp _ _ upd_same
    -- what the field holds then
    have fin : ∀ (H2 : Hp) (p2 : Addr), Ex (upd (upd H t (.tup ws)) p (.tup [.ref t])) H2 → H2 p2 = some (.tup (ss ++ [.ref t])) → ∃ (a C dx : Addr) (fs : List (Str × V)), V.ref x = .ref a ∧ H2 a = some (.ins C dx fs) ∧ Cls K C ∧ NoAttr K C "scripts" ∧ fs.length < 1000 ∧ Q .non (upd H2 a (.ins C dx (putF "scripts" (.ref p2) fs))) := fun H2 p2 e2 hp2 => by
      have e3 := e1.trans e2
      have hX := e3 _ _ h1
      refine ⟨x, CH, dx, _, rfl, hX, hC.cls, hC.scripts, (by show 2 < 1000; decide), ?_⟩
      have nx : ∀ {a : Addr} {xs : List V}, H2 a = some (.tup xs) → a ≠ x := fun h z => by rw [z, hX] at h; cases h
      have tp : ∀ a xs, H2 a = some (.tup xs) → ∀ o, upd H2 x o a = some (.tup xs) := fun a xs h o => by rw [upd_ne (nx h)]; exact h
      refine q _ ((Exb.of e3).trans Exb.upd) ⟨dx, pf, p2, ss ++ [.ref t], ?_, tp _ _ (e3 _ _ h2) _, tp _ _ hp2 _, ?_⟩
      · rw [upd_same, put2 neFS, put1]
      · refine paired_snoc (paired_mono h4 fun _ _ z => (z.mono (Ex.tups e3)).mono fun a xs h => tp a xs h _) ⟨t, ws, rfl, tp _ _ (e2 _ _ hT) _, (hS.mono (Ex.tups e3)).mono fun a xs h => tp a xs h _⟩
    refine ⟨psa, p, _, _, rfl, rfl, SqT.of (e1 _ _ h3), SqT.of upd_same, fits200 (by show ss.length + 1 ≤ _; omega), fun z => ⟨_, rfl, fin _ p (Evl.Ex.refl _) ?_⟩, (fun _ z => by cases z), fun _ _ p2 hp2 => ⟨_, rfl, fin _ p2 (Evl.Ex.new hp2) upd_same⟩⟩
    rw [z, upd_same]; rfl
abbrev s_History_version : Stmt := inClass (top 18) 2
theorem sc_History_version : FnScope ["self", "number", "octets", "script"] ["self", "number"] (defScope s_History_version) := ⟨rfl, rfl, rfl, by decide +kernel, rfl, by decide +kernel, by decide +kernel⟩
def spVer (CH : Addr) : Sp := fun vs H Q _ => ∃ (h : Addr) (f : List Int) (scs : List (List Step)) (k : Nat), vs = [.ref h, .int k] ∧ HisAt CH H h f scs ∧ k ≤ scs.length ∧ (∀ i st, scs[i]? = some st → Fit (ver f (scs.take i)) st) ∧
  ∀ (p : Addr) (H' : Hp), Ex H H' → H' p = some (.lst (iL (ver f (scs.take k)))) → Q (.ref p) H'
theorem can_ver (B : Bl mg) (hC : HisC K CH) (D : DfM K CH "version" "History.version" s_History_version) (hp : Can w K mg base CX0 1 "patch" ["old", "script"] spPatch) : CanM w K mg base CX0 2 CH "version" ["self", "number"] (spVer CH) := by
  obtain ⟨f, fd, M, F⟩ := D
  obtain ⟨f_patch, d_patch, g_patch, k_patch, b_patch, G_patch⟩ := hp
  refine ⟨f, fd, M, F.binds fun _ _ _ _ _ _ us hl => match us, hl with | [_, _], _ => rfl, F.ok sc_History_version (fun vs H Q E h => ?_) (fun cdv A outer s H vs Q E hr h => ?_)⟩
  · obtain ⟨x, f, scs, k, rfl, _⟩ := h
    rfl
  · obtain ⟨x, f, scs, k, rfl, hH, hk, hfit, q⟩ := h
    obtain ⟨dx, pf, psa, ss, h1, h2, h3, h4⟩ := hH
    have hl := paired_len h4
    refine ⟨_, (pss_cons (ps_if (PW.pt (pw_or (pt_cmpR op_lt (pv 1) pe_int (nomark _)) (pw_or1 (pt_cmpR op_gt (pv 1) (pe_callB call_len_seq (by rfl) B.len_ (by decide +kernel) (pa_cons (pe_fld (pv 0) rfl) pa_nil)) (nomark _))))) (pss_one ps_never) pss_nil)
    (pss_cons (ps_set (i := 2) sc_History_version.nd rfl (Or.inl rfl) (pe_callTy call_list_of (by rfl) B.list_ (by decide +kernel) (pa_cons (pe_fld (pv 0) rfl) pa_nil)))
    (pss_cons (ps_for PassesOwn.never rfl (pi_tup (pe_slice sl_tupA (pe_fld (pv 0) rfl) po_none (po_some (pv 1)))) (pg_name (i := 3) sc_History_version.nd rfl (Or.inl rfl))
    (pss_one (ps_set (i := 2) sc_History_version.nd rfl (Or.inl rfl) (pe_call G_patch (hr.mono (by decide)) rfl g_patch k_patch b_patch .nil pass0 (by exact (pa_cons (pv 2) (pa_cons (pv 3) pa_nil)))))))
    (pss_one (ps_ret (pv 2)))))), ?_⟩
    refine' cutP (fun hR => ?main) ?rest
    case main =>
      refine ⟨_, rfl, _, _, rfl, rfl, _, rfl, ifN (by omega) ⟨_, rfl, _, rfl, x, CH, dx, _, _, rfl, h1, hC.cls, hC.scripts, look2 neSF, _, _, rfl, .inr (SqT.of h3), _, _, rfl, rfl, _, rfl, ifN (by omega) hR⟩⟩
    case rest =>
      refine ⟨_, rfl, x, CH, dx, _, _, rfl, h1, hC.cls, hC.first, look1, _, _, rfl, .inr (SqT.of h2), fun l0 hl0 => ?_⟩
      have e0 := Evl.Ex.new (o := .lst (iL f)) hl0
      refine ⟨_, rfl, x, CH, dx, _, _, rfl, e0 _ _ h1, hC.cls, hC.scripts, look2 neSF, _, rfl, _, rfl, ?_⟩
      have elo : HT.sIx ss.length 0 (none : Option Int) = 0 := rfl
      have ehi : HT.sIx ss.length ss.length (some (k : Int)) = k := by rw [HT.sIx_nat]; omega
      have ecut : cutV ss none (some (k : Int)) = ss.take k := by unfold cutV; rw [elo, ehi]; rfl
      have h30 := e0 _ _ h3
      refine ⟨psa, ss, rfl, SqT.of h30, fun z => ?_, fun z p hp => ?_⟩
      · have hT : SqT K (upd H l0 (.lst (iL f))) psa (ss.take k) := by rw [List.take_of_length_le (by rw [ehi] at z; omega)]; exact SqT.of h30
        have e2 := e0
        have hL2 : upd H l0 (.lst (iL f)) l0 = some (.lst (iL f)) := upd_same
        refine ⟨psa, rfl, ⟨ss.take k, hT⟩, for_tup (K := K) (a := psa) (xs := ss.take k) (fun i σ H' => ∃ (l : Addr) (v3 : Option V), σ = [some (.ref x), some (.int k), some (.ref l), v3] ∧ Ex H H' ∧ SqT K H' psa (ss.take k) ∧ H' l = some (.lst (iL (ver f (scs.take i)))))
          ⟨l0, none, rfl, e2, hT, hL2⟩ (fun i σ H' _ ⟨_, _, _, _, h, _⟩ => h) ?_ ?_⟩
        · rintro i y σ H' hi ⟨l, v3, rfl, e, hT', hL⟩
          have hik : i < k := by have := at_lt hi; rw [List.length_take] at this; omega
          rw [List.getElem?_take_of_lt hik] at hi
          obtain ⟨st, hst, pt, ws, rfl, hp, hS⟩ := paired_at h4 hi
          refine ⟨_, rfl, _, rfl, l, pt, _, ws, st, rfl, hL, e _ _ hp, hS.mono (Ex.tups e), hfit i st hst, fun p H3 e3 hp3 => ⟨p, _, rfl, e.trans e3, Evl.ex_t e3 hT', ?_⟩⟩
          rw [take_next hst, ver_more]
          exact hp3
        · rintro σ H' ⟨l, v3, rfl, e, hT', hL⟩
          rw [List.length_take, show min k ss.length = k by omega] at hL
          exact ⟨_, rfl, q l H' e hL⟩
      · rw [ecut]
        have e2 := e0.trans (Evl.Ex.new (o := .tup (ss.take k)) hp)
        have hL2 := Evl.Ex.new (o := .tup (ss.take k)) hp _ _ (upd_same (H := H) (a := l0) (o := .lst (iL f)))
        have hT : SqT K (upd (upd H l0 (.lst (iL f))) p (.tup (ss.take k))) p (ss.take k) := SqT.of upd_same
        refine ⟨p, rfl, ⟨ss.take k, hT⟩, for_tup (K := K) (a := p) (xs := ss.take k) (fun i σ H' => ∃ (l : Addr) (v3 : Option V), σ = [some (.ref x), some (.int k), some (.ref l), v3] ∧ Ex H H' ∧ SqT K H' p (ss.take k) ∧ H' l = some (.lst (iL (ver f (scs.take i)))))
          ⟨l0, none, rfl, e2, hT, hL2⟩ (fun i σ H' _ ⟨_, _, _, _, h, _⟩ => h) ?_ ?_⟩
        · rintro i y σ H' hi ⟨l, v3, rfl, e, hT', hL⟩
          have hik : i < k := by have := at_lt hi; rw [List.length_take] at this; omega
          rw [List.getElem?_take_of_lt hik] at hi
          obtain ⟨st, hst, pt, ws, rfl, hp, hS⟩ := paired_at h4 hi
          refine ⟨_, rfl, _, rfl, l, pt, _, ws, st, rfl, hL, e _ _ hp, hS.mono (Ex.tups e), hfit i st hst, fun p9 H3 e3 hp3 => ⟨p9, _, rfl, e.trans e3, Evl.ex_t e3 hT', ?_⟩⟩
          rw [take_next hst, ver_more]
          exact hp3
        · rintro σ H' ⟨l, v3, rfl, e, hT', hL⟩
          rw [List.length_take, show min k ss.length = k by omega] at hL
          exact ⟨_, rfl, q l H' e hL⟩
end
end K17
set_option maxHeartbeats 4000000
namespace K17
open PySem PySem.Spec PyProof.Rows L2
theorem flat_take {α β : Type} (g : α → List β) (l : List α) (i : Nat) : (l.take i).flatMap g ++ (l.drop i).flatMap g = l.flatMap g := by rw [← List.flatMap_append, List.take_append_drop]
theorem flat_next {α β : Type} (g : α → List β) {l : List α} {i : Nat} {x : α} (h : l[i]? = some x) : (l.take (i + 1)).flatMap g = (l.take i).flatMap g ++ g x := by
  rw [take_next h, List.flatMap_append]
  simp
theorem flat_le {α β : Type} (g : α → List β) (l : List α) (i : Nat) : ((l.take i).flatMap g).length ≤ (l.flatMap g).length := by
  rw [← flat_take g l i, List.length_append]
  omega
section
variable {w : World} {K : PySem.W.Frag} {mg : Str → Option Value} {base : Heap} {CE fI CH CR : Addr}
/-! ### _step_octets -/
abbrev s_step_octets : Stmt := top 19
theorem sc_step_octets : FnScope ["step", "kind", "part", "octets", "item"] ["step"] (defScope s_step_octets) := ⟨rfl, rfl, rfl, by decide +kernel, rfl, by decide +kernel, by decide +kernel⟩
def spStepO : Sp := fun vs H Q _ => ∃ (v : V) (s : Step), vs = [v] ∧ StAt H v s ∧ SOk s ∧ (eStp s).length ≤ 100000 ∧ ∀ (p : Addr) (H' : Hp), Ex H H' → H' p = some (.lst (iL (eStp s))) → Q (.ref p) H'
theorem can_stepo (B : Bl mg) (D : Df K mg "_step_octets" s_step_octets) (hn : Can w K mg base CX0 1 "number_octets" ["number"] spNum) : Can w K mg base CX0 2 "_step_octets" ["step"] spStepO := by
  obtain ⟨f, fd, g, F⟩ := D
  obtain ⟨f_number_octets, d_number_octets, g_number_octets, k_number_octets, b_number_octets, G_number_octets⟩ := hn
  refine ⟨f, fd, g, F.kp, F.binds fun _ _ _ _ _ _ us hl => match us, hl with | [_], _ => rfl, F.ok sc_step_octets (fun vs H Q E h => ?_) (fun cdv A outer s H vs Q E hr h => ?_)⟩
  · obtain ⟨v, s, rfl, _⟩ := h
    rfl
  · obtain ⟨v, s, rfl, hv, hs, hz, q⟩ := h
    refine ⟨_, (pss_cons (ps_asg (pv 0) (pg_tup rfl (pgs_cons (pg_name (i := 1) sc_step_octets.nd rfl (Or.inl rfl)) (pgs_cons (pg_name (i := 2) sc_step_octets.nd rfl (Or.inl rfl)) pgs_nil))))
    (pss_cons (ps_if (pt_cmpR op_eq (pv 1) pe_str (nomark _)) (pss_cons (ps_set (i := 3) sc_step_octets.nd rfl (Or.inl rfl) (pe_op op_cat (pe_lst (pa_cons (pe_glob (v := .int 2) rfl B.ADD.choose_spec ⟨_, rfl⟩) pa_nil)) (pe_call G_number_octets (hr.mono (by decide)) rfl g_number_octets k_number_octets b_number_octets .nil pass0 (by exact (pa_cons (pe_callB call_len_seq (by rfl) B.len_ (by decide +kernel) (pa_cons (pv 2) pa_nil)) pa_nil)))))
    (pss_cons (ps_for PassesOwn.never rfl (pi_tup (pv 2)) (pg_name (i := 4) sc_step_octets.nd rfl (Or.inl rfl))
    (pss_one (ps_expr (pe_bm PySem.F.plainAttrs_list PySem.F.slot_list_append PySem.F.type_list_append mt_append (pv 3) (pa_cons (pv 4) pa_nil)))))
    (pss_one (ps_ret (pv 3))))) pss_nil)
    (pss_one (ps_ret (pe_op op_cat (pe_lst (pa_cons (pe_ifExp (pt_cmpR op_eq (pv 1) pe_str (nomark _)) (pe_glob (v := .int 0) rfl B.KEEP.choose_spec ⟨_, rfl⟩) (pe_glob (v := .int 1) rfl B.DROP.choose_spec ⟨_, rfl⟩)) pa_nil)) (pe_call G_number_octets (hr.mono (by decide)) rfl g_number_octets k_number_octets b_number_octets .nil pass0 (by exact (pa_cons (pv 2) pa_nil)))))))), ?_⟩
    cases s with
    | keep n =>
      obtain ⟨p, rfl, hp⟩ := hv
      obtain ⟨m, rfl⟩ : ∃ m : Nat, n = (m : Int) := ⟨n.toNat, by have := hs.1; omega⟩
      have hm : m < 34359738368 := by have := hs.2; omega
      have hz2 : (num m).length ≤ 5 := num_len5 hm
      refine ⟨_, rfl, p, _, rfl, SqT.of hp, rfl, _, _, rfl, _, _, rfl, rfl, ?_⟩
      refine ⟨_, rfl, rfl, _, rfl, ifN kwA ⟨_, rfl, rfl, _, rfl, ifD rfl ⟨(by show 1 ≤ sizeLine; decide), fun p1 hp1 => ?_⟩⟩⟩
      refine ⟨_, rfl, m, rfl, hm, fun p2 H2 e2 hp2 => ⟨p1, p2, _, _, rfl, rfl, e2 _ _ upd_same, hp2, fitsM (by rw [iL_len]; show 1 + _ ≤ _; omega), fun p3 hp3 => q p3 _ (((Evl.Ex.new hp1).trans e2).trans (Evl.Ex.new hp3)) (by rw [upd_same]; rfl)⟩⟩
    | drop n =>
      obtain ⟨p, rfl, hp⟩ := hv
      obtain ⟨m, rfl⟩ : ∃ m : Nat, n = (m : Int) := ⟨n.toNat, by have := hs.1; omega⟩
      have hm : m < 34359738368 := by have := hs.2; omega
      have hz2 : (num m).length ≤ 5 := num_len5 hm
      refine ⟨_, rfl, p, _, rfl, SqT.of hp, rfl, _, _, rfl, _, _, rfl, rfl, ?_⟩
      refine ⟨_, rfl, rfl, _, rfl, ifN drA ⟨_, rfl, rfl, _, rfl, ifN drK ⟨(by show 1 ≤ sizeLine; decide), fun p1 hp1 => ?_⟩⟩⟩
      refine ⟨_, rfl, m, rfl, hm, fun p2 H2 e2 hp2 => ⟨p1, p2, _, _, rfl, rfl, e2 _ _ upd_same, hp2, fitsM (by rw [iL_len]; show 1 + _ ≤ _; omega), fun p3 hp3 => q p3 _ (((Evl.Ex.new hp1).trans e2).trans (Evl.Ex.new hp3)) (by rw [upd_same]; rfl)⟩⟩
    | add xs =>
      obtain ⟨p, r, rfl, hp, hr2⟩ := hv
      have hm := hs.1
      have hx : (eStp (.add xs)).length = 1 + ((num xs.length).length + xs.length) := by
        show (2 :: (num xs.length ++ xs)).length = _
        rw [List.length_cons, List.length_append]; omega
      refine ⟨_, rfl, p, _, rfl, SqT.of hp, rfl, _, _, rfl, _, _, rfl, rfl, ?_⟩
      refine ⟨_, rfl, rfl, _, rfl, ifD rfl ⟨(by show 1 ≤ sizeLine; decide), fun p1 hp1 => ?_⟩⟩
      have e1 := Evl.Ex.new (o := .lst [.int 2]) hp1
      refine ⟨_, rfl, _, _, rfl, .inr (SqT.of (e1 _ _ hr2)), xs.length, ?_, hm, fun p2 H2 e2 hp2 => ⟨p1, p2, _, _, rfl, rfl, e2 _ _ upd_same, hp2, fitsM (by rw [iL_len]; show 1 + _ ≤ _; omega), fun p3 hp3 => ?_⟩⟩
      · rw [iL_len]; rfl
      have e3 := (e1.trans e2).trans (Evl.Ex.new (o := .lst ([.int 2] ++ iL (num xs.length))) hp3)
      have hH3 : H p3 = none := Evl.fresh_back (e1.trans e2) hp3
      refine ⟨_, rfl, r, rfl, ⟨iL xs, SqT.of (e3 _ _ hr2)⟩, for_tup (K := K) (a := r) (xs := iL xs) (fun i σ H' => ∃ v4 : Option V, σ = [some (.ref p), some (.str "add"), some (.ref r), some (.ref p3), v4] ∧ Ex H H' ∧ H' p3 = some (.lst (iL (2 :: (num xs.length ++ xs.take i)))))
        ⟨none, rfl, e3, by rw [upd_same]; show _ = some (HO.lst (iL (2 :: (num xs.length ++ [])))); rw [List.append_nil]; rfl⟩ (fun i σ H' _ ⟨_, _, e, _⟩ => SqT.of (e _ _ hr2)) ?_ ?_⟩
      · rintro i y σ H' hi ⟨v4, rfl, e, hL⟩
        obtain ⟨x, hx2, rfl⟩ := iL_get hi
        have hil := at_lt hx2
        refine ⟨_, rfl, .inl ⟨rfl, _, SqL.of hL⟩, _, rfl, p3, _, _, rfl, rfl, hL, fitsL (by rw [iL_len, List.length_cons, List.length_append, List.length_take]; omega), _, rfl, Evl.Ex.mut e hH3, ?_⟩
        rw [upd_same, ← iL_snoc, take_next hx2]
        show some (HO.lst (iL (2 :: (num xs.length ++ xs.take i) ++ [x]))) = _
        rw [List.cons_append, List.append_assoc]
      · rintro σ H' ⟨v4, rfl, e, hL⟩
        rw [iL_len, List.take_length] at hL
        exact ⟨_, rfl, q p3 H' e hL⟩
/-! ### encode_history -/
abbrev s_encode_history : Stmt := top 20
theorem sc_encode_history : FnScope ["history", "octets", "script", "step"] ["history"] (defScope s_encode_history) := ⟨rfl, rfl, rfl, by decide +kernel, rfl, by decide +kernel, by decide +kernel⟩
def spEnc (CH : Addr) : Sp := fun vs H Q _ => ∃ (h : Addr) (f : List Int) (scs : List (List Step)), vs = [.ref h] ∧ HisAt CH H h f scs ∧ scs.length + 1 < 34359738368 ∧ f.length < 34359738368 ∧ (∀ st ∈ scs, st.length < 34359738368 ∧ ∀ s ∈ st, SOk s) ∧ (eHis f scs).length ≤ 100000 ∧
  ∀ (p : Addr) (H' : Hp), Ex H H' → H' p = some (.lst (iL (eHis f scs))) → Q (.ref p) H'
theorem can_enc (B : Bl mg) (hC : HisC K CH) (D : Df K mg "encode_history" s_encode_history) (hn : Can w K mg base CX0 1 "number_octets" ["number"] spNum) (hst : Can w K mg base CX0 2 "_step_octets" ["step"] spStepO) : Can w K mg base CX0 3 "encode_history" ["history"] (spEnc CH) := by
  obtain ⟨f, fd, g, F⟩ := D
  obtain ⟨f_number_octets, d_number_octets, g_number_octets, k_number_octets, b_number_octets, G_number_octets⟩ := hn
  obtain ⟨f_step_octets, d_step_octets, g_step_octets, k_step_octets, b_step_octets, G_step_octets⟩ := hst
  refine ⟨f, fd, g, F.kp, F.binds fun _ _ _ _ _ _ us hl => match us, hl with | [_], _ => rfl, F.ok sc_encode_history (fun vs H Q E h => ?_) (fun cdv A outer s H vs Q E hr h => ?_)⟩
  · obtain ⟨x, f, scs, rfl, _⟩ := h
    rfl
  · obtain ⟨x, f, scs, rfl, ⟨dx, pf, psa, ss, h1, h2, h3, h4⟩, hs, hf, hall, hz, q⟩ := h
    have hl := paired_len h4
    refine ⟨_, (pss_cons (ps_set (i := 1) sc_encode_history.nd rfl (Or.inl rfl) (pe_op op_cat (pe_op op_cat (pe_call G_number_octets (hr.mono (by decide)) rfl g_number_octets k_number_octets b_number_octets .nil pass0 (by exact (pa_cons (pe_op op_add (pe_callB call_len_seq (by rfl) B.len_ (by decide +kernel) (pa_cons (pe_fld (pv 0) rfl) pa_nil)) pe_int) pa_nil))) (pe_call G_number_octets (hr.mono (by decide)) rfl g_number_octets k_number_octets b_number_octets .nil pass0 (by exact (pa_cons (pe_callB call_len_seq (by rfl) B.len_ (by decide +kernel) (pa_cons (pe_fld (pv 0) rfl) pa_nil)) pa_nil)))) (pe_callTy call_list_of (by rfl) B.list_ (by decide +kernel) (pa_cons (pe_fld (pv 0) rfl) pa_nil))))
    (pss_cons (ps_for PassesOwn.never rfl (pi_tup (pe_fld (pv 0) rfl)) (pg_name (i := 2) sc_encode_history.nd rfl (Or.inl rfl))
    (pss_cons (ps_aug (i := 1) sc_encode_history.nd rfl (Or.inl rfl) (pe_call G_number_octets (hr.mono (by decide)) rfl g_number_octets k_number_octets b_number_octets .nil pass0 (by exact (pa_cons (pe_callB call_len_seq (by rfl) B.len_ (by decide +kernel) (pa_cons (pv 2) pa_nil)) pa_nil))) (pip_of iop_ext))
    (pss_one (ps_for PassesOwn.never rfl (pi_tup (pv 2)) (pg_name (i := 3) sc_encode_history.nd rfl (Or.inl rfl))
    (pss_one (ps_aug (i := 1) sc_encode_history.nd rfl (Or.inl rfl) (pe_call G_step_octets (hr.mono (by decide)) rfl g_step_octets k_step_octets b_step_octets .nil pass0 (by exact (pa_cons (pv 3) pa_nil))) (pip_of iop_ext)))))))
    (pss_one (ps_ret (pv 1))))), ?_⟩
    have hzz : (eHis f scs).length = (num (scs.length + 1)).length + (num f.length).length + f.length + (scs.flatMap eScr).length := by
      unfold eHis
      rw [List.length_append, List.length_append, List.length_append]
    refine ⟨_, rfl, x, CH, dx, _, _, rfl, h1, hC.cls, hC.scripts, look2 neSF, _, _, rfl, .inr (SqT.of h3), _, _, rfl, rfl, scs.length + 1, ?_, hs, fun p1 H1 e1 hp1 => ?_⟩
    · show [V.int ((ss.length : Int) + 1)] = [V.int ((scs.length + 1 : Nat) : Int)]
      rw [hl]; rfl
    refine ⟨_, rfl, x, CH, dx, _, _, rfl, e1 _ _ h1, hC.cls, hC.first, look1, _, _, rfl, .inr (SqT.of (e1 _ _ h2)), f.length, ?_, hf, fun p2 H2 e2 hp2 => ?_⟩
    · rw [iL_len]; rfl
    refine ⟨p1, p2, _, _, rfl, rfl, e2 _ _ hp1, hp2, fitsM (by rw [iL_len, iL_len]; omega), fun p3 hp3 => ?_⟩
    have e3 := (e1.trans e2).trans (Evl.Ex.new (o := .lst (iL (num (scs.length + 1)) ++ iL (num f.length))) hp3)
    refine ⟨_, rfl, x, CH, dx, _, _, rfl, e3 _ _ h1, hC.cls, hC.first, look1, _, _, rfl, .inr (SqT.of (e3 _ _ h2)), fun p4 hp4 => ?_⟩
    have e4 := e3.trans (Evl.Ex.new (o := .lst (iL f)) hp4)
    refine ⟨p3, p4, _, _, rfl, rfl, Evl.Ex.new hp4 _ _ upd_same, upd_same, fitsM (by rw [List.length_append, iL_len, iL_len, iL_len]; omega), fun l hl0 => ?_⟩
    have hlH : H l = none := Evl.fresh_back e4 hl0
    have e5 := e4.trans (Evl.Ex.new (o := .lst (iL (num (scs.length + 1)) ++ iL (num f.length) ++ iL f)) hl0)
    refine ⟨_, rfl, x, CH, dx, _, _, rfl, e5 _ _ h1, hC.cls, hC.scripts, look2 neSF, ?_⟩
    refine ⟨psa, rfl, ⟨ss, SqT.of (e5 _ _ h3)⟩, for_tup (K := K) (a := psa) (xs := ss) (fun i σ H' => ∃ v2 v3 : Option V, σ = [some (.ref x), some (.ref l), v2, v3] ∧ Ex H H' ∧ H' l = some (.lst (iL (num (scs.length + 1) ++ num f.length ++ f ++ (scs.take i).flatMap eScr))))
      ⟨none, none, rfl, e5, by rw [upd_same, ← iL_app, ← iL_app]; show _ = some (HO.lst (iL (_ ++ []))); rw [List.append_nil]⟩ (fun i σ H' _ ⟨_, _, _, e, _⟩ => SqT.of (e _ _ h3)) ?_ ?_⟩
    · rintro i y σ H' hi ⟨v2, v3, rfl, e, hL⟩
      obtain ⟨st, hst, pt, ws, rfl, hp, hS⟩ := paired_at h4 hi
      obtain ⟨hst1, hst2⟩ := hall st (List.mem_of_getElem? hst)
      have hwl := paired_len hS
      have nx := flat_next eScr hst
      have nxl := flat_le eScr scs (i + 1)
      rw [nx, List.length_append] at nxl
      have hes : (eScr st).length = (num st.length).length + (st.flatMap eStp).length := by unfold eScr; rw [List.length_append]
      refine ⟨_, rfl, _, rfl, _, _, rfl, .inr (SqT.of (e _ _ hp)), st.length, ?_, hst1, fun p6 H6 e6 hp6 => ?_⟩
      · rw [hwl]; rfl
      have hL6 := e6 _ _ hL
      refine ⟨l, p6, _, _, rfl, rfl, hL6, hp6, fitsM (by rw [iL_len, iL_len]; simp only [List.length_append]; omega), ?_⟩
      have e7 := Evl.Ex.mut (o := .lst (iL (num (scs.length + 1) ++ num f.length ++ f ++ (scs.take i).flatMap eScr) ++ iL (num st.length))) (e.trans e6) hlH
      refine ⟨_, rfl, pt, rfl, ⟨ws, SqT.of (e7 _ _ hp)⟩, for_tup (K := K) (a := pt) (xs := ws) (fun j σ H' => ∃ v3 : Option V, σ = [some (.ref x), some (.ref l), some (.ref pt), v3] ∧ Ex H H' ∧ H' l = some (.lst (iL (num (scs.length + 1) ++ num f.length ++ f ++ (scs.take i).flatMap eScr ++ (num st.length ++ (st.take j).flatMap eStp)))))
        ⟨v3, rfl, e7, by rw [upd_same, ← iL_app]; show _ = some (HO.lst (iL (_ ++ (_ ++ [])))); rw [List.append_nil]⟩ (fun i σ H' _ ⟨_, _, e, _⟩ => SqT.of (e _ _ hp)) ?_ ?_⟩
      · rintro j y σ H8 hj ⟨v3, rfl, e, hL⟩
        obtain ⟨s, hs2, hy⟩ := paired_at hS hj
        have nx2 := flat_next eStp hs2
        have nxl2 := flat_le eStp st (j + 1)
        rw [nx2, List.length_append] at nxl2
        refine ⟨_, rfl, _, rfl, y, s, rfl, hy.mono (Ex.tups e), hst2 s (List.mem_of_getElem? hs2), by omega, fun p9 H9 e9 hp9 => ?_⟩
        refine ⟨l, p9, _, _, rfl, rfl, e9 _ _ hL, hp9, fitsM (by rw [iL_len, iL_len]; simp only [List.length_append]; omega), _, rfl, Evl.Ex.mut (e.trans e9) hlH, ?_⟩
        rw [upd_same, nx2, ← iL_app]
        simp only [List.append_assoc]
      · rintro σ H8 ⟨v3, rfl, e, hL⟩
        rw [hwl, List.take_length] at hL
        refine ⟨_, v3, rfl, e, ?_⟩
        rw [nx, hL]
        unfold eScr
        simp only [List.append_assoc]
    · rintro σ H' ⟨v2, v3, rfl, e, hL⟩
      rw [hl, List.take_length] at hL
      exact ⟨_, rfl, q l H' e hL⟩
end
end K17
set_option maxHeartbeats 4000000
namespace K17
open PySem PySem.Spec PyProof.Rows L2
def RdrAt (CR : Addr) (H : Hp) (r a : Addr) (n : Int) : Prop := ∃ dx, H r = some (.ins CR dx (rFs a n))
theorem RdrAt.mono {CR : Addr} {H H' : Hp} {r a : Addr} {n : Int} (e : Ex H H') (h : RdrAt CR H r a n) : RdrAt CR H' r a n := by
  obtain ⟨dx, h⟩ := h
  exact ⟨dx, e _ _ h⟩
theorem RdrAt.ne {CR : Addr} {H : Hp} {r a b : Addr} {n : Int} {xs : List V} (h : RdrAt CR H r a n) (hb : H b = some (.lst xs)) : b ≠ r := fun z => by
  obtain ⟨dx, h⟩ := h
  rw [z, h] at hb; cases hb
theorem RdrAt.tp {CR : Addr} {H H' : Hp} {r a : Addr} {n : Int} (h : RdrAt CR H r a n) (e : Exb r H H') : ∀ b ys, H b = some (.tup ys) → H' b = some (.tup ys) :=
  Exb.tups e fun ys z => by obtain ⟨dx, h⟩ := h; rw [h] at z; cases z
section
variable {w : World} {K : PySem.W.Frag} {mg : Str → Option Value} {base : Heap} {CE fI CH CR : Addr}
/-! ### HistoryReader -/
abbrev s_HistoryReader_init : Stmt := inClass (top 21) 0
theorem sc_HistoryReader_init : FnScope ["self", "octets"] ["self", "octets"] (defScope s_HistoryReader_init) := ⟨rfl, rfl, rfl, by decide +kernel, rfl, by decide +kernel, by decide +kernel⟩
def spRInit (CR : Addr) : Sp := fun vs H Q _ => ∃ (x a dx : Addr), vs = [.ref x, .ref a] ∧ H x = some (.ins CR dx []) ∧ ∀ H', Exb x H H' → RdrAt CR H' x a 0 → Q .non H'
theorem can_rinit (B : Bl mg) (rC : RdrC K CR) (D : DfI K CR "HistoryReader.__init__" s_HistoryReader_init) : CanI w K mg base CX0 1 CR ["self", "octets"] (spRInit CR) := by
  obtain ⟨f, fd, M, F⟩ := D
  refine ⟨f, fd, M, F.binds fun _ _ _ _ _ _ us hl => match us, hl with | [_, _], _ => rfl, F.ok sc_HistoryReader_init (fun vs H Q E h => ?_) (fun cdv A outer s H vs Q E hr h => ?_)⟩
  · obtain ⟨x, a, dx, rfl, _⟩ := h
    rfl
  · obtain ⟨x, a, dx, rfl, hX, q⟩ := h
    refine ⟨_, (pss_cons (ps_fld (pv 0) (pv 1) rfl)
    (pss_one (ps_fld (pv 0) pe_int rfl))), ?_⟩
    refine ⟨_, rfl, _, rfl, x, CR, dx, _, rfl, hX, rC.cls, rC.octets, (by decide : 0 < 1000), _, rfl, x, CR, dx, [("_octets", .ref a)], rfl, upd_same, rC.cls, rC.at_, (by show 1 < 1000; decide), ?_⟩
    refine q _ (Exb.upd.trans Exb.upd) ⟨dx, ?_⟩
    rw [upd_same, put2 neOA]
    rfl
abbrev s_HistoryReader_number : Stmt := inClass (top 21) 1
theorem sc_HistoryReader_number : FnScope ["self", "number"] ["self"] (defScope s_HistoryReader_number) := ⟨rfl, rfl, rfl, by decide +kernel, rfl, by decide +kernel, by decide +kernel⟩
def spNumber (CE CR : Addr) : Sp := fun vs H Q E => ∃ (r a : Addr) (os : List Int) (n : Nat), vs = [.ref r] ∧ RdrAt CR H r a n ∧ H a = some (.lst (iL os)) ∧ Oct os ∧ os.length ≤ 100000 ∧ n ≤ 100000 ∧
  (∀ m b, rd os n = .ok m b → ∀ H', Exb r H H' → RdrAt CR H' r a b → Q (.int m) H') ∧ ∀ p, rd os n = .bad p → Bad CE E p
theorem can_number (B : Bl mg) (rC : RdrC K CR) (D : DfM K CR "number" "HistoryReader.number" s_HistoryReader_number) (hrd : Can w K mg base (L2.CX prog17 w) 1 "read_number" ["octets", "start"] (spRd CE)) :
    CanM w K mg base (L2.CX prog17 w) 2 CR "number" ["self"] (spNumber CE CR) := by
  obtain ⟨f, fd, M, F⟩ := D
  obtain ⟨f_read_number, d_read_number, g_read_number, k_read_number, b_read_number, G_read_number⟩ := hrd
  refine ⟨f, fd, M, F.binds fun _ _ _ _ _ _ us hl => match us, hl with | [_], _ => rfl, F.okX sc_HistoryReader_number (fun vs H Q E h => ?_) (fun cdv A outer s H vs Q E hr h => ?_)⟩
  · obtain ⟨r, a, os, n, rfl, _⟩ := h
    rfl
  · obtain ⟨r, a, os, n, rfl, ⟨dx, hR⟩, hA, hO, hz, hn, q, qb⟩ := h
    refine ⟨_, (pss_cons (ps_asg (pe_call G_read_number (hr.mono (by decide)) rfl g_read_number k_read_number b_read_number .nil passE (by exact (pa_cons (pe_fld (pv 0) rfl) (pa_cons (pe_fld (pv 0) rfl) pa_nil)))) (pg_tup rfl (pgs_cons (pg_name (i := 1) sc_HistoryReader_number.nd rfl (Or.inl rfl)) (pgs_cons (pg_attr (pv 0)) pgs_nil))))
    (pss_one (ps_ret (pv 1)))), ?_⟩
    refine ⟨_, rfl, r, CR, dx, _, _, rfl, hR, rC.cls, rC.octets, look1, _, rfl, r, CR, dx, _, _, rfl, hR, rC.cls, rC.at_, look2 neAO, a, os, n, rfl, hA, hO, hz, hn, fun m b hm p H1 e1 hp => ?_, fun p hp => qb p hp⟩
    refine ⟨p, _, rfl, SqT.of hp, rfl, _, _, rfl, _, _, rfl, _, rfl, r, CR, dx, _, rfl, e1 _ _ hR, rC.cls, rC.at_, (by show 2 < 1000; decide), rfl, _, rfl, q _ _ hm _ ((Exb.of e1).trans Exb.upd) ⟨dx, ?_⟩⟩
    rw [upd_same, put2 neOA, put1]
abbrev s_HistoryReader_positive : Stmt := inClass (top 21) 2
theorem sc_HistoryReader_positive : FnScope ["self", "begin", "number"] ["self"] (defScope s_HistoryReader_positive) := ⟨rfl, rfl, rfl, by decide +kernel, rfl, by decide +kernel, by decide +kernel⟩
def spPositive (CE CR : Addr) : Sp := fun vs H Q E => ∃ (r a : Addr) (os : List Int) (n : Nat), vs = [.ref r] ∧ RdrAt CR H r a n ∧ H a = some (.lst (iL os)) ∧ Oct os ∧ os.length ≤ 100000 ∧ n ≤ 100000 ∧
  (∀ m b, ps os n = .ok m b → ∀ H', Exb r H H' → RdrAt CR H' r a b → Q (.int m) H') ∧ ∀ p, ps os n = .bad p → Bad CE E p
theorem can_positive (B : Bl mg) (TE : EncTxt K mg CE fI) (rC : RdrC K CR) (D : DfM K CR "positive" "HistoryReader.positive" s_HistoryReader_positive) (hnum : CanM w K mg base (L2.CX prog17 w) 2 CR "number" ["self"] (spNumber CE CR)) :
    CanM w K mg base (L2.CX prog17 w) 3 CR "positive" ["self"] (spPositive CE CR) := by
  obtain ⟨f, fd, M, F⟩ := D
  obtain ⟨f_number, d_number, M_number, b_number, G_number⟩ := hnum
  have clR := rC.cls
  refine ⟨f, fd, M, F.binds fun _ _ _ _ _ _ us hl => match us, hl with | [_], _ => rfl, F.okX sc_HistoryReader_positive (fun vs H Q E h => ?_) (fun cdv A outer s H vs Q E hr h => ?_)⟩
  · obtain ⟨r, a, os, n, rfl, _⟩ := h
    rfl
  · obtain ⟨r, a, os, n, rfl, ⟨dx, hR⟩, hA, hO, hz, hn, q, qb⟩ := h
    refine ⟨_, (pss_cons (ps_set (i := 1) sc_HistoryReader_positive.nd rfl (Or.inl rfl) (pe_fld (pv 0) rfl))
    (pss_cons (ps_set (i := 2) sc_HistoryReader_positive.nd rfl (Or.inl rfl) (pe_meth0 (pv 0) clR M_number G_number (hr.mono (by decide)) b_number .nil passE))
    (pss_cons (ps_if (pt_cmpR op_eq (pv 2) pe_int (nomark _)) (pss_one (ps_raiseE rfl rfl TE hr (takes_of rfl rfl rfl rfl) (by exact (pa_cons (pv 1) pa_nil)))) pss_nil)
    (pss_one (ps_ret (pv 2)))))), ?_⟩
    refine ⟨_, rfl, r, CR, dx, _, _, rfl, hR, rC.cls, rC.at_, look2 neAO, _, rfl, r, dx, _, rfl, hR, ?_, r, a, os, n, rfl, ⟨dx, hR⟩, hA, hO, hz, hn, fun m b hm H1 e1 hr1 => ?_, fun p hp => qb p ?_⟩
    · rfl
    · refine ⟨_, rfl, rfl, _, rfl, if2 (fun c => ?_) (fun c => ?_)⟩
      · have c' : m = 0 := V.int.inj c
        refine ⟨_, rfl, _, rfl, log_nat hn, fun d hd => qb n ?_ d _ upd_same⟩
        unfold ps; rw [hm]; exact if_pos c'
      · have c' : ¬ m = 0 := fun z => c (congrArg V.int z)
        refine ⟨_, rfl, q m b ?_ H1 e1 hr1⟩
        unfold ps; rw [hm]; exact if_neg c'
    · unfold ps; rw [hp]
abbrev s_HistoryReader_block : Stmt := inClass (top 21) 3
theorem sc_HistoryReader_block : FnScope ["self", "count"] ["self", "count"] (defScope s_HistoryReader_block) := ⟨rfl, rfl, rfl, by decide +kernel, rfl, by decide +kernel, by decide +kernel⟩
def spBlock (CE CR : Addr) : Sp := fun vs H Q E => ∃ (r a : Addr) (os : List Int) (n c : Nat), vs = [.ref r, .int c] ∧ RdrAt CR H r a n ∧ H a = some (.lst (iL os)) ∧ os.length ≤ 100000 ∧
  ((n : Int) + c ≤ os.length → ∀ t H', Exb r H H' → RdrAt CR H' r a ((n + c : Nat) : Int) → H' t = some (.tup (iL ((os.drop n).take c))) → Q (.ref t) H') ∧ ((n : Int) + c > os.length → Bad CE E os.length)
theorem can_block (B : Bl mg) (TE : EncTxt K mg CE fI) (rC : RdrC K CR) (D : DfM K CR "block" "HistoryReader.block" s_HistoryReader_block) :
    CanM w K mg base (L2.CX prog17 w) 1 CR "block" ["self", "count"] (spBlock CE CR) := by
  obtain ⟨f, fd, M, F⟩ := D
  refine ⟨f, fd, M, F.binds fun _ _ _ _ _ _ us hl => match us, hl with | [_, _], _ => rfl, F.okX sc_HistoryReader_block (fun vs H Q E h => ?_) (fun cdv A outer s H vs Q E hr h => ?_)⟩
  · obtain ⟨r, a, os, n, c, rfl, _⟩ := h
    rfl
  · obtain ⟨r, a, os, n, c, rfl, ⟨dx, hR⟩, hA, hz, q, qb⟩ := h
    refine ⟨_, (pss_cons (ps_if (pt_cmpR op_gt (pe_op op_add (pe_fld (pv 0) rfl) (pv 1)) (pe_callB call_len_seq (by rfl) B.len_ (by decide +kernel) (pa_cons (pe_fld (pv 0) rfl) pa_nil)) (nomark _)) (pss_one (ps_raiseE rfl rfl TE hr (takes_of rfl rfl rfl rfl) (by exact (pa_cons (pe_callB call_len_seq (by rfl) B.len_ (by decide +kernel) (pa_cons (pe_fld (pv 0) rfl) pa_nil)) pa_nil)))) pss_nil)
    (pss_cons (ps_fldaug (pv 0) (pv 1) in_add)
    (pss_one (ps_ret (pe_callTy call_tuple_of (by rfl) B.tuple_ (by decide +kernel) (pa_cons (pe_slice sl_list (pe_fld (pv 0) rfl) (po_some (pe_op op_sub (pe_fld (pv 0) rfl) (pv 1))) (po_some (pe_fld (pv 0) rfl))) pa_nil)))))), ?_⟩
    refine ⟨_, rfl, r, CR, dx, _, _, rfl, hR, rC.cls, rC.at_, look2 neAO, _, rfl, _, _, rfl, rfl, _, rfl, r, CR, dx, _, _, rfl, hR, rC.cls, rC.octets, look1, _, _, rfl, .inl (SqL.of hA), _, _, rfl, rfl, _, rfl, ?_⟩
    refine if2 (fun k => ?_) (fun k => ?_)
    · rw [iL_len] at k
      refine ⟨_, rfl, r, CR, dx, _, _, rfl, hR, rC.cls, rC.octets, look1, _, _, rfl, .inl (SqL.of hA), _, rfl, ?_, fun d hd => qb k d _ ?_⟩
      · rw [iL_len]; exact log_nat hz
      · rw [upd_same, iL_len]
    · rw [iL_len] at k
      refine ⟨_, rfl, r, CR, dx, _, _, rfl, hR, rC.cls, rC.at_, look2 neAO, _, rfl, _, _, rfl, rfl, dx, _, hR, (by show 2 < 1000; decide), ?_⟩
      rw [put2 neOA, put1]
      have har : a ≠ r := RdrAt.ne ⟨dx, hR⟩ hA
      have hA1 : upd H r (.ins CR dx (rFs a ((n : Int) + c))) a = some (.lst (iL os)) := by rw [upd_ne har]; exact hA
      have hR1 : upd H r (.ins CR dx (rFs a ((n : Int) + c))) r = some (.ins CR dx (rFs a ((n : Int) + c))) := upd_same
      have ec : cutV (iL os) (some ((n : Int) + c - c)) (some ((n : Int) + c)) = iL ((os.drop n).take c) := cut_int os n c _ _ (by omega) (by omega)
      refine ⟨_, rfl, r, CR, dx, _, _, rfl, hR1, rC.cls, rC.octets, look1, _, rfl, r, CR, dx, _, _, rfl, hR1, rC.cls, rC.at_, look2 neAO, _, rfl, _, _, rfl, rfl, _, rfl, _, rfl, r, CR, dx, _, _, rfl, hR1, rC.cls, rC.at_, look2 neAO, _, rfl, a, _, rfl, SqL.of hA1, fun p hp => ?_⟩
      rw [ec]
      refine ⟨p, _, rfl, .inl ⟨SqL.of upd_same, fun t ht => ?_⟩⟩
      exact q (by omega) t _ (Exb.upd.trans (Exb.of ((Evl.Ex.new hp).trans (Evl.Ex.new ht)))) ⟨dx, by rw [show ((n + c : Nat) : Int) = (n : Int) + c by omega]; exact Evl.Ex.new ht _ _ (Evl.Ex.new hp _ _ upd_same)⟩ upd_same
end
end K17
set_option maxHeartbeats 4000000
namespace K17
open PySem PySem.Spec PyProof.Rows L2
theorem exb_mut {r l : Addr} {H H' : Hp} {o : HO} (e : Exb r H H') (h : H l = none) : Exb r H (upd H' l o) := fun b u n hb => by rw [upd_ne (ne_of_none hb h)]; exact e b u n hb
theorem HisAt.keep {CH : Addr} {H H' : Hp} {h : Addr} {f : List Int} {scs : List (List Step)} (a : HisAt CH H h f scs) (e1 : ∀ o, H h = some o → H' h = some o) (tp : ∀ a xs, H a = some (.tup xs) → H' a = some (.tup xs)) : HisAt CH H' h f scs := by
  obtain ⟨dx, pf, psa, ss, h1, h2, h3, h4⟩ := a
  exact ⟨dx, pf, psa, ss, e1 _ h1, tp _ _ h2, tp _ _ h3, paired_mono h4 fun _ _ z => z.mono tp⟩
/-- the step as the reader gives it -/
theorem StAt.pair {H : Hp} {v : V} {s : Step} (h : StAt H v s) (hc : ¬ code s = 2) : ∃ p z, v = .ref p ∧ H p = some (.tup [z, .int (cnt s)]) := h.count hc
section
variable {w : World} {K : PySem.W.Frag} {mg : Str → Option Value} {base : Heap} {CE fI CH CR : Addr}
abbrev s_HistoryReaderstep : Stmt := inClass (top 21) 4
theorem sc_HistoryReaderstep : FnScope ["self", "before", "left", "begin", "code", "count"] ["self", "before", "left"] (defScope s_HistoryReaderstep) := ⟨rfl, rfl, rfl, by decide +kernel, rfl, by decide +kernel, by decide +kernel⟩
def spRStep (CE CR : Addr) : Sp := fun vs H Q E => ∃ (r a : Addr) (os : List Int) (n : Nat) (before left : Int), vs = [.ref r, .int before, .int left] ∧ RdrAt CR H r a n ∧ H a = some (.lst (iL os)) ∧ Oct os ∧ os.length ≤ 100000 ∧ n ≤ 100000 ∧ 0 ≤ left ∧
  (∀ s b, stp os n before left = .ok s b → ∀ (p : Addr) (v : V) (H' : Hp), Exb r H H' → RdrAt CR H' r a b → H' p = some (.tup [.int (code s), v]) → StAt H' v s → Q (.ref p) H') ∧ ∀ p, stp os n before left = .bad p → Bad CE E p
theorem can_rstep (B : Bl mg) (TE : EncTxt K mg CE fI) (rC : RdrC K CR) (D : DfM K CR "_step" "HistoryReader._step" s_HistoryReaderstep) (hblk : CanM w K mg base (L2.CX prog17 w) 1 CR "block" ["self", "count"] (spBlock CE CR))
    (hpos : CanM w K mg base (L2.CX prog17 w) 3 CR "positive" ["self"] (spPositive CE CR)) : CanM w K mg base (L2.CX prog17 w) 4 CR "_step" ["self", "before", "left"] (spRStep CE CR) := by
  obtain ⟨f, fd, M, F⟩ := D
  obtain ⟨f_block, d_block, M_block, b_block, G_block⟩ := hblk
  obtain ⟨f_positive, d_positive, M_positive, b_positive, G_positive⟩ := hpos
  have clR := rC.cls
  refine ⟨f, fd, M, F.binds fun _ _ _ _ _ _ us hl => match us, hl with | [_, _, _], _ => rfl, F.okX sc_HistoryReaderstep (fun vs H Q E h => ?_) (fun cdv A outer s H vs Q E hr h => ?_)⟩
  · obtain ⟨r, a, os, n, before, left, rfl, _⟩ := h
    rfl
  · obtain ⟨r, a, os, n, before, left, rfl, ⟨dx, hR⟩, hA, hO, hz, hn, hl, qs, qb⟩ := h
    refine ⟨_, (pss_cons (ps_set (i := 3) sc_HistoryReaderstep.nd rfl (Or.inl rfl) (pe_fld (pv 0) rfl))
    (pss_cons (ps_set (i := 4) sc_HistoryReaderstep.nd rfl (Or.inl rfl) (pe_ix ix_tup (pe_meth (pv 0) clR M_block G_block (hr.mono (by decide)) b_block .nil passE (by exact (pa_cons pe_int pa_nil))) pe_int (fun _ _ => rfl)))
    (pss_cons (ps_if (PW.pt (pw_or (pt_cmpR op_gt (pv 4) (pe_glob (v := .int 2) rfl B.ADD.choose_spec ⟨_, rfl⟩) (nomark _)) (pw_or (pt_cmpR op_eq (pv 4) (pv 1) (nomark _)) (pw_or1 (PW.pt (pw_and (pt_cmpR op_eq (pv 4) (pe_glob (v := .int 1) rfl B.DROP.choose_spec ⟨_, rfl⟩) (nomark _)) (pw_and1 (pt_cmpR op_eq (pv 1) (pe_glob (v := .int 2) rfl B.ADD.choose_spec ⟨_, rfl⟩) (nomark _))))))))) (pss_one (ps_raiseE rfl rfl TE hr (takes_of rfl rfl rfl rfl) (by exact (pa_cons (pv 3) pa_nil)))) pss_nil)
    (pss_cons (ps_set (i := 5) sc_HistoryReaderstep.nd rfl (Or.inl rfl) (pe_meth0 (pv 0) clR M_positive G_positive (hr.mono (by decide)) b_positive .nil passE))
    (pss_cons (ps_if (pt_cmpR op_eq (pv 4) (pe_glob (v := .int 2) rfl B.ADD.choose_spec ⟨_, rfl⟩) (nomark _)) (pss_one (ps_ret (pe_tup (pa_cons (pv 4) (pa_cons (pe_tup (pa_cons pe_str (pa_cons (pe_meth (pv 0) clR M_block G_block (hr.mono (by decide)) b_block .nil passE (by exact (pa_cons (pv 5) pa_nil))) pa_nil))) pa_nil))))) pss_nil)
    (pss_cons (ps_if (pt_cmpR op_gt (pv 5) (pv 2) (nomark _)) (pss_one (ps_raiseE rfl rfl TE hr (takes_of rfl rfl rfl rfl) (by exact (pa_cons (pv 3) pa_nil)))) pss_nil)
    (pss_one (ps_ret (pe_tup (pa_cons (pv 4) (pa_cons (pe_tup (pa_cons (pe_ifExp (pt_cmpR op_eq (pv 4) (pe_glob (v := .int 0) rfl B.KEEP.choose_spec ⟨_, rfl⟩) (nomark _)) pe_str pe_str) (pa_cons (pv 5) pa_nil))) pa_nil))))))))))), ?_⟩
    refine ⟨_, rfl, r, CR, dx, _, _, rfl, hR, rC.cls, rC.at_, look2 neAO, _, rfl, r, dx, _, rfl, hR, rfl, r, a, os, n, 1, rfl, ⟨dx, hR⟩, hA, hz, fun k t H1 e1 hr1 ht => ?_, fun k => qb os.length ?_⟩
    · obtain ⟨o, ho⟩ : ∃ o, os[n]? = some o := ⟨os[n]'(by omega), List.getElem?_eq_getElem _⟩
      have hb := hO.get ho
      have hA1 := e1 _ _ (RdrAt.ne ⟨dx, hR⟩ hA) hA
      rw [drop_at ho] at ht
      refine ⟨t, _, 0, _, rfl, rfl, SqT.of ht, at_int (j := 0) rfl rfl, ?_⟩
      by_cases c1 : o > 2 ∨ o = before ∨ (o = 1 ∧ before = 2)
      · -- the kind is refused
        have ev : stp os n before left = .bad n := by unfold stp; rw [ho]; exact if_pos c1
        refine' cutP (fun hR => ?main) ?rest
        case main =>
          refine ⟨_, rfl, _, _, rfl, rfl, _, rfl, if2 (fun h => iteT hR) (fun h1 => ⟨_, rfl, _, rfl, rfl, _, rfl, if2 (fun h => iteT hR) (fun h2 => ⟨_, rfl, rfl, _, rfl, ?_⟩)⟩)⟩
          have c2 : o = 1 ∧ before = 2 := by
            rcases c1 with h | h | h
            · exact absurd h h1
            · exact absurd (congrArg V.int h) h2
            · exact h
          exact ifD (congrArg V.int c2.1) ⟨_, rfl, rfl, _, rfl, ifD (congrArg V.int c2.2) hR⟩
        case rest =>
          exact ⟨_, rfl, _, rfl, log_nat hn, fun d hd => qb n ev d _ upd_same⟩
      · refine' cutP (fun hR => ?main) ?rest
        case main =>
          refine ⟨_, rfl, _, _, rfl, rfl, _, rfl, ifN (fun h => c1 (.inl h)) ⟨_, rfl, _, rfl, rfl, _, rfl, ifN (fun h => c1 (.inr (.inl (V.int.inj h)))) ⟨_, rfl, rfl, _, rfl, if2 (fun h => ?_) (fun h => iteF hR)⟩⟩⟩
          exact ⟨_, rfl, rfl, _, rfl, ifN (fun h2 => c1 (.inr (.inr ⟨V.int.inj h, V.int.inj h2⟩))) hR⟩
        case rest =>
          obtain ⟨dx1, hR1⟩ := hr1
          refine ⟨_, rfl, r, dx1, _, rfl, hR1, rfl, r, a, os, n + 1, rfl, ⟨dx1, hR1⟩, hA1, hO, hz, by omega, fun m b hm H2 e2 hr2 => ?_, fun p hp => qb p ?_⟩
          · obtain ⟨d, h1, h2, h3, h4, h5, h6⟩ := ps_ok hO hm
            subst h1
            have hA2 := e2 _ _ (RdrAt.ne ⟨dx1, hR1⟩ hA1) hA1
            have ev : stp os n before left = (if o = 2 then (if (b : Int) + (d : Int) > os.length then .bad os.length else .ok (.add ((os.drop b).take (d : Int).toNat)) (b + (d : Int).toNat)) else if (d : Int) > left then .bad n else .ok (if o = 0 then .keep d else .drop d) b) := by
              unfold stp; rw [ho]; dsimp only; rw [if_neg c1, hm]
            rw [show (d : Int).toNat = d by omega] at ev
            refine ⟨_, rfl, rfl, _, rfl, ?_⟩
            by_cases c2 : o = 2
            · rw [if_pos c2] at ev
              obtain ⟨dx2, hR2⟩ := hr2
              refine ifD (congrArg V.int c2) ⟨_, rfl, _, rfl, r, dx2, _, rfl, hR2, rfl, _, rfl, r, a, os, b, d, rfl, ⟨dx2, hR2⟩, hA2, hz, fun k3 t3 H3 e3 hr3 ht3 => ?_, fun k3 => qb os.length (by rw [ev, if_pos k3])⟩
              rw [if_neg (by omega)] at ev
              refine ⟨(by show 2 ≤ sizeLine; decide), fun p4 hp4 => ⟨(by show 2 ≤ sizeLine; decide), fun p5 hp5 => ?_⟩⟩
              have e45 := (Evl.Ex.new (o := .tup [.str "add", .ref t3]) hp4).trans (Evl.Ex.new (o := .tup [.int o, .ref p4]) hp5)
              exact qs _ _ ev p5 (.ref p4) _ (((e1.trans e2).trans e3).trans (Exb.of e45)) (hr3.mono e45) (by rw [upd_same, c2]; rfl) ⟨p4, t3, rfl, Evl.Ex.new hp5 _ _ upd_same, e45 _ _ ht3⟩
            · rw [if_neg c2] at ev
              refine ifN (fun z => c2 (V.int.inj z)) ⟨_, rfl, _, rfl, _, _, rfl, rfl, _, rfl, ?_⟩
              by_cases c3 : (d : Int) > left
              · rw [if_pos c3] at ev
                exact ifD c3 ⟨_, rfl, _, rfl, log_nat hn, fun d hd => qb n ev d _ upd_same⟩
              · rw [if_neg c3] at ev
                refine ifN c3 ⟨_, rfl, _, rfl, rfl, _, rfl, ?_⟩
                by_cases c4 : o = 0
                · rw [if_pos c4] at ev
                  refine ifD (congrArg V.int c4) ⟨_, rfl, (by show 2 ≤ sizeLine; decide), fun p4 hp4 => ⟨(by show 2 ≤ sizeLine; decide), fun p5 hp5 => ?_⟩⟩
                  have e45 := (Evl.Ex.new (o := .tup [.str "keep", .int d]) hp4).trans (Evl.Ex.new (o := .tup [.int o, .ref p4]) hp5)
                  exact qs _ _ ev p5 (.ref p4) _ ((e1.trans e2).trans (Exb.of e45)) (hr2.mono e45) (by rw [upd_same, c4]; rfl) ⟨p4, rfl, Evl.Ex.new hp5 _ _ upd_same⟩
                · rw [if_neg c4] at ev
                  have c5 : o = 1 := by omega
                  refine ifN (fun z => c4 (V.int.inj z)) ⟨_, rfl, (by show 2 ≤ sizeLine; decide), fun p4 hp4 => ⟨(by show 2 ≤ sizeLine; decide), fun p5 hp5 => ?_⟩⟩
                  have e45 := (Evl.Ex.new (o := .tup [.str "drop", .int d]) hp4).trans (Evl.Ex.new (o := .tup [.int o, .ref p4]) hp5)
                  exact qs _ _ ev p5 (.ref p4) _ ((e1.trans e2).trans (Exb.of e45)) (hr2.mono e45) (by rw [upd_same, c5]; rfl) ⟨p4, rfl, Evl.Ex.new hp5 _ _ upd_same⟩
          · unfold stp; rw [ho]; dsimp only; rw [if_neg c1, hp]
    · unfold stp
      rw [List.getElem?_eq_none (by omega)]
/-! ### script -/
abbrev s_HistoryReader_script : Stmt := inClass (top 21) 5
theorem sc_HistoryReader_script : FnScope ["self", "size", "steps", "before", "left", "_", "step"] ["self", "size"] (defScope s_HistoryReader_script) := ⟨rfl, rfl, rfl, by decide +kernel, rfl, by decide +kernel, by decide +kernel⟩
def spRScr (CE CR : Addr) : Sp := fun vs H Q E => ∃ (r a : Addr) (os : List Int) (n : Nat) (size : Int), vs = [.ref r, .int size] ∧ RdrAt CR H r a n ∧ H a = some (.lst (iL os)) ∧ Oct os ∧ os.length ≤ 100000 ∧ n ≤ 100000 ∧ 0 ≤ size ∧
  (∀ st b, scr os n size = .ok st b → ∀ (l : Addr) (ws : List V) (H' : Hp), Exb r H H' → RdrAt CR H' r a b → H' l = some (.lst ws) → Sts H' ws st → Q (.ref l) H') ∧ ∀ p, scr os n size = .bad p → Bad CE E p
theorem can_rscr (B : Bl mg) (TE : EncTxt K mg CE fI) (rC : RdrC K CR) (D : DfM K CR "script" "HistoryReader.script" s_HistoryReader_script) (hnum : CanM w K mg base (L2.CX prog17 w) 2 CR "number" ["self"] (spNumber CE CR))
    (hst : CanM w K mg base (L2.CX prog17 w) 4 CR "_step" ["self", "before", "left"] (spRStep CE CR)) : CanM w K mg base (L2.CX prog17 w) 5 CR "script" ["self", "size"] (spRScr CE CR) := by
  obtain ⟨f, fd, M, F⟩ := D
  obtain ⟨f_number, d_number, M_number, b_number, G_number⟩ := hnum
  obtain ⟨f_step, d_step, M_step, b_step, G_step⟩ := hst
  have clR := rC.cls
  refine ⟨f, fd, M, F.binds fun _ _ _ _ _ _ us hl => match us, hl with | [_, _], _ => rfl, F.okX sc_HistoryReader_script (fun vs H Q E h => ?_) (fun cdv A outer s H vs Q E hr h => ?_)⟩
  · obtain ⟨r, a, os, n, size, rfl, _⟩ := h
    rfl
  · obtain ⟨r, a, os, n, size, rfl, ⟨dx, hR⟩, hA, hO, hz, hn, hsz, qs, qb⟩ := h
    refine ⟨_, (pss_cons (ps_set (i := 2) sc_HistoryReader_script.nd rfl (Or.inl rfl) (pe_lst pa_nil))
    (pss_cons (ps_set (i := 3) sc_HistoryReader_script.nd rfl (Or.inl rfl) (pe_un un_neg pe_int))
    (pss_cons (ps_set (i := 4) sc_HistoryReader_script.nd rfl (Or.inl rfl) (pv 1))
    (pss_cons (ps_for ownE rfl (pi_range1 (by rfl) B.range_ (pa_cons (pe_meth0 (pv 0) clR M_number G_number (hr.mono (by decide)) b_number .nil passE) pa_nil)) (pg_name (i := 5) sc_HistoryReader_script.nd rfl (Or.inl rfl))
    (pss_cons (ps_asg (pe_meth (pv 0) clR M_step G_step (hr.mono (by decide)) b_step .nil passE (by exact (pa_cons (pv 3) (pa_cons (pv 4) pa_nil)))) (pg_tup rfl (pgs_cons (pg_name (i := 3) sc_HistoryReader_script.nd rfl (Or.inl rfl)) (pgs_cons (pg_name (i := 6) sc_HistoryReader_script.nd rfl (Or.inl rfl)) pgs_nil))))
    (pss_cons (ps_if (pt_cmpR op_ne (pv 3) (pe_glob (v := .int 2) rfl B.ADD.choose_spec ⟨_, rfl⟩) (nomark _)) (pss_one (ps_aug (i := 4) sc_HistoryReader_script.nd rfl (Or.inl rfl) (pe_ix ix_tup (pv 6) pe_int (fun _ _ => rfl)) ip_sub)) pss_nil)
    (pss_one (ps_expr (pe_bm PySem.F.plainAttrs_list PySem.F.slot_list_append PySem.F.type_list_append mt_append (pv 2) (pa_cons (pv 6) pa_nil)))))))
    (pss_cons (ps_if (pt_cmpR op_gt (pv 4) pe_int (nomark _)) (pss_one (ps_raiseE rfl rfl TE hr (takes_of rfl rfl rfl rfl) (by exact (pa_cons (pe_fld (pv 0) rfl) pa_nil)))) pss_nil)
    (pss_one (ps_ret (pv 2)))))))), ?_⟩
    refine ⟨sz0, fun l hl => ⟨_, rfl, _, rfl, ?_⟩⟩
    have har : a ≠ r := RdrAt.ne ⟨dx, hR⟩ hA
    have hlr : l ≠ r := fun z => by rw [z, hR] at hl; cases hl
    have e0 := Evl.Ex.new (o := .lst []) hl
    have hR0 := e0 _ _ hR
    refine ⟨_, rfl, r, dx, _, rfl, hR0, rfl, r, a, os, n, rfl, ⟨dx, hR0⟩, e0 _ _ hA, hO, hz, hn, fun m b hm H1 e1 hr1 => ?_, fun p hp => qb p ?_⟩
    · obtain ⟨d, h1, h2, h3, h4, h5⟩ := rd_ok hO hm
      subst h1
      have ev : scr os n size = scF os d b (-1) size [] := by unfold scr; rw [hm]; rfl
      refine ⟨_, rfl, (by show -(2 ^ 62) ≤ (d : Int); omega), (by show (d : Int) < 2 ^ 62; omega), ?_⟩
      refine for_range (lo := 0) (n := (d : Int).toNat) (fun i σ H' => ∃ (a' : Nat) (bf lf : Int) (ws : List V) (acc : List Step) (k : Nat) (v5 v6 : Option V), σ = [some (.ref r), some (.int size), some (.ref l), some (.int bf), some (.int lf), v5, v6] ∧
        Exb r H H' ∧ RdrAt CR H' r a a' ∧ H' l = some (.lst ws) ∧ Sts H' ws acc ∧ i + k = d ∧ scr os n size = scF os k a' bf lf acc ∧ 0 ≤ lf ∧ a' ≤ os.length ∧ acc.length ≤ a')
        ⟨b, -1, size, [], [], d, none, none, rfl, (Exb.of e0).trans e1, hr1, e1 _ _ hlr upd_same, .nil, by omega, ev, hsz, h5, Nat.zero_le _⟩ ?_ ?_
      · rintro i σ H' hi ⟨a', bf, lf, ws, acc, k, v5, v6, rfl, e, ⟨dx', hR'⟩, hL, hS, hk, hsc, hlf, ha', hacc⟩
        obtain ⟨k', rfl⟩ : ∃ k', k = k' + 1 := ⟨k - 1, by omega⟩
        rw [scF] at hsc
        have hA' := e _ _ har hA
        have hwl := paired_len hS
        refine ⟨_, rfl, r, dx', _, rfl, hR', rfl, _, rfl, _, rfl, r, a, os, a', bf, lf, rfl, ⟨dx', hR'⟩, hA', hO, hz, by omega, hlf, fun s b' hs p2 v H2 e2 hr2 hp2 hv => ?_, fun z hbad => qb z ?_⟩
        · rw [hs] at hsc
          obtain ⟨k1, k2, k3, k4, k5, k6⟩ := stp_ok hO hlf hs
          have hcn := k4.cnt
          obtain ⟨pv, rfl⟩ := hv.addr
          have hL2 := e2 _ _ hlr hL
          have tp2 := RdrAt.tp ⟨dx', hR'⟩ e2
          refine ⟨p2, _, rfl, SqT.of hp2, rfl, _, _, rfl, _, _, rfl, rfl, ?_⟩
          have fit : ws.length < sizeLine := fitsL (by rw [hwl]; omega)
          have eb : Exb l H2 (upd H2 l (.lst (ws ++ [.ref pv]))) := Exb.upd
          have tp := exb_lst eb hL2
          have hr3 : RdrAt CR (upd H2 l (.lst (ws ++ [.ref pv]))) r a b' := by
            obtain ⟨dx2, hR2⟩ := hr2
            exact ⟨dx2, by rw [upd_ne (Ne.symm hlr)]; exact hR2⟩
          have fin : ∀ (v5 : Option V), ∃ (a'' : Nat) (bf lf' : Int) (ws' : List V) (acc' : List Step) (k : Nat) (v5' v6' : Option V), [some (V.ref r), some (V.int size), some (V.ref l), some (V.int (code s)), some (V.int (lf - cnt s)), v5, some (V.ref pv)] = [some (.ref r), some (.int size), some (.ref l), some (.int bf), some (.int lf'), v5', v6'] ∧
              Exb r H (upd H2 l (.lst (ws ++ [.ref pv]))) ∧ RdrAt CR (upd H2 l (.lst (ws ++ [.ref pv]))) r a a'' ∧ upd H2 l (.lst (ws ++ [.ref pv])) l = some (.lst ws') ∧ Sts (upd H2 l (.lst (ws ++ [.ref pv]))) ws' acc' ∧ i + 1 + k = d ∧ scr os n size = scF os k a'' bf lf' acc' ∧ 0 ≤ lf' ∧ a'' ≤ os.length ∧ acc'.length ≤ a'' := fun v5 =>
            ⟨b', _, _, _, acc ++ [s], k', _, _, rfl, exb_mut (e.trans e2) hl, hr3, upd_same, Sts.mono tp (paired_snoc (Sts.mono tp2 hS) hv), by omega, hsc, by omega, k3, by rw [List.length_append]; show acc.length + 1 ≤ b'; omega⟩
          by_cases c : code s = 2
          · refine ⟨_, rfl, rfl, _, rfl, ?_⟩
            rw [show decide (V.int (code s) = V.int 2) = true from decide_eq_true (congrArg V.int c)]
            have f1 := fin (some (V.int (0 + (i : Int))))
            rw [cnt_add c, show lf - 0 = lf by omega] at f1
            exact iteF ⟨_, rfl, .inl ⟨rfl, _, SqL.of hL2⟩, _, rfl, l, _, _, rfl, rfl, hL2, fit, f1⟩
          · refine ⟨_, rfl, rfl, _, rfl, ?_⟩
            rw [show decide (V.int (code s) = V.int 2) = false from decide_eq_false (fun z => c (V.int.inj z))]
            obtain ⟨p3, z3, hp3, h3⟩ := hv.count c
            cases hp3
            exact iteT ⟨_, rfl, _, rfl, _, _, _, _, rfl, rfl, SqT.of h3, at_of (j := 1) rfl rfl, _, _, rfl, rfl, _, rfl, .inl ⟨rfl, _, SqL.of hL2⟩, _, rfl, l, _, _, rfl, rfl, hL2, fit, fin _⟩
        · rw [hbad] at hsc
          exact hsc
      · rintro σ H' ⟨a', bf, lf, ws, acc, k, v5, v6, rfl, e, ⟨dx', hR'⟩, hL, hS, hk, hsc, hlf, ha', hacc⟩
        obtain rfl : k = 0 := by omega
        rw [scF] at hsc
        refine ⟨_, rfl, _, _, rfl, rfl, _, rfl, if2 (fun c => ?_) (fun c => ?_)⟩
        · rw [if_pos c] at hsc
          exact ⟨_, rfl, r, CR, dx', _, _, rfl, hR', rC.cls, rC.at_, look2 neAO, _, rfl, log_nat (by omega), fun d hd => qb _ hsc d _ upd_same⟩
        · rw [if_neg c] at hsc
          exact ⟨_, rfl, qs _ _ hsc l ws H' e ⟨dx', hR'⟩ hL hS⟩
    · unfold scr; rw [hp]
end
end K17
set_option maxHeartbeats 4000000
namespace K17
open PySem PySem.Spec PyProof.Rows L2
section
variable {w : World} {K : PySem.W.Frag} {mg : Str → Option Value} {base : Heap} {CE fI CH CR : Addr}
abbrev s_decode_history : Stmt := top 22
theorem sc_decode_history : FnScope ["octets", "reader", "count", "history", "size", "_", "script", "kind", "part"] ["octets"] (defScope s_decode_history) := ⟨rfl, rfl, rfl, by decide +kernel, rfl, by decide +kernel, by decide +kernel⟩
def spDec (CE CH : Addr) : Sp := fun vs H Q E => ∃ (a : Addr) (os : List Int), vs = [.ref a] ∧ H a = some (.lst (iL os)) ∧ Oct os ∧ os.length ≤ 100000 ∧
  (∀ f scs, his os = .ok f scs → ∀ (h : Addr) (H' : Hp), Ex H H' → HisAt CH H' h f scs → Q (.ref h) H') ∧ ∀ p, his os = .bad p → Bad CE E p
theorem can_dec (B : Bl mg) (TE : EncTxt K mg CE fI) (hC : HisC K CH) (rC : RdrC K CR) (gH : mg "History" = some (.ref CH)) (gR : mg "HistoryReader" = some (.ref CR)) (D : Df K mg "decode_history" s_decode_history)
    (hri : CanI w K mg base CX0 1 CR ["self", "octets"] (spRInit CR)) (hhi : CanI w K mg base CX0 1 CH ["self", "octets"] (spHInit CH)) (hext : CanM w K mg base CX0 1 CH "extend_by" ["self", "script"] (spExt CH))
    (hpos : CanM w K mg base (L2.CX prog17 w) 3 CR "positive" ["self"] (spPositive CE CR)) (hnum : CanM w K mg base (L2.CX prog17 w) 2 CR "number" ["self"] (spNumber CE CR)) (hblk : CanM w K mg base (L2.CX prog17 w) 1 CR "block" ["self", "count"] (spBlock CE CR))
    (hscr : CanM w K mg base (L2.CX prog17 w) 5 CR "script" ["self", "size"] (spRScr CE CR)) : Can w K mg base (L2.CX prog17 w) 6 "decode_history" ["octets"] (spDec CE CH) := by
  obtain ⟨f, fd, g, F⟩ := D
  obtain ⟨f_initR, d_initR, M_HistoryReader, b_initHistoryReader, G_initHistoryReader⟩ := hri
  obtain ⟨f_initH, d_initH, M_History, b_initHistory, G_initHistory⟩ := hhi
  obtain ⟨f_extend_by, d_extend_by, M_extend_by, b_extend_by, G_extend_by⟩ := hext
  obtain ⟨f_positive, d_positive, M_positive, b_positive, G_positive⟩ := hpos
  obtain ⟨f_number, d_number, M_number, b_number, G_number⟩ := hnum
  obtain ⟨f_block, d_block, M_block, b_block, G_block⟩ := hblk
  obtain ⟨f_script, d_script, M_script, b_script, G_script⟩ := hscr
  have clR := rC.cls
  have clH := hC.cls
  have g_History := gH
  have g_HistoryReader := gR
  refine ⟨f, fd, g, F.kp, F.binds fun _ _ _ _ _ _ us hl => match us, hl with | [_], _ => rfl, F.okX sc_decode_history (fun vs H Q E h => ?_) (fun cdv A outer s H vs Q E hr h => ?_)⟩
  · obtain ⟨a, os, rfl, _⟩ := h
    rfl
  · obtain ⟨a, os, rfl, hA, hO, hz, qs, qb⟩ := h
    refine ⟨_, (pss_cons (ps_set (i := 1) sc_decode_history.nd rfl (Or.inl rfl) (pe_make M_HistoryReader G_initHistoryReader (hr.mono (by decide)) rfl g_HistoryReader b_initHistoryReader .nil pass0 (by exact (pa_cons (pv 0) pa_nil))))
    (pss_cons (ps_set (i := 2) sc_decode_history.nd rfl (Or.inl rfl) (pe_meth0 (pv 1) clR M_positive G_positive (hr.mono (by decide)) b_positive .nil passE))
    (pss_cons (ps_set (i := 3) sc_decode_history.nd rfl (Or.inl rfl) (pe_make M_History G_initHistory (hr.mono (by decide)) rfl g_History b_initHistory .nil pass0 (by exact (pa_cons (pe_meth (pv 1) clR M_block G_block (hr.mono (by decide)) b_block .nil passE (by exact (pa_cons (pe_meth0 (pv 1) clR M_number G_number (hr.mono (by decide)) b_number .nil passE) pa_nil))) pa_nil))))
    (pss_cons (ps_set (i := 4) sc_decode_history.nd rfl (Or.inl rfl) (pe_callB call_len_seq (by rfl) B.len_ (by decide +kernel) (pa_cons (pe_fld (pv 3) rfl) pa_nil)))
    (pss_cons (ps_for ownE rfl (pi_range1 (by rfl) B.range_ (pa_cons (pe_op op_sub (pv 2) pe_int) pa_nil)) (pg_name (i := 5) sc_decode_history.nd rfl (Or.inl rfl))
    (pss_cons (ps_set (i := 6) sc_decode_history.nd rfl (Or.inl rfl) (pe_meth (pv 1) clR M_script G_script (hr.mono (by decide)) b_script .nil passE (by exact (pa_cons (pv 4) pa_nil))))
    (pss_cons (ps_for ownE rfl (pi_list (pv 6)) (pg_tup rfl (pgs_cons (pg_name (i := 7) sc_decode_history.nd rfl (Or.inl rfl)) (pgs_cons (pg_name (i := 8) sc_decode_history.nd rfl (Or.inl rfl)) pgs_nil)))
    (pss_one (ps_if (pt_cmpR op_eq (pv 7) pe_str (nomark _)) (pss_one (ps_aug (i := 4) sc_decode_history.nd rfl (Or.inl rfl) (pv 8) ip_sub)) (pss_one (ps_if (pt_cmpR op_eq (pv 7) pe_str (nomark _)) (pss_one (ps_aug (i := 4) sc_decode_history.nd rfl (Or.inl rfl) (pe_callB call_len_seq (by rfl) B.len_ (by decide +kernel) (pa_cons (pv 8) pa_nil)) ip_add)) pss_nil)))))
    (pss_one (ps_expr (pe_meth (pv 3) clH M_extend_by G_extend_by (hr.mono (by decide)) b_extend_by .nil pass0 (by exact (pa_cons (pv 6) pa_nil))))))))
    (pss_cons (ps_if (pt_cmpR op_lt (pe_fld (pv 1) rfl) (pe_callB call_len_seq (by rfl) B.len_ (by decide +kernel) (pa_cons (pv 0) pa_nil)) (nomark _)) (pss_one (ps_raiseE rfl rfl TE hr (takes_of rfl rfl rfl rfl) (by exact (pa_cons (pe_fld (pv 1) rfl) pa_nil)))) pss_nil)
    (pss_one (ps_ret (pv 3))))))))), ?_⟩
    refine ⟨_, rfl, fun r rdx hr0 hrd hne => ⟨r, a, rdx, rfl, upd_same, fun H1 e1 hr1 => ⟨rfl, ?_⟩⟩⟩
    have hr0' : H r = none := hr0
    have er : Ex H H1 := fun b o hb => e1 b o (ne_of_none hb hr0) (by rw [upd_ne (ne_of_none hb hr0), upd_ne (ne_of_none hb hrd)]; exact hb)
    obtain ⟨dx1, hR1⟩ := hr1
    have hA1 := er _ _ hA
    refine ⟨_, rfl, r, dx1, _, rfl, hR1, rfl, r, a, os, 0, rfl, ⟨dx1, hR1⟩, hA1, hO, hz, by omega, fun m b hm H2 e2 hr2 => ?_, fun p hp => qb p ?_⟩
    · obtain ⟨d, h1, h2, h3, h4, h5, h6⟩ := ps_ok hO hm
      subst h1
      obtain ⟨dx2, hR2⟩ := hr2
      have hA2 := e2 _ _ (RdrAt.ne ⟨dx1, hR1⟩ hA1) hA1
      refine ⟨_, rfl, r, dx2, _, rfl, hR2, rfl, _, rfl, r, dx2, _, rfl, hR2, rfl, r, a, os, b, rfl, ⟨dx2, hR2⟩, hA2, hO, hz, by omega, fun m2 b2 hm2 H3 e3 hr3 => ?_, fun p hp => qb p ?_⟩
      · obtain ⟨m', g1, g2, g3, g4, g5⟩ := rd_ok hO hm2
        subst g1
        obtain ⟨dx3, hR3⟩ := hr3
        have hA3 := e3 _ _ (RdrAt.ne ⟨dx2, hR2⟩ hA2) hA2
        have ev : his os = (if (b2 : Int) + (m' : Int) > os.length then .bad os.length else hiF os ((os.drop b2).take (m' : Int).toNat) ((d : Int) - 1).toNat (b2 + (m' : Int).toNat) ((os.drop b2).take (m' : Int).toNat) []) := by unfold his; rw [hm]; dsimp only; rw [hm2]
        have em : (m' : Int).toNat = m' := by omega
        rw [em] at ev
        refine ⟨r, a, os, b2, m', rfl, ⟨dx3, hR3⟩, hA3, hz, fun c3 t H4 e4 hr4 ht4 => ?_, fun c3 => qb _ (by rw [ev, if_pos c3])⟩
        rw [if_neg (by omega)] at ev
        have hfl : ((os.drop b2).take m').length = m' := by rw [List.length_take, List.length_drop]; omega
        generalize hfg : (os.drop b2).take m' = fst at *
        obtain ⟨dx4, hR4⟩ := hr4
        refine fun h hdx hh0 hhd hhne => ⟨h, t, hdx, fst, rfl, upd_same, ?_, fun H5 e5 hh5 => ⟨rfl, ?_⟩⟩
        · rw [upd_ne (ne_of_none ht4 hh0), upd_ne (ne_of_none ht4 hhd)]
          exact ht4
        have er4 : Ex H H4 := Exb.fresh er hr0' ((e2.trans e3).trans e4)
        have eh : Ex H4 H5 := fun b o hb => e5 b o (ne_of_none hb hh0) (by rw [upd_ne (ne_of_none hb hh0), upd_ne (ne_of_none hb hhd)]; exact hb)
        have hh0' : H h = none := Evl.fresh_back er4 hh0
        have hrh : r ≠ h := fun z => by rw [← z, hR4] at hh0; cases hh0
        have er5 := er4.trans eh
        have hR5 := eh _ _ hR4
        obtain ⟨hdx5, pf5, psa5, ss5, k1, k2, k3, k4⟩ := hh5
        refine ⟨_, rfl, h, CH, hdx5, _, _, rfl, k1, hC.cls, hC.first, look1, _, _, rfl, .inr (SqT.of k2), _, rfl, _, _, rfl, rfl, _, rfl, (by show -(2 ^ 62) ≤ (d : Int) - 1; omega), (by show (d : Int) - 1 < 2 ^ 62; omega), ?_⟩
        have har : a ≠ r := RdrAt.ne ⟨_, hR5⟩ (er5 _ _ hA)
        refine for_range (lo := 0) (n := ((d : Int) - 1).toNat) (fun i σ H' => ∃ (a' : Nat) (acc : List (List Step)) (k : Nat) (v5 v6 v7 v8 : Option V), σ = [some (.ref a), some (.ref r), some (.int d), some (.ref h), some (.int (ver fst acc).length), v5, v6, v7, v8] ∧
          Ex H H' ∧ RdrAt CR H' r a a' ∧ HisAt CH H' h fst acc ∧ i + k = ((d : Int) - 1).toNat ∧ his os = hiF os fst k a' (ver fst acc) acc ∧ a' ≤ os.length ∧ acc.length ≤ a' ∧ (ver fst acc).length ≤ a')
          ⟨b2 + m', [], _, none, none, none, none, ?_, er5, ⟨_, hR5⟩, ⟨hdx5, pf5, psa5, ss5, k1, k2, k3, k4⟩, by omega, ev, by omega, Nat.zero_le _, by show fst.length ≤ _; omega⟩ ?_ ?_
        · rw [iL_len]; rfl
        · rintro i σ H' hi ⟨a', acc, k, v5, v6, v7, v8, rfl, e, ⟨dx', hR'⟩, hH', hk, hhi, ha', hacc, hver⟩
          obtain ⟨k', rfl⟩ : ∃ k', k = k' + 1 := ⟨k - 1, by omega⟩
          rw [hiF] at hhi
          have hA' := e _ _ hA
          refine ⟨_, rfl, r, dx', _, rfl, hR', rfl, _, rfl, r, a, os, a', _, rfl, ⟨dx', hR'⟩, hA', hO, hz, by omega, by omega, fun st b' hs l ws H6 e6 hr6 hl6 hS6 => ?_, fun z hbad => qb z ?_⟩
          · rw [hs] at hhi
            obtain ⟨q1, q2, q3, q4, q5⟩ := scr_ok hO (by omega) hs
            have hwl := paired_len hS6
            have e06 : Ex H H6 := Exb.fresh e hr0' e6
            obtain ⟨dx6, hR6⟩ := hr6
            have hH6 : HisAt CH H6 h fst acc := hH'.keep (fun o ho => e6 _ _ (Ne.symm hrh) ho) (RdrAt.tp ⟨dx', hR'⟩ e6)
            have hsz := ptc_size (old := ver fst acc) (st := st) (fun s hs => (q4.all s hs).cnt) q4.sum
            refine ⟨_, rfl, l, rfl, ⟨ws, SqL.of hl6⟩, for_list (K := K) (a := l) (xs := ws) (fun j σ H' => ∃ v7 v8 : Option V, σ = [some (.ref a), some (.ref r), some (.int d), some (.ref h), some (.int ((st.take j).foldl szF (ver fst acc).length)), some (.int (0 + (i : Int))), some (.ref l), v7, v8] ∧ H' = H6)
              ⟨v7, v8, rfl, rfl⟩ (fun j σ H' _ ⟨_, _, _, z⟩ => by rw [z]; exact SqL.of hl6) ?_ ?_⟩
            · rintro j y σ H7 hj ⟨v7, v8, rfl, rfl⟩
              obtain ⟨s, hs2, hy⟩ := paired_at hS6 hj
              have nx : (st.take (j + 1)).foldl szF (ver fst acc).length = szF ((st.take j).foldl szF (ver fst acc).length) s := by rw [take_next hs2, List.foldl_append]; rfl
              rw [nx]
              cases s with
              | drop n =>
                obtain ⟨pp, rfl, hp⟩ := hy
                exact ⟨pp, _, rfl, SqT.of hp, rfl, _, _, rfl, _, _, rfl, rfl, _, rfl, rfl, _, rfl, ifD rfl ⟨_, rfl, _, rfl, _, _, rfl, rfl, _, _, rfl, rfl⟩⟩
              | add xs =>
                obtain ⟨pp, q, rfl, hp, hq⟩ := hy
                refine ⟨pp, _, rfl, SqT.of hp, rfl, _, _, rfl, _, _, rfl, rfl, _, rfl, rfl, _, rfl, ifN adD ⟨_, rfl, rfl, _, rfl, ifD rfl ⟨_, rfl, _, rfl, _, _, rfl, .inr (SqT.of hq), _, _, rfl, rfl, some (.str "add"), some (.ref q), ?_, rfl⟩⟩⟩
                rw [iL_len]; rfl
              | keep n =>
                obtain ⟨pp, rfl, hp⟩ := hy
                exact ⟨pp, _, rfl, SqT.of hp, rfl, _, _, rfl, _, _, rfl, rfl, _, rfl, rfl, _, rfl, ifN kwD ⟨_, rfl, rfl, _, rfl, ifN kwA ⟨_, _, rfl, rfl⟩⟩⟩
            · rintro σ H7 ⟨v7, v8, rfl, rfl⟩
              rw [hwl, List.take_length, hsz, ← ver_more]
              obtain ⟨hdx6, pf6, psa6, ss6, m1, m2, m3, m4⟩ := hH6
              refine ⟨_, rfl, h, hdx6, _, rfl, m1, rfl, _, rfl, h, l, fst, acc, ws, st, rfl, ⟨hdx6, pf6, psa6, ss6, m1, m2, m3, m4⟩, hl6, hS6, by omega, fun H8 e8 hh8 => ?_⟩
              refine ⟨b', acc ++ [st], k', _, _, _, _, rfl, Exb.fresh e06 hh0' e8, ⟨dx6, e8 _ _ hrh hR6⟩, hh8, by omega, by rw [hhi, ver_more], q3, by rw [List.length_append]; show acc.length + 1 ≤ b'; omega, ?_⟩
              rw [ver_more]
              have := ptc_le (old := ver fst acc) (fun s hs => (q4.all s hs).cnt) q4.sum
              omega
          · rw [hbad] at hhi
            exact hhi
        · rintro σ H' ⟨a', acc, k, v5, v6, v7, v8, rfl, e, ⟨dx', hR'⟩, hH', hk, hhi, ha', hacc, hver⟩
          obtain rfl : k = 0 := by omega
          rw [hiF] at hhi
          have hA' := e _ _ hA
          refine ⟨_, rfl, r, CR, dx', _, _, rfl, hR', rC.cls, rC.at_, look2 neAO, _, rfl, _, _, rfl, .inl (SqL.of hA'), _, _, rfl, rfl, _, rfl, if2 (fun c => ?_) (fun c => ?_)⟩
          · rw [iL_len] at c
            rw [if_pos (by omega)] at hhi
            exact ⟨_, rfl, r, CR, dx', _, _, rfl, hR', rC.cls, rC.at_, look2 neAO, _, rfl, log_nat (by omega), fun d hd => qb _ hhi d _ upd_same⟩
          · rw [iL_len] at c
            rw [if_neg (by omega)] at hhi
            exact ⟨_, rfl, qs _ _ hhi h H' e hH'⟩
      · unfold his; rw [hm]; dsimp only; rw [hp]
    · unfold his; rw [hp]
end
end K17
set_option maxHeartbeats 4000000
namespace K17
open PySem PySem.Spec PyProof.Rows L2
theorem eqv_ints (l : List Int) : PyData.eqv (.list (l.map PyData.int)) (.list (l.map PyData.int)) = true := by
  show PyData.eqvAll (l.map PyData.int) (l.map PyData.int) = true
  induction l with
  | nil => rfl
  | cons a r ih =>
    show ((a == a) && PyData.eqvAll (r.map PyData.int) (r.map PyData.int)) = true
    rw [ih]; simp
/-- a def called within an except suite -/
def CanHot (w : World) (K : PySem.W.Frag) (mg : Str → Option Value) (base : Heap) (k : Nat) (x : Str) (ps : List Str) (sp : Sp) : Prop := ∃ f fd, mg x = some (.ref f) ∧ PySem.W.keepIn K (.ref f) = true ∧ Binds K fd ps [] ∧ FnHot prog17 w K mg base k f fd ps sp
section
variable {w : World} {K : PySem.W.Frag} {mg : Str → Option Value} {base : Heap} {CE fI CH CR : Addr}
theorem can_isint (B : Bl mg) (D : Df K mg "_law_is_int" s_law_is_int) : CanHot w K mg base 1 "_law_is_int" ["_law_value"] spIsInt := by
  obtain ⟨f, fd, g, F⟩ := D
  refine ⟨f, fd, g, F.kp, F.binds fun _ _ _ _ _ _ us hl => match us, hl with | [_], _ => rfl, Fun.okHot F sc_law_is_int (fun vs H Q E h => ?_) (fun cdv A outer s H vs Q h => ?_)⟩
  · obtain ⟨z, rfl, _⟩ := h
    rfl
  · obtain ⟨z, rfl, q⟩ := h
    refine ⟨_, (pss_one (ps_ret (pe_and (pe_callB call_isi (by rfl) B.isinstance_ (by decide +kernel) (pa_cons (pv 0) (pa_cons (pe_bltn (v := .ty "int") rfl B.int_ (by decide +kernel) rfl) pa_nil))) (pe_one (pe_not (pe_callB call_isi (by rfl) B.isinstance_ (by decide +kernel) (pa_cons (pv 0) (pa_cons (pe_bltn (v := .ty "bool") rfl B.bool_ (by decide +kernel) rfl) pa_nil)))))))), ?_⟩
    exact ⟨_, rfl, _, _, _, _, _, rfl, .ty "int", .base (.int z), kit_ty (by decide +kernel : _ = some true), _, rfl, ifT rfl ⟨_, rfl, _, _, _, _, _, rfl, .ty "bool", .base (.int z), kit_ty (by decide +kernel : _ = some false), _, rfl, q⟩⟩
end
end K17
set_option maxHeartbeats 4000000
namespace K17
open PySem PySem.Spec PyProof.Rows L2
section
variable {w : World} {K : PySem.W.Frag} {mg : Str → Option Value} {base : Heap} {CE fI CH CR : Addr}
abbrev s_law : Stmt := top 42
theorem sc_law : FnScope ["_law_script_here", "_law_versions", "_law_scripts", "_law_k", "_law_steps", "_law_octets", "_law_due", "_law_position", "_law_copy", "_law_actual", "e"] ["_law_script_here"] (defScope s_law) := ⟨rfl, rfl, rfl, by decide +kernel, rfl, by decide +kernel, by decide +kernel⟩
/-- the octets stand -/
def Mid17 (a : Addr) (H0 : Hp) (n : Nat) (σ : L2.St) (H : Hp) : Prop := ∃ (o : Addr) (os : List Int) (v1 v2 v3 v4 : Option V), σ = [some (.ref a), v1, v2, v3, v4, some (.ref o), none, none, none, none, none] ∧ Ex H0 H ∧ H o = some (.lst (iL os)) ∧ Oct os ∧ os.length ≤ n
def spLaw (K : PySem.W.Frag) : Sp := fun vs H Q _ => ∃ (a : Addr) (ns : List Int), vs = [.ref a] ∧ SqL K H a (iL ns) ∧ ∀ H', Q (.bl true) H'
/-- all items that scripts add -/
def tsum : List (List Step) → Nat
  | [] => 0
  | s :: r => asum s + tsum r
theorem tsum_app (a b : List (List Step)) : tsum (a ++ b) = tsum a + tsum b := by
  induction a with
  | nil => show tsum b = 0 + tsum b; omega
  | cons s r ih => show asum s + tsum (r ++ b) = asum s + tsum r + tsum b; rw [ih]; omega
theorem tsum_le (l : List (List Step)) : tsum l ≤ (l.flatMap eScr).length := by
  induction l with
  | nil => exact Nat.le_refl 0
  | cons s r ih =>
    have h := flat_len s
    rw [List.flatMap_cons, List.length_append]
    unfold eScr at ih ⊢
    rw [List.length_append]
    show asum s + tsum r ≤ _
    omega
theorem scs_len (l : List (List Step)) : l.length ≤ (l.flatMap eScr).length := by
  induction l with
  | nil => exact Nat.le_refl 0
  | cons s r ih =>
    have h := num_pos s.length
    rw [List.flatMap_cons, List.length_append, List.length_cons]
    unfold eScr at ih ⊢
    rw [List.length_append]
    omega
theorem ver_le : ∀ (scs : List (List Step)) (f : List Int), Chain f scs → (ver f scs).length ≤ f.length + tsum scs
  | [], f, _ => Nat.le_refl _
  | s :: r, f, h => by
    have h1 := ver_le r (ptc f s) h.2
    have h2 := ptc_le (old := f) (st := s) (fun x hx => (h.1.all x hx).cnt) h.1.sum
    show (ver (ptc f s) r).length ≤ f.length + (asum s + tsum r)
    omega
theorem chain_take : ∀ (scs : List (List Step)) (f : List Int) (i : Nat), Chain f scs → Chain f (scs.take i)
  | [], f, i, h => by rw [List.take_nil]; exact h
  | s :: r, f, 0, h => True.intro
  | s :: r, f, i + 1, h => ⟨h.1, chain_take r (ptc f s) i h.2⟩
theorem paired_memo {α β : Type} {F G : α → β → Prop} {l : List α} {m : List β} (h : Paired F l m) (e : ∀ x y, x ∈ l → F x y → G x y) : Paired G l m := by
  induction h with
  | nil => exact .nil
  | cons r _ ih => exact .cons (e _ _ List.mem_cons_self r) (ih fun x y hx => e x y (List.mem_cons_of_mem _ hx))
theorem his_fit {os : List Int} (ho : Oct os) (hz : os.length ≤ 100000) {f : List Int} {scs : List (List Step)} (h : his os = .ok f scs) :
    (∀ i st, scs[i]? = some st → Fit (ver f (scs.take i)) st) ∧ (∀ st ∈ scs, st.length < 34359738368 ∧ ∀ s ∈ st, SOk s) := by
  obtain ⟨h1, h2, h3, h4⟩ := his_ok ho h
  have hl : (eHis f scs).length = (num (scs.length + 1)).length + (num f.length).length + f.length + (scs.flatMap eScr).length := by
    unfold eHis
    rw [List.length_append, List.length_append, List.length_append]
  rw [← h1] at hl
  have ht := tsum_le scs
  refine ⟨fun i st hi => ?_, fun st hs => ?_⟩
  · have k := chain_at h2 hi
    have k2 := ver_le _ _ (chain_take scs f i h2)
    have k3 := tsum_app (scs.take (i + 1)) (scs.drop (i + 1))
    rw [List.take_append_drop, take_next hi, tsum_app] at k3
    have k4 : tsum [st] = asum st + 0 := rfl
    exact ⟨fun s hs => (k.all s hs).cnt, k.sum, by omega⟩
  · obtain ⟨i, hi⟩ := List.mem_iff_getElem?.mp hs
    have k := chain_at h2 hi
    exact ⟨k.len, k.all⟩
theorem ok_law (B : Bl mg) (TE : EncTxt K mg CE fI) (hC : HisC K CH) {f : Addr} {fd : FuncData} (F : L2.Fun K "law" "law" s_law f fd) (hcell : Can w K mg base CX0 1 "_law_cell" ["_law_script_here", "_law_k"] (spCell K)) (hit : Can w K mg base CX0 3 "_law_items" ["_law_cell_here", "_law_size"] spItems)
    (hsc : Can w K mg base CX0 4 "_law_script" ["_law_cells", "_law_old"] (spLScr K)) (hno : Can w K mg base CX0 2 "_law_normal" ["_law_script_here"] spNorm) (hpt : Can w K mg base CX0 1 "_law_patch" ["_law_old", "_law_script_here"] spLPatch)
    (hhi : Can w K mg base CX0 2 "_law_history" ["_law_versions", "_law_scripts"] spLHis) (hda : Can w K mg base CX0 1 "_law_damaged" ["_law_octets", "_law_cell_here"] spDam) (hrow : Can w K mg base CX0 2 "_law_row" ["_law_cell_here", "_law_count", "_law_bound"] spRow)
    (hth : Can w K mg base CX0 5 "_law_take_history" ["_law_octets"] spTHis) (hin : CanHot w K mg base 1 "_law_is_int" ["_law_value"] spIsInt) (hdec : Can w K mg base (L2.CX prog17 w) 6 "decode_history" ["octets"] (spDec CE CH))
    (henc : Can w K mg base CX0 3 "encode_history" ["history"] (spEnc CH)) (hlen : CanM w K mg base CX0 1 CH "__len__" ["self"] (spHLen CH)) (hver : CanM w K mg base CX0 2 CH "version" ["self", "number"] (spVer CH)) :
    FnOk prog17 w K mg base CX0 7 f fd ["_law_script_here"] (spLaw K) := by
  obtain ⟨f_law_cell, d_law_cell, g_law_cell, k_law_cell, b_law_cell, G_law_cell⟩ := hcell
  obtain ⟨f_law_items, d_law_items, g_law_items, k_law_items, b_law_items, G_law_items⟩ := hit
  obtain ⟨f_law_script, d_law_script, g_law_script, k_law_script, b_law_script, G_law_script⟩ := hsc
  obtain ⟨f_law_normal, d_law_normal, g_law_normal, k_law_normal, b_law_normal, G_law_normal⟩ := hno
  obtain ⟨f_law_patch, d_law_patch, g_law_patch, k_law_patch, b_law_patch, G_law_patch⟩ := hpt
  obtain ⟨f_law_history, d_law_history, g_law_history, k_law_history, b_law_history, G_law_history⟩ := hhi
  obtain ⟨f_law_damaged, d_law_damaged, g_law_damaged, k_law_damaged, b_law_damaged, G_law_damaged⟩ := hda
  obtain ⟨f_law_row, d_law_row, g_law_row, k_law_row, b_law_row, G_law_row⟩ := hrow
  obtain ⟨f_law_take_history, d_law_take_history, g_law_take_history, k_law_take_history, b_law_take_history, G_law_take_history⟩ := hth
  obtain ⟨f_law_is_int, d_law_is_int, g_law_is_int, k_law_is_int, b_law_is_int, G_law_is_int⟩ := hin
  obtain ⟨f_decode_history, d_decode_history, g_decode_history, k_decode_history, b_decode_history, G_decode_history⟩ := hdec
  obtain ⟨f_encode_history, d_encode_history, g_encode_history, k_encode_history, b_encode_history, G_encode_history⟩ := henc
  obtain ⟨f_len, d_len, M_len, b_len, G_len⟩ := hlen
  obtain ⟨f_version, d_version, M_version, b_version, G_version⟩ := hver
  have clH := hC.cls
  refine F.ok sc_law (fun vs H Q E h => ?_) (fun cdv A outer s H vs Q E hr h => ?_)
  · obtain ⟨a, ns, rfl, _⟩ := h
    rfl
  · obtain ⟨a, ns, rfl, hA, q⟩ := h
    have hu := hr.units
    refine ⟨_, (pss_cons (ps_set (i := 1) sc_law.nd rfl (Or.inl rfl) (pe_lst (pa_cons (pe_call G_law_items (hr.mono (by decide)) rfl g_law_items k_law_items b_law_items .nil pass0 (by exact (pa_cons (pe_call G_law_cell (hr.mono (by decide)) rfl g_law_cell k_law_cell b_law_cell .nil pass0 (by exact (pa_cons (pv 0) (pa_cons pe_int pa_nil)))) (pa_cons (pe_op op_mod (pe_call G_law_cell (hr.mono (by decide)) rfl g_law_cell k_law_cell b_law_cell .nil pass0 (by exact (pa_cons (pv 0) (pa_cons pe_int pa_nil)))) pe_int) pa_nil)))) pa_nil)))
    (pss_cons (ps_set (i := 2) sc_law.nd rfl (Or.inl rfl) (pe_lst pa_nil))
    (pss_cons (ps_for PassesOwn.never rfl (pi_range1 (by rfl) B.range_ (pa_cons (pe_op op_mod (pe_call G_law_cell (hr.mono (by decide)) rfl g_law_cell k_law_cell b_law_cell .nil pass0 (by exact (pa_cons (pv 0) (pa_cons pe_int pa_nil)))) pe_int) pa_nil)) (pg_name (i := 3) sc_law.nd rfl (Or.inl rfl))
    (pss_cons (ps_set (i := 4) sc_law.nd rfl (Or.inl rfl) (pe_call G_law_normal (hr.mono (by decide)) rfl g_law_normal k_law_normal b_law_normal .nil pass0 (by exact (pa_cons (pe_call G_law_script (hr.mono (by decide)) rfl g_law_script k_law_script b_law_script .nil pass0 (by exact (pa_cons (pe_slice sl_list (pv 0) (po_some (pe_op op_add pe_int (pe_op op_mul pe_int (pv 3)))) (po_some (pe_op op_add pe_int (pe_op op_mul pe_int (pv 3))))) (pa_cons (pe_ix ix_list (pv 1) (pe_un un_neg pe_int) (fun _ _ => rfl)) pa_nil)))) pa_nil))))
    (pss_cons (ps_expr (pe_bm PySem.F.plainAttrs_list PySem.F.slot_list_append PySem.F.type_list_append mt_append (pv 2) (pa_cons (pv 4) pa_nil)))
    (pss_one (ps_expr (pe_bm PySem.F.plainAttrs_list PySem.F.slot_list_append PySem.F.type_list_append mt_append (pv 1) (pa_cons (pe_call G_law_patch (hr.mono (by decide)) rfl g_law_patch k_law_patch b_law_patch .nil pass0 (by exact (pa_cons (pe_ix ix_list (pv 1) (pe_un un_neg pe_int) (fun _ _ => rfl)) (pa_cons (pv 4) pa_nil)))) pa_nil)))))))
    (Evl.pss_cut (ps_set (i := 5) sc_law.nd rfl (Or.inl rfl) (pe_call G_law_history (hr.mono (by decide)) rfl g_law_history k_law_history b_law_history .nil pass0 (by exact (pa_cons (pv 1) (pa_cons (pv 2) pa_nil)))))
    (Evl.pss_cut (ps_for PassesOwn.never rfl (pi_range1 (by rfl) B.range_ (pa_cons (pe_op op_mod (pe_op op_fdiv (pe_call G_law_cell (hr.mono (by decide)) rfl g_law_cell k_law_cell b_law_cell .nil pass0 (by exact (pa_cons (pv 0) (pa_cons pe_int pa_nil)))) pe_int) pe_int) pa_nil)) (pg_name (i := 3) sc_law.nd rfl (Or.inl rfl))
    (pss_one (ps_set (i := 5) sc_law.nd rfl (Or.inl rfl) (pe_call G_law_damaged (hr.mono (by decide)) rfl g_law_damaged k_law_damaged b_law_damaged .nil pass0 (by exact (pa_cons (pv 5) (pa_cons (pe_call G_law_cell (hr.mono (by decide)) rfl g_law_cell k_law_cell b_law_cell .nil pass0 (by exact (pa_cons (pv 0) (pa_cons (pe_op op_add pe_int (pv 3)) pa_nil)))) pa_nil)))))))
    (Evl.pss_cut (ps_if (pt_cmpR op_eq (pe_op op_mod (pe_op op_fdiv (pe_call G_law_cell (hr.mono (by decide)) rfl g_law_cell k_law_cell b_law_cell .nil pass0 (by exact (pa_cons (pv 0) (pa_cons pe_int pa_nil)))) pe_int) pe_int) pe_int (nomark _)) (pss_one (ps_set (i := 5) sc_law.nd rfl (Or.inl rfl) (pe_call G_law_row (hr.mono (by decide)) rfl g_law_row k_law_row b_law_row .nil pass0 (by exact (pa_cons (pe_call G_law_cell (hr.mono (by decide)) rfl g_law_cell k_law_cell b_law_cell .nil pass0 (by exact (pa_cons (pv 0) (pa_cons pe_int pa_nil)))) (pa_cons (pe_op op_mod (pe_call G_law_cell (hr.mono (by decide)) rfl g_law_cell k_law_cell b_law_cell .nil pass0 (by exact (pa_cons (pv 0) (pa_cons pe_int pa_nil)))) pe_int) (pa_cons pe_int pa_nil))))))) pss_nil)
    (pss_cons (ps_asg (pe_call G_law_take_history (hr.mono (by decide)) rfl g_law_take_history k_law_take_history b_law_take_history .nil pass0 (by exact (pa_cons (pv 5) pa_nil))) (pg_tup rfl (pgs_cons (pg_name (i := 6) sc_law.nd rfl (Or.inl rfl)) (pgs_cons (pg_name (i := 7) sc_law.nd rfl (Or.inl rfl)) pgs_nil))))
    (pss_cons (ps_set (i := 8) sc_law.nd rfl (Or.inl rfl) (pe_callTy call_list_of (by rfl) B.list_ (by decide +kernel) (pa_cons (pv 5) pa_nil)))
    (pss_cons (ps_try_as (i := 10) (tb := fun W => tAsg (tCallS (spDec CE CH) (WE W) (tCons (tVar 8) tNil)) (gName 9)) (ts := fun a cls d => tRet (tAndV (tOp (fun x y H Q => y = V.non ∧ Q (.bl (decide (x = V.non))) H) (tVar 6) (tC .non)) (tAndV (tCall spIsInt [] E0 (tCons (tXf a cls d CE "position" (tVar 10)) tNil)) (tOp rEq (tXf a cls d CE "position" (tVar 10)) (tVar 7))))) (Wout := fun _ _ _ _ => False) rfl rfl sc_law.nd rfl rfl ⟨rfl, by decide, Or.inl TE.gC⟩ takes0 (fun W pn xe tk _ => pss_one (ps_set (i := 9) sc_law.nd rfl (Or.inl rfl) (by exact (pe_callS G_decode_history (hr.mono (by decide)) rfl g_decode_history k_decode_history b_decode_history (fun σ => passAt tk σ) (by exact (pa_cons (pv 8) pa_nil)))))) (fun a oe cls d pn hz hf => pss_one (ps_ret (pe_and (pe_cmpR op_isN (pv 6) pe_non (nomark _)) (pe_and (pe_callHot G_law_is_int ⟨(hr.mono (by decide : 1 ≤ 6)).dp, (hr.mono (by decide : 1 ≤ 6)).un⟩ rfl g_law_is_int k_law_is_int b_law_is_int (by exact (pa_cons (pe_xf TE.xf TE.noN hz hf (pv 10)) pa_nil))) (pe_one (pe_cmpR op_eq (pe_xf TE.xf TE.noN hz hf (pv 10)) (pv 7) (nomark _))))))))
    (pss_cons (ps_if (PW.pt (pw_or (pt_cmpR op_isN (pv 6) pe_non (nomark _)) (pw_or (pt_cmpR op_ne (pe_callB (call_lenO G_len (hr.mono (by decide)) M_len b_len) (by rfl) B.len_ (by decide +kernel) (pa_cons (pv 9) pa_nil)) (pe_callB call_len_seq (by rfl) B.len_ (by decide +kernel) (pa_cons (pv 6) pa_nil)) (nomark _)) (pw_or (pt_cmpR (op_neD hu) (pv 8) (pv 5) (nomark _)) (pw_or1 (pt_cmpR (op_neD hu) (pe_call G_encode_history (hr.mono (by decide)) rfl g_encode_history k_encode_history b_encode_history .nil pass0 (by exact (pa_cons (pv 9) pa_nil))) (pv 5) (nomark _))))))) (pss_one (ps_ret pe_bl)) pss_nil)
    (pss_cons (ps_for PassesOwn.never rfl (pi_range1 (by rfl) B.range_ (pa_cons (pe_callB call_len_seq (by rfl) B.len_ (by decide +kernel) (pa_cons (pv 6) pa_nil)) pa_nil)) (pg_name (i := 3) sc_law.nd rfl (Or.inl rfl))
    (pss_one (ps_if (pt_cmpR (op_neD hu) (pe_meth (pv 9) clH M_version G_version (hr.mono (by decide)) b_version .nil pass0 (by exact (pa_cons (pv 3) pa_nil))) (pe_ix ix_list (pv 6) (pv 3) (fun _ _ => rfl)) (nomark _)) (pss_one (ps_ret pe_bl)) pss_nil)))
    (pss_one (ps_ret pe_bl))))))))))))), ?_⟩
    refine ⟨_, rfl, a, ns, 1, rfl, hA, by decide, fun z1 => ⟨_, rfl, a, ns, 2, rfl, hA, by decide, fun z2 => ⟨_, _, rfl, rfl, (by decide : (0 : Int) < 9), ?_⟩⟩⟩
    refine ⟨z1, z2 % 9, rfl, by omega, by omega, fun p0 f0 H1 e1 hp0 hf0 hO0 => ⟨(by show 1 ≤ sizeLine; decide), fun l1 hl1 => ⟨sz0, fun l2 hl2 => ?_⟩⟩⟩
    have n1 : p0 ≠ l1 := ne_of_none hp0 hl1
    have hp0' : upd H1 l1 (.lst [.ref p0]) p0 = some (.lst (iL f0)) := by rw [upd_ne n1]; exact hp0
    have n2 : p0 ≠ l2 := ne_of_none hp0' hl2
    have n12 : l1 ≠ l2 := ne_of_none upd_same hl2
    have hl1H : H l1 = none := Evl.fresh_back e1 hl1
    have e2 := e1.trans ((Evl.Ex.new (o := .lst [.ref p0]) hl1).trans (Evl.Ex.new (o := .lst []) hl2))
    have hl2H : H l2 = none := Evl.fresh_back (e1.trans (Evl.Ex.new (o := .lst [.ref p0]) hl1)) hl2
    refine ⟨_, rfl, a, ns, 0, rfl, Evl.ex_l e2 hA, by decide, fun z0 => ⟨_, _, rfl, rfl, (by decide : (0 : Int) < 5), _, rfl, ?_, ?_, ?_⟩⟩
    · show -(2 ^ 62) ≤ z0 % 5; omega
    · show z0 % 5 < 2 ^ 62; omega
    refine for_range (lo := 0) (n := (z0 % 5).toNat) (fun i σ H' => ∃ (us ss : List V) (scs : List (List Step)) (v3 v4 : Option V), σ = [some (.ref a), some (.ref l1), some (.ref l2), v3, v4, none, none, none, none, none, none] ∧ Ex H H' ∧ H' l1 = some (.lst us) ∧ H' l2 = some (.lst ss) ∧
      Vers H' us f0 scs ∧ Paired (ScAt H') ss scs ∧ (∀ v ∈ us, v ≠ .ref l2) ∧ (∀ v ∈ ss, v ≠ .ref l1 ∧ v ≠ .ref l2) ∧ scs.length = i ∧ (∀ st ∈ scs, st.length ≤ 23 ∧ asum st ≤ 24 ∧ ∀ s ∈ st, BOk s) ∧ (ver f0 scs).length ≤ 8 + 24 * i)
      ⟨[.ref p0], [], [], none, none, rfl, e2, ?_, upd_same, ⟨rfl, ?_⟩, .nil, ?_, (fun v hv => by cases hv), rfl, (fun st hs => by cases hs), ?_⟩ ?_ ?_
    · exact Evl.Ex.new hl2 _ _ upd_same
    · intro i v hv
      match i, hv with
      | 0, hv =>
        have e0 : V.ref p0 = v := Option.some.inj hv
        exact ⟨p0, e0.symm, Evl.Ex.new hl2 _ _ hp0'⟩
    · intro v hv z
      rw [List.mem_singleton.mp hv] at z
      cases z
      exact n2 rfl
    · show f0.length ≤ 8
      omega
    · rintro i σ H' hi ⟨us, ss, scs, v3, v4, rfl, e, hL1, hL2, hV, hP, hu2, hs2, hlen, hall, hver⟩
      have hi4 : i < 4 := by omega
      have hul := hV.len
      have hsl := paired_len hP
      obtain ⟨r, hr1, hr2⟩ := hV.last
      refine ⟨_, rfl, _, rfl, _, _, rfl, rfl, .inl ⟨by decide, by decide⟩, _, _, rfl, rfl, _, rfl, _, rfl, _, _, rfl, rfl, .inl ⟨by decide, by decide⟩, _, _, rfl, rfl, _, rfl, a, _, rfl, Evl.ex_l e hA, fun p hp => ?_⟩
      rw [cut_int ns (8 + 6 * i) 6 _ _ (by omega) (by omega)]
      have e3 := Evl.Ex.new (o := .lst (iL ((ns.drop (8 + 6 * i)).take 6))) hp
      have hr3 := e3 _ _ hr2
      refine ⟨_, rfl, _, rfl, _, _, _, _, rfl, rfl, SqL.of (e3 _ _ hL1), hr1, p, r, _, _, rfl, SqL.of upd_same, hr3, (by rw [List.length_take]; omega), by omega, fun p4 ws st H4 e4 hp4 hS4 hB4 hc4 ha4 hz4 => ?_⟩
      refine ⟨p4, ws, st, rfl, hp4, hS4, hB4, ha4, hz4, fun p5 ws' st' H5 hn5 e5 hp5 hS5 hB5 hc5 ha5 hz5 => ?_⟩
      have e34 := e3.trans e4
      have e345 := e34.trans e5
      have m1 : p5 ≠ l1 := fun z => by rw [z, e34 _ _ hL1] at hn5; cases hn5
      have m2 : p5 ≠ l2 := fun z => by rw [z, e34 _ _ hL2] at hn5; cases hn5
      have hL2' := e345 _ _ hL2
      have hL1' := e345 _ _ hL1
      have hr5 := e345 _ _ hr2
      refine ⟨_, rfl, .inl ⟨rfl, _, SqL.of hL2'⟩, _, rfl, l2, _, _, rfl, rfl, hL2', fitsL (by omega), ?_⟩
      -- the scripts' list has one more
      have k1 : ∀ {b : Addr} {o : HO}, b ≠ l2 → H5 b = some o → upd H5 l2 (.lst (ss ++ [.ref p5])) b = some o := fun hb h => by rw [upd_ne hb]; exact h
      have hL1a := k1 n12 hL1'
      have r2 : r ≠ l2 := fun z => by
        obtain ⟨j, hj⟩ : ∃ j : Nat, us[j]? = some (V.ref r) := by
          have e0 : us = us.take scs.length ++ [us[scs.length]'(by omega)] := by
            rw [← take_next (List.getElem?_eq_getElem (by omega : scs.length < us.length)), List.take_of_length_le (by omega)]
          rw [e0, atI_last] at hr1
          exact ⟨scs.length, (List.getElem?_eq_getElem (by omega)).trans hr1⟩
        exact hu2 _ (List.mem_of_getElem? hj) (by rw [z])
      have tp2 := exb_lst (Exb.upd (r := l2) (H := H5) (o := .lst (ss ++ [.ref p5]))) hL2'
      refine ⟨_, rfl, .inl ⟨rfl, _, SqL.of hL1a⟩, _, rfl, _, rfl, _, _, _, _, rfl, rfl, SqL.of hL1a, hr1, _, rfl, r, p5, _, ws', st', rfl, k1 r2 hr5, k1 m2 hp5, Sts.mono tp2 hS5, ⟨fun s hs => (hB5 s hs).cnt, by rw [hc5, hc4], by omega⟩, fun p6 H6 e6 hp6 => ?_⟩
      have hL1b := e6 _ _ hL1a
      have hL2b := e6 _ _ (upd_same (H := H5) (a := l2) (o := .lst (ss ++ [.ref p5])))
      refine ⟨l1, _, _, rfl, rfl, hL1b, fitsL (by omega), us ++ [.ref p6], ss ++ [.ref p5], scs ++ [st'], _, _, rfl, Evl.Ex.mut ((Evl.Ex.mut (e.trans e345) hl2H).trans e6) hl1H, upd_same, by rw [upd_ne (Ne.symm n12)]; exact hL2b, hV.more (fun b xs hb h => ?_) ?_, ?_, ?_, ?_, ?_, ?_, ?_⟩
      · obtain ⟨v, hv, ev⟩ := hb
        obtain ⟨j, hj⟩ := List.mem_iff_getElem?.mp hv
        obtain ⟨r', h1, h2⟩ := hV.at_ j v hj
        rw [ev] at h1
        cases h1
        rw [upd_ne (hV.ne hL1 h2)]
        exact e6 _ _ (k1 (fun z => hu2 v hv (by rw [ev, z])) (e345 _ _ h))
      · rw [upd_ne (hV.ne hL1b hp6)]
        exact hp6
      · have tp6 : ∀ b ys, H6 b = some (.tup ys) → upd H6 l1 (.lst (us ++ [.ref p6])) b = some (.tup ys) := exb_lst Exb.upd hL1b
        have old : ∀ v st, v ∈ ss → ScAt H' v st → ScAt (upd H6 l1 (.lst (us ++ [.ref p6]))) v st := fun v st hv ⟨p, ws, h1, h2, h3⟩ => by
          obtain ⟨g1, g2⟩ := hs2 v hv
          refine ⟨p, ws, h1, ?_, ?_⟩
          · rw [upd_ne (fun z => g1 (by rw [h1, z]))]
            exact e6 _ _ (k1 (fun z => g2 (by rw [h1, z])) (e345 _ _ h2))
          · exact ((h3.mono (Ex.tups e345)).mono tp2).mono fun b ys h => tp6 _ _ (e6 _ _ h)
        refine paired_snoc ?_ ⟨p5, ws', rfl, ?_, ?_⟩
        · exact paired_memo hP old
        · rw [upd_ne m1]; exact e6 _ _ (k1 m2 hp5)
        · exact (Sts.mono tp2 hS5).mono fun b ys h => tp6 _ _ (e6 _ _ h)
      · intro v hv z
        rcases List.mem_append.mp hv with h | h
        · exact hu2 v h z
        · rw [List.mem_singleton.mp h] at z
          cases z
          rw [hL2b] at hp6
          have hss : ss ++ [V.ref p5] = iL (ptc (ver f0 scs) st') := HO.lst.inj (Option.some.inj hp6)
          have hx : (iL (ptc (ver f0 scs) st'))[ss.length]? = some (V.ref p5) := by rw [← hss, List.getElem?_append_right (Nat.le_refl _), Nat.sub_self]; rfl
          obtain ⟨x, _, hx⟩ := iL_get hx
          cases hx
      · intro v hv
        rcases List.mem_append.mp hv with h | h
        · exact hs2 v h
        · rw [List.mem_singleton.mp h]
          exact ⟨fun z => m1 (V.ref.inj z), fun z => m2 (V.ref.inj z)⟩
      · rw [List.length_append, hlen]; rfl
      · intro s hs
        rcases List.mem_append.mp hs with h | h
        · exact hall s h
        · rw [List.mem_singleton.mp h]
          exact ⟨hz5, by omega, hB5⟩
      · rw [ver_more]
        have := ptc_le (old := ver f0 scs) (st := st') (fun s hs => (hB5 s hs).cnt) (by rw [hc5, hc4])
        omega
    · rintro σ H' ⟨us, ss, scs, v3, v4, rfl, e, hL1, hL2, hV, hP, hu2, hs2, hlen, hall, hver⟩
      have hul := hV.len
      obtain ⟨v0, hv0⟩ : ∃ v, us[0]? = some v := ⟨us[0]'(by omega), List.getElem?_eq_getElem _⟩
      obtain ⟨r0, rfl, hr0⟩ := hV.at_ 0 _ hv0
      refine ⟨Mid17 a H 1000, ⟨_, rfl, _, rfl, l1, l2, r0, us, ss, f0, scs, rfl, hL1, hv0, hr0, hL2, hP, hO0, by omega, by omega, hall, fun p os H3 e3 hp ho hz => ⟨p, os, _, _, _, _, rfl, e.trans e3, hp, ho, hz⟩⟩, ?_⟩
      rintro σ H1 ⟨o, os, v1, v2, v3, v4, rfl, e, ho, hO, hz⟩
      refine ⟨Mid17 a H 20000, ?_, ?_⟩
      · -- the damage
        refine ⟨_, rfl, a, ns, 0, rfl, Evl.ex_l e hA, by decide, fun z => ⟨_, _, rfl, rfl, ⟨by decide, by decide⟩, _, _, rfl, rfl, (by decide : (0 : Int) < 4), _, rfl, ?_, ?_, ?_⟩⟩
        · show -(2 ^ 62) ≤ z / 5 % 4; omega
        · show z / 5 % 4 < 2 ^ 62; omega
        refine for_range (lo := 0) (n := (z / 5 % 4).toNat) (fun i σ H' => ∃ (o : Addr) (os : List Int) (v1 v2 v3 v4 : Option V), σ = [some (.ref a), v1, v2, v3, v4, some (.ref o), none, none, none, none, none] ∧ Ex H H' ∧ H' o = some (.lst (iL os)) ∧ Oct os ∧ os.length + 2 ≤ 1002 * 2 ^ i)
          ⟨o, os, v1, v2, v3, v4, rfl, e, ho, hO, by rw [Nat.pow_zero]; omega⟩ ?_ ?_
        · rintro i σ H2 hi ⟨o, os, v1, v2, v3, v4, rfl, e, ho, hO, hz⟩
          have hi3 : i ≤ 2 := by omega
          have hp : 2 ^ i ≤ 2 ^ 2 := Nat.pow_le_pow_right (by decide) hi3
          have hp2 : 2 ^ (i + 1) = 2 ^ i * 2 := Nat.pow_succ 2 i
          generalize 2 ^ i = q1 at *
          refine ⟨_, rfl, _, rfl, _, rfl, _, _, rfl, rfl, a, ns, _, rfl, Evl.ex_l e hA, by omega, fun z => ⟨o, os, z, rfl, ho, hO, by omega, fun p ns' H3 e3 hp hO' hz' => ⟨p, ns', _, _, _, _, rfl, e.trans e3, hp, hO', ?_⟩⟩⟩
          rw [hp2]
          omega
        · rintro σ H2 ⟨o, os, v1, v2, v3, v4, rfl, e, ho, hO, hz⟩
          have hp : 2 ^ (z / 5 % 4).toNat ≤ 2 ^ 3 := Nat.pow_le_pow_right (by decide) (by omega)
          exact ⟨o, os, v1, v2, v3, v4, rfl, e, ho, hO, by omega⟩
      rintro σ H2 ⟨o, os, v1, v2, v3, v4, rfl, e, ho, hO, hz⟩
      refine ⟨Mid17 a H 20000, ?_, ?_⟩
      · refine ⟨_, rfl, a, ns, 0, rfl, Evl.ex_l e hA, by decide, fun z => ⟨_, _, rfl, rfl, ⟨by decide, by decide⟩, _, _, rfl, rfl, (by decide : (0 : Int) < 6), rfl, _, rfl, if2 (fun _ => ?_) (fun _ => ?_)⟩⟩
        · refine ⟨_, rfl, a, ns, 1, rfl, Evl.ex_l e hA, by decide, fun z1 => ⟨_, rfl, a, ns, 2, rfl, Evl.ex_l e hA, by decide, fun z2 => ⟨_, _, rfl, rfl, (by decide : (0 : Int) < 31), z1, z2 % 31, 4, rfl, by omega, by omega, by decide, by decide, fun p os' H3 e3 hp hl hb => ?_⟩⟩⟩
          exact ⟨p, os', _, _, _, _, rfl, e.trans e3, hp, fun x hx => by have := hb x hx; omega, by omega⟩
        · exact ⟨o, os, v1, v2, v3, v4, rfl, e, ho, hO, hz⟩
      rintro σ H3 ⟨o, os, v1, v2, v3, v4, rfl, e, ho, hO, hz⟩
      refine ⟨_, rfl, o, os, rfl, ho, hO, by omega, fun f scs hok p l us z H4 e4 hp hl hV => ⟨p, _, rfl, SqT.of hp, rfl, _, _, rfl, _, _, rfl, rfl, ?_⟩, fun z hbad p H4 e4 hp => ⟨p, _, rfl, SqT.of hp, rfl, _, _, rfl, _, _, rfl, rfl, ?_⟩⟩
      · -- a history is due
        obtain ⟨c1, c2, c3, c4⟩ := his_ok hO hok
        obtain ⟨c5, c6⟩ := his_fit hO (by omega) hok
        have ho4 := e4 _ _ ho
        refine ⟨_, rfl, _, _, rfl, .inl (SqL.of ho4), fun lc hlc => ?_⟩
        have e5 := Evl.Ex.new (o := .lst (iL os)) hlc
        have ho5 := e5 _ _ ho4
        refine ⟨_, rfl, lc, os, rfl, upd_same, hO, by omega, fun f' scs' hok' h H6 e6 hH => ?_, fun p' hbad => ?_⟩
        · rw [hok] at hok'
          injection hok' with hf hs
          subst hf hs
          have hH' := hH
          obtain ⟨dx, pf, psa, ss, h1, h2, h3, h4⟩ := hH
          have hlc6 := e6 _ _ (upd_same (H := H4) (a := lc) (o := .lst (iL os)))
          have ho6 := e6 _ _ ho5
          have hl6 := e6 _ _ (e5 _ _ hl)
          have hVl := hV.len
          have hsl : scs.length ≤ 100000 := by
            have k1 := scs_len scs
            have k2 : (eHis f scs).length = (num (scs.length + 1)).length + (num f.length).length + f.length + (scs.flatMap eScr).length := by
              unfold eHis
              rw [List.length_append, List.length_append, List.length_append]
            rw [← c1] at k2
            omega
          refine ⟨_, rfl, rfl, _, rfl, ifN (fun z => by cases z) ⟨_, rfl, h, dx, _, rfl, h1, h, f, scs, rfl, hH', hsl, fun H7 e7 => ⟨(scs.length : Int) + 1, rfl, by omega, by omega, ?_⟩⟩⟩
          have e67 := e6.trans e7
          refine ⟨_, rfl, _, _, rfl, .inl (SqL.of (e7 _ _ hl6)), rfl, _, rfl, ?_⟩
          rw [show decide (V.int ((scs.length : Int) + 1) = V.int (us.length : Int)) = true from decide_eq_true (by rw [hVl]; rfl)]
          refine iteF ⟨_, rfl, _, rfl, _, _, dp_list (e7 _ _ hlc6), dp_list (e7 _ _ ho6), sh_list _, sh_list _, _, rfl, ?_⟩
          rw [eqv_ints]
          refine iteF ⟨_, rfl, h, f, scs, rfl, hH'.mono e7, c3, c4, c6, by rw [← c1]; omega, fun p8 H8 e8 hp8 => ⟨_, rfl, _, _, dp_list hp8, dp_list (e8 _ _ (e7 _ _ ho6)), sh_list _, sh_list _, _, rfl, ?_⟩⟩
          rw [← c1, eqv_ints]
          have hl8 := e8 _ _ (e7 _ _ hl6)
          have hH8 := (hH'.mono e7).mono e8
          have hV8 : Vers H8 us f scs := ⟨hV.len, fun i v hv => by obtain ⟨r, k1, k2⟩ := hV.at_ i v hv; exact ⟨r, k1, e8 _ _ (e67 _ _ (e5 _ _ k2))⟩⟩
          refine iteF ⟨_, rfl, _, _, rfl, .inl (SqL.of hl8), _, rfl, by omega, by omega, ?_⟩
          refine for_range (lo := 0) (n := ((us.length : Nat) : Int).toNat) (fun i σ H' => ∃ v3 : Option V, σ = [some (.ref a), v1, v2, v3, v4, some (.ref o), some (.ref l), some (.int z), some (.ref lc), some (.ref h), none] ∧ Ex H8 H') ⟨v3, rfl, Evl.Ex.refl _⟩ ?_ ?_
          · rintro i σ H9 hi ⟨v3, rfl, e9⟩
            have hi' : i < us.length := by omega
            obtain ⟨r, k1, k2⟩ := hV8.at_ i _ (List.getElem?_eq_getElem hi')
            have hH9 := hH8.mono e9
            obtain ⟨dx9, pf9, psa9, ss9, m1, m2, m3, m4⟩ := hH9
            refine ⟨_, rfl, h, dx9, _, rfl, m1, rfl, _, rfl, h, f, scs, i, ?_, ⟨dx9, pf9, psa9, ss9, m1, m2, m3, m4⟩, by omega, c5, fun p9 H10 e10 hp9 => ?_⟩
            · show [V.ref h, V.int (0 + (i : Int))] = _
              rw [show (0 : Int) + (i : Int) = (i : Int) by omega]
            refine ⟨_, rfl, _, rfl, _, _, _, _, rfl, rfl, SqL.of (e10 _ _ (e9 _ _ hl8)), at_of (j := i) (by omega) ((List.getElem?_eq_getElem hi').trans (congrArg some k1)), _, _, dp_list hp9, dp_list (e10 _ _ (e9 _ _ k2)), sh_list _, sh_list _, _, rfl, ?_⟩
            rw [eqv_ints]
            exact iteF ⟨_, rfl, e9.trans e10⟩
          · rintro σ H9 ⟨v3, rfl, e9⟩
            exact q H9
        · rw [hok] at hbad; cases hbad
      · -- an error is due
        have ho4 := e4 _ _ ho
        refine ⟨_, rfl, _, _, rfl, .inl (SqL.of ho4), fun lc hlc => ?_⟩
        refine ⟨_, rfl, lc, os, rfl, upd_same, hO, by omega, fun f' scs' hok' h H6 e6 hH => ?_, fun p' hbad' => ?_⟩
        · rw [hbad] at hok'; cases hok'
        · rw [hbad] at hbad'
          injection hbad' with hp'
          subst hp'
          refine fun d H6 hd => ⟨true, TE.te, fun _ xa hxa => ?_, fun z => by cases z⟩
          refine ⟨_, rfl, rfl, _, rfl, ifD rfl ⟨_, rfl, rfl, rfl, d, _, _, rfl, hd, look1, z, rfl, _, rfl, ifT rfl ⟨_, rfl, rfl, rfl, d, _, _, rfl, hd, look1, _, rfl, rfl, ?_⟩⟩⟩
          rw [show decide (V.int (z : Int) = V.int (z : Int)) = true from decide_eq_true rfl]
          exact q H6
end
end K17
set_option maxHeartbeats 4000000
namespace K17
open PySem PySem.Spec PyProof.Rows L2
/-- what the top has written -/
structure Txt17 (K : PySem.W.Frag) (mg : Str → Option Value) (CE fI CH CR : Addr) : Prop where
  B : Bl mg
  TE : EncTxt K mg CE fI
  hC : HisC K CH
  rC : RdrC K CR
  gH : mg "History" = some (.ref CH)
  gR : mg "HistoryReader" = some (.ref CR)
  d_patch : Df K mg "patch" s_patch
  d_number_octets : Df K mg "number_octets" s_number_octets
  d_read_number : Df K mg "read_number" s_read_number
  d_step_octets : Df K mg "_step_octets" s_step_octets
  d_encode_history : Df K mg "encode_history" s_encode_history
  d_decode_history : Df K mg "decode_history" s_decode_history
  d_law_cell : Df K mg "_law_cell" s_law_cell
  d_law_mix : Df K mg "_law_mix" s_law_mix
  d_law_row : Df K mg "_law_row" s_law_row
  d_law_is_int : Df K mg "_law_is_int" s_law_is_int
  d_law_items : Df K mg "_law_items" s_law_items
  d_law_script : Df K mg "_law_script" s_law_script
  d_law_patch : Df K mg "_law_patch" s_law_patch
  d_law_number : Df K mg "_law_number" s_law_number
  d_law_read : Df K mg "_law_read" s_law_read
  d_law_close : Df K mg "_law_close" s_law_close
  d_law_normal : Df K mg "_law_normal" s_law_normal
  d_law_history : Df K mg "_law_history" s_law_history
  d_law_positive : Df K mg "_law_positive" s_law_positive
  d_law_take_step : Df K mg "_law_take_step" s_law_take_step
  d_law_take_script : Df K mg "_law_take_script" s_law_take_script
  d_law_take_history : Df K mg "_law_take_history" s_law_take_history
  d_law_damaged : Df K mg "_law_damaged" s_law_damaged
  m_History_len : DfM K CH "__len__" "History.__len__" s_History_len
  m_History_extend_by : DfM K CH "extend_by" "History.extend_by" s_History_extend_by
  m_History_version : DfM K CH "version" "History.version" s_History_version
  m_HistoryReader_number : DfM K CR "number" "HistoryReader.number" s_HistoryReader_number
  m_HistoryReader_positive : DfM K CR "positive" "HistoryReader.positive" s_HistoryReader_positive
  m_HistoryReader_block : DfM K CR "block" "HistoryReader.block" s_HistoryReader_block
  m_HistoryReader_step : DfM K CR "_step" "HistoryReader._step" s_HistoryReaderstep
  m_HistoryReader_script : DfM K CR "script" "HistoryReader.script" s_HistoryReader_script
  i_History : DfI K CH "History.__init__" s_History_init
  i_HistoryReader : DfI K CR "HistoryReader.__init__" s_HistoryReader_init
theorem all_law {w : World} {K : PySem.W.Frag} {mg : Str → Option Value} {base : Heap} {CE fI CH CR f : Addr} {fd : FuncData} (T : Txt17 K mg CE fI CH CR) (F : L2.Fun K "law" "law" s_law f fd) : FnOk prog17 w K mg base CX0 7 f fd ["_law_script_here"] (spLaw K) := by
  have B := T.B
  have TE := T.TE
  have hC := T.hC
  have rC := T.rC
  have cell := can_cell (w := w) (base := base) B T.d_law_cell
  have mix := can_mix (w := w) (base := base) B T.d_law_mix
  have row := can_row B T.d_law_row mix
  have isint := can_isint (w := w) (base := base) B T.d_law_is_int
  have items := can_items B T.d_law_items row
  have lnum := can_lnum (w := w) (base := base) B T.d_law_number
  have read := can_read (w := w) (base := base) B T.d_law_read
  have cnum := can_num (w := w) (base := base) B T.d_number_octets
  have crd := can_rd (w := w) (base := base) B TE T.d_read_number
  have cpatch := can_patch (w := w) (base := base) B T.d_patch
  have lpatch := can_lpatch (w := w) (base := base) B T.d_law_patch
  have lpos := can_lpos B T.d_law_positive read
  have tstep := can_tstep B T.d_law_take_step lpos
  have tscr := can_tscr B T.d_law_take_script read tstep
  have this_ := can_this B T.d_law_take_history read lpos tscr lpatch
  have lscr := can_lscr B T.d_law_script items
  have close := can_close (w := w) (base := base) B T.d_law_close
  have norm := can_norm B T.d_law_normal close
  have dam := can_dam (w := w) (base := base) B T.d_law_damaged
  have lhis := can_lhis B T.d_law_history lnum
  have hinit := can_hinit (w := w) (base := base) B hC T.i_History
  have hlen := can_hlen (w := w) (base := base) B hC T.m_History_len
  have ext := can_ext (w := w) (base := base) B hC T.m_History_extend_by
  have cver := can_ver B hC T.m_History_version cpatch
  have stepo := can_stepo B T.d_step_octets cnum
  have enc := can_enc B hC T.d_encode_history cnum stepo
  have rinit := can_rinit (w := w) (base := base) B rC T.i_HistoryReader
  have number := can_number B rC T.m_HistoryReader_number crd
  have positive := can_positive B TE rC T.m_HistoryReader_positive number
  have block := can_block (w := w) (base := base) B TE rC T.m_HistoryReader_block
  have rstep := can_rstep B TE rC T.m_HistoryReader_step block positive
  have rscr := can_rscr B TE rC T.m_HistoryReader_script number rstep
  have dec := can_dec B TE hC rC T.gH T.gR T.d_decode_history rinit hinit ext positive number block rscr
  exact ok_law B TE hC F cell items lscr norm lpatch lhis dam row this_ isint dec enc hlen cver
end K17
set_option maxHeartbeats 0
namespace K17
open PySem PySem.Spec PyProof.Rows L2
/-! ### EncodingError, looked at -/
def cE (K : PySem.W.Frag) : Addr := He.ga K "EncodingError"
def fE (K : PySem.W.Frag) : Addr := He.ma K (cE K) "__init__"
def encCls (K : PySem.W.Frag) (C : Addr) : Bool := match K.lookup C with
  | some ⟨.type "type", _, .cls cd, sl⟩ => (match cd.mro, sl.toList with
    | .ref C' :: bm, [_, _, _, _, some (.builtin n), _] => C' == C && n == "ValueError.__new__" && !cd.hasDel && cd.hasDict && PySem.HandSPX.refsVE bm
    | _, _ => false)
  | _ => false
theorem encCls_ok {K : PySem.W.Frag} {C : Addr} (q : encCls K C = true) : ∃ nm q N bs bm sn sub ab col dd k0 k1 k2 k3 k5, K.lookup C = some (excClassObj nm q C N bs bm true sn sub ab col dd k0 k1 k2 k3 k5 "ValueError.__new__") ∧ PySem.HandSPX.refsVE bm = true := by
  unfold encCls at q
  split at q
  · rename_i dd cd sl ho
    split at q
    · rename_i C' bm k0 k1 k2 k3 n k5 hm hs
      simp only [Bool.and_eq_true, beq_iff_eq, Bool.not_eq_true'] at q
      obtain ⟨⟨⟨⟨rfl, rfl⟩, hdel⟩, hdi⟩, ht⟩ := q
      obtain ⟨nm, bs, mro, ns, qn, hd, sn, sub, ab, col, del⟩ := cd
      dsimp only at hm hdel hdi
      subst hm hdel hdi
      have hsl : sl = #[k0, k1, k2, k3, some (.builtin "ValueError.__new__"), k5] := by
        obtain ⟨l⟩ := sl
        simp only at hs
        rw [hs]
      subst hsl
      exact ⟨nm, qn, ns, bs, bm, sn, sub, ab, col, dd, k0, k1, k2, k3, k5, ho, ht⟩
    · cases q
  · cases q
abbrev FnE : Type := Option (Str × Str × Arguments × FuncBody × Scope × Addr × List Str × Addr)
def fnE (K : PySem.W.Frag) (f : Addr) : FnE := match K.lookup f with
  | some ⟨_, _, .func fd, _⟩ => some (fd.name, fd.qualname, fd.params, fd.body, fd.scope, fd.globals, fd.closure.map (·.1), fd.builtins)
  | _ => none
def valE17 : FnE := some ("__init__", "EncodingError.__init__", defArgs sEI, .stmts (defBody sEI), defScope sEI, mainGlobals, ["__class__"], builtinsNs)
def cellB (K : PySem.W.Frag) (C cc : Addr) : Bool := match K.lookup cc with
  | some ⟨_, _, .cell (some (.ref C')), _⟩ => C' == C
  | _ => false
def fileB (K : PySem.W.Frag) (c : Addr) : Bool := match K.lookup c with
  | some ⟨_, _, .fields vs, _⟩ => (match (vs[2]? : Option Value) with
    | some (.str file _) => mainFile == file
    | _ => false)
  | _ => false
def isNon : Value → Bool
  | .none => true
  | _ => false
def encFnB (K : PySem.W.Frag) (C f : Addr) : Bool := match K.lookup f with
  | some ⟨_, _, .func fd, _⟩ => (match fd.code with
    | .ref cda => PySem.W.codeIn K (.ref cda) "EncodingError.__init__" && (isNon fd.defaults && (fileB K cda && (match fd.closure with
      | [(_, cc)] => cellB K C cc
      | _ => false)))
    | _ => false)
  | _ => false
theorem encFn_ok {K : PySem.W.Frag} {C f : Addr} (e : fnE K f = valE17) (q : encFnB K C f = true) : ∃ (oc : Value) (od : Option Addr) (kV doc pm : Value) (an : Option Addr) (cda : Addr) (ct : Value) (osl : Array (Option Value)) (cc : Addr),
    K.lookup f = some ⟨oc, od, .func (PySem.W.ksFn "__init__" "EncodingError.__init__" (defArgs sEI) (defBody sEI) (defScope sEI) .none kV doc pm an (.ref cda) ct cc), osl⟩ ∧ PySem.W.codeIn K (.ref cda) "EncodingError.__init__" = true ∧
    (∃ cl cld csl, K.lookup cc = some ⟨cl, cld, .cell (some (.ref C)), csl⟩) ∧ ∃ ccl cdd vs ccs file tf, K.lookup cda = some ⟨ccl, cdd, .fields vs, ccs⟩ ∧ vs[2]? = some (.str file tf) ∧ (mainFile == file) = true := by
  unfold fnE at e
  unfold encFnB at q
  cases z : K.lookup f with
  | none => rw [z] at q; cases q
  | some ob =>
    obtain ⟨oc, od, dt, osl⟩ := ob
    rw [z] at e q
    cases dt with
    | func fd =>
      obtain ⟨n1, n2, n3, n4, n5, n6, n7, n8, n9, n10, n11, n12, n13, n14, n15⟩ := fd
      have e2 : (some (n1, n2, n3, n4, n5, n6, n7.map (·.1), n15) : FnE) = (some ("__init__", "EncodingError.__init__", defArgs sEI, .stmts (defBody sEI), defScope sEI, mainGlobals, ["__class__"], builtinsNs) : FnE) := e
      simp only [Option.some.injEq, Prod.mk.injEq] at e2
      obtain ⟨h1, h2, h3, h4, h5, h6, h7, h8⟩ := e2
      subst h1 h2 h3 h4 h5 h6 h8
      dsimp only at q
      cases n13 with
      | ref cda =>
        obtain ⟨q1, q⟩ := He.ba q
        obtain ⟨q2, q⟩ := He.ba q
        obtain ⟨q3, q4⟩ := He.ba q
        match n7, h7, q4 with
        | [(x, cc)], h7, q4 =>
          have hx : x = "__class__" := by
            have : [x] = [("__class__" : Str)] := h7
            exact (List.cons.inj this).1
          subst hx
          have hd : n8 = .none := by
            cases n8 with
            | none => rfl
            | _ => cases q2
          subst hd
          refine ⟨oc, od, n9, n10, n11, n12, cda, n14, osl, cc, rfl, q1, ?_, ?_⟩
          · have q5 : cellB K C cc = true := q4
            unfold cellB at q5
            split at q5
            · rename_i a b C' c hh
              rw [beq_iff_eq.mp q5] at hh
              exact ⟨_, _, _, hh⟩
            · cases q5
          · unfold fileB at q3
            split at q3
            · rename_i a b vs c hh
              split at q3
              · rename_i file tf hv
                exact ⟨_, _, _, _, file, tf, hh, hv, q3⟩
              · cases q3
            · cases q3
      | _ => cases q
    | _ => cases q
def encB (K : PySem.W.Frag) : Bool := encCls K (cE K) && (He.eqO (PySem.W.findIn K (.ref (cE K)) "__setattr__") (some (some (.builtin "object.__setattr__"))) && (He.eqO (PySem.W.findIn K (.ref (cE K)) "position") (some none) && (He.eqO (PySem.W.findIn K (.ref (cE K)) "__init__") (some (some (.ref (fE K)))) &&
  (decide (PySem.W.typeIn K (.ref (fE K)) = some (.type "function")) && (PySem.W.keepIn K (.ref (cE K)) && (decide (PySem.W.subIn K (.ref (cE K)) (.type "BaseException") = some true) && (decide (PySem.W.typeIn K (.ref (cE K)) = some (.type "type")) && (decide (PySem.W.exmOne K (.ref (cE K)) (.ref (cE K)) = some true) &&
  (xfB K (cE K) && (He.eqO (PySem.W.nsIn K cStatics "thirdparty.any") (some none) && (He.eqO (PySem.W.ks_superIn K (cE K) (cE K) "__init__") (some (some (.builtin "ValueError.__init__"))) && (decide (PySem.W.subIn K (.ref (cE K)) (.type "ValueError") = some true) && (decide (PySem.W.mroIn K (cE K) (.ref (cE K)) = some true) && encFnB K (cE K) (fE K))))))))))))))
theorem enc_txt {K : PySem.W.Frag} {mg : Str → Option Value} (gC : mg "EncodingError" = some (.ref (cE K))) (gS : mg "super" = none) (e : fnE K (fE K) = valE17) (q : encB K = true) : EncTxt K mg (cE K) (fE K) := by
  obtain ⟨q1, q⟩ := He.ba q
  obtain ⟨q2, q⟩ := He.ba q
  obtain ⟨q3, q⟩ := He.ba q
  obtain ⟨q4, q⟩ := He.ba q
  obtain ⟨q5, q⟩ := He.ba q
  obtain ⟨q6, q⟩ := He.ba q
  obtain ⟨q7, q⟩ := He.ba q
  obtain ⟨q8, q⟩ := He.ba q
  obtain ⟨q9, q⟩ := He.ba q
  obtain ⟨q10, q⟩ := He.ba q
  obtain ⟨q11, q⟩ := He.ba q
  obtain ⟨q12, q⟩ := He.ba q
  obtain ⟨q13, q⟩ := He.ba q
  obtain ⟨q14, q15⟩ := He.ba q
  exact { gC := gC, gS := gS, cls := encCls_ok q1, sa := He.eqO_ok q2, noN := He.eqO_ok q3, iC := He.eqO_ok q4, tI := of_decide_eq_true q5, kC := q6, exC := of_decide_eq_true q7, tyC := of_decide_eq_true q8, te := of_decide_eq_true q9, xf := xfB_ok q10, th := He.eqO_ok q11, al := He.eqO_ok q12, inV := of_decide_eq_true q13, mr := of_decide_eq_true q14, fn := encFn_ok e q15 }
/-! ### the head's Hook -/
abbrev Al17 : Type := He.AlD × FnE × Bool
def obs17 (fa : List He.Fa) (fn : List He5.DefA) (K : PySem.W.Frag) : Al17 := (He5.obsA fa fn K, fnE K (fE K), encB K)
def val17 (fn : List He5.DefA) : Al17 := (He5.valA fn, valE17, true)
def obs17G (n : Nat) (fa : List He.Fa) (fn : List He5.DefA) (g : Addr → Option Obj) : Al17 := obs17 fa fn (He.frG g (He5.asA g n))
def hook17 (n : Nat) (fa : List He.Fa) (fn : List He5.DefA) : PySem.W.Hook where
  α := Al17
  obs := fun s => obs17G n fa fn s.heap.get?
  val := fun _ => val17 fn
  says := fun _ h => ∃ K : PySem.W.Frag, K.In h ∧ obs17 fa fn K = val17 fn
  of := fun _ _ e => ⟨_, He.frG_in, e⟩
  keeps := fun _ _ _ ⟨K, hK, c⟩ k => ⟨K, PySem.W.Frag.In.keeps hK k, c⟩
theorem obs17G_eq {n : Nat} {fa : List He.Fa} {fn : List He5.DefA} {g : Addr → Option Obj} {s : Shared} (h : ∀ a, g a = s.heap.get? a) : obs17G n fa fn g = (hook17 n fa fn).obs s := by
  have e : g = s.heap.get? := funext h
  rw [e] <;> rfl
def fa17 : List He.Fa := ([.glo "patch", .glo "number_octets", .glo "read_number", .glo "_step_octets", .glo "encode_history", .glo "decode_history", .glo "_law_cell", .glo "_law_mix", .glo "_law_row", .glo "_law_is_int", .glo "_law_items", .glo "_law_script"] : List He.Fa) ++ ([.glo "_law_patch", .glo "_law_number", .glo "_law_read", .glo "_law_close", .glo "_law_normal", .glo "_law_history", .glo "_law_positive", .glo "_law_take_step", .glo "_law_take_script", .glo "_law_take_history", .glo "_law_damaged", .glo "law"] : List He.Fa) ++ ([.glo "History", .glo "HistoryReader", .glo "EncodingError", .free "len", .free "abs", .free "min", .free "int", .free "bool", .free "list", .free "tuple", .free "range", .free "isinstance"] : List He.Fa) ++ ([.free "super", .int "KEEP" 0, .int "DROP" 1, .int "ADD" 2, .int "GREATEST_NUMBER" 34359738367, .int "MOST_DIGITS" 5, .cls "History", .mkr "History", .cls "HistoryReader", .mkr "HistoryReader", .noat "History" "first", .noat "History" "scripts"] : List He.Fa) ++ ([.noat "HistoryReader" "_octets", .noat "HistoryReader" "at", .meth "History" "__len__", .meth "History" "extend_by", .meth "History" "version", .meth "HistoryReader" "number", .meth "HistoryReader" "positive", .meth "HistoryReader" "block", .meth "HistoryReader" "_step", .meth "HistoryReader" "script"] : List He.Fa)
def df0 : He5.DefA := { at_ := fun K => He.fAd K ("patch", none), name := "patch", qual := "patch", params := defArgs s_patch, body := defBody s_patch, scope := defScope s_patch }
def df1 : He5.DefA := { at_ := fun K => He.fAd K ("number_octets", none), name := "number_octets", qual := "number_octets", params := defArgs s_number_octets, body := defBody s_number_octets, scope := defScope s_number_octets }
def df2 : He5.DefA := { at_ := fun K => He.fAd K ("read_number", none), name := "read_number", qual := "read_number", params := defArgs s_read_number, body := defBody s_read_number, scope := defScope s_read_number }
def df3 : He5.DefA := { at_ := fun K => He.fAd K ("_step_octets", none), name := "_step_octets", qual := "_step_octets", params := defArgs s_step_octets, body := defBody s_step_octets, scope := defScope s_step_octets }
def df4 : He5.DefA := { at_ := fun K => He.fAd K ("encode_history", none), name := "encode_history", qual := "encode_history", params := defArgs s_encode_history, body := defBody s_encode_history, scope := defScope s_encode_history }
def df5 : He5.DefA := { at_ := fun K => He.fAd K ("decode_history", none), name := "decode_history", qual := "decode_history", params := defArgs s_decode_history, body := defBody s_decode_history, scope := defScope s_decode_history }
def df6 : He5.DefA := { at_ := fun K => He.fAd K ("_law_cell", none), name := "_law_cell", qual := "_law_cell", params := defArgs s_law_cell, body := defBody s_law_cell, scope := defScope s_law_cell }
def df7 : He5.DefA := { at_ := fun K => He.fAd K ("_law_mix", none), name := "_law_mix", qual := "_law_mix", params := defArgs s_law_mix, body := defBody s_law_mix, scope := defScope s_law_mix }
def df8 : He5.DefA := { at_ := fun K => He.fAd K ("_law_row", none), name := "_law_row", qual := "_law_row", params := defArgs s_law_row, body := defBody s_law_row, scope := defScope s_law_row }
def df9 : He5.DefA := { at_ := fun K => He.fAd K ("_law_is_int", none), name := "_law_is_int", qual := "_law_is_int", params := defArgs s_law_is_int, body := defBody s_law_is_int, scope := defScope s_law_is_int }
def df10 : He5.DefA := { at_ := fun K => He.fAd K ("_law_items", none), name := "_law_items", qual := "_law_items", params := defArgs s_law_items, body := defBody s_law_items, scope := defScope s_law_items }
def df11 : He5.DefA := { at_ := fun K => He.fAd K ("_law_script", none), name := "_law_script", qual := "_law_script", params := defArgs s_law_script, body := defBody s_law_script, scope := defScope s_law_script }
def df12 : He5.DefA := { at_ := fun K => He.fAd K ("_law_patch", none), name := "_law_patch", qual := "_law_patch", params := defArgs s_law_patch, body := defBody s_law_patch, scope := defScope s_law_patch }
def df13 : He5.DefA := { at_ := fun K => He.fAd K ("_law_number", none), name := "_law_number", qual := "_law_number", params := defArgs s_law_number, body := defBody s_law_number, scope := defScope s_law_number }
def df14 : He5.DefA := { at_ := fun K => He.fAd K ("_law_read", none), name := "_law_read", qual := "_law_read", params := defArgs s_law_read, body := defBody s_law_read, scope := defScope s_law_read }
def df15 : He5.DefA := { at_ := fun K => He.fAd K ("_law_close", none), name := "_law_close", qual := "_law_close", params := defArgs s_law_close, body := defBody s_law_close, scope := defScope s_law_close }
def df16 : He5.DefA := { at_ := fun K => He.fAd K ("_law_normal", none), name := "_law_normal", qual := "_law_normal", params := defArgs s_law_normal, body := defBody s_law_normal, scope := defScope s_law_normal }
def df17 : He5.DefA := { at_ := fun K => He.fAd K ("_law_history", none), name := "_law_history", qual := "_law_history", params := defArgs s_law_history, body := defBody s_law_history, scope := defScope s_law_history }
def df18 : He5.DefA := { at_ := fun K => He.fAd K ("_law_positive", none), name := "_law_positive", qual := "_law_positive", params := defArgs s_law_positive, body := defBody s_law_positive, scope := defScope s_law_positive }
def df19 : He5.DefA := { at_ := fun K => He.fAd K ("_law_take_step", none), name := "_law_take_step", qual := "_law_take_step", params := defArgs s_law_take_step, body := defBody s_law_take_step, scope := defScope s_law_take_step }
def df20 : He5.DefA := { at_ := fun K => He.fAd K ("_law_take_script", none), name := "_law_take_script", qual := "_law_take_script", params := defArgs s_law_take_script, body := defBody s_law_take_script, scope := defScope s_law_take_script }
def df21 : He5.DefA := { at_ := fun K => He.fAd K ("_law_take_history", none), name := "_law_take_history", qual := "_law_take_history", params := defArgs s_law_take_history, body := defBody s_law_take_history, scope := defScope s_law_take_history }
def df22 : He5.DefA := { at_ := fun K => He.fAd K ("_law_damaged", none), name := "_law_damaged", qual := "_law_damaged", params := defArgs s_law_damaged, body := defBody s_law_damaged, scope := defScope s_law_damaged }
def df23 : He5.DefA := { at_ := fun K => He.fAd K ("law", none), name := "law", qual := "law", params := defArgs s_law, body := defBody s_law, scope := defScope s_law }
def df24 : He5.DefA := { at_ := fun K => He.fAd K ("History", some "__len__"), name := "__len__", qual := "History.__len__", params := defArgs s_History_len, body := defBody s_History_len, scope := defScope s_History_len }
def df25 : He5.DefA := { at_ := fun K => He.fAd K ("History", some "extend_by"), name := "extend_by", qual := "History.extend_by", params := defArgs s_History_extend_by, body := defBody s_History_extend_by, scope := defScope s_History_extend_by }
def df26 : He5.DefA := { at_ := fun K => He.fAd K ("History", some "version"), name := "version", qual := "History.version", params := defArgs s_History_version, body := defBody s_History_version, scope := defScope s_History_version }
def df27 : He5.DefA := { at_ := fun K => He.fAd K ("HistoryReader", some "number"), name := "number", qual := "HistoryReader.number", params := defArgs s_HistoryReader_number, body := defBody s_HistoryReader_number, scope := defScope s_HistoryReader_number }
def df28 : He5.DefA := { at_ := fun K => He.fAd K ("HistoryReader", some "positive"), name := "positive", qual := "HistoryReader.positive", params := defArgs s_HistoryReader_positive, body := defBody s_HistoryReader_positive, scope := defScope s_HistoryReader_positive }
def df29 : He5.DefA := { at_ := fun K => He.fAd K ("HistoryReader", some "block"), name := "block", qual := "HistoryReader.block", params := defArgs s_HistoryReader_block, body := defBody s_HistoryReader_block, scope := defScope s_HistoryReader_block }
def df30 : He5.DefA := { at_ := fun K => He.fAd K ("HistoryReader", some "_step"), name := "_step", qual := "HistoryReader._step", params := defArgs s_HistoryReaderstep, body := defBody s_HistoryReaderstep, scope := defScope s_HistoryReaderstep }
def df31 : He5.DefA := { at_ := fun K => He.fAd K ("HistoryReader", some "script"), name := "script", qual := "HistoryReader.script", params := defArgs s_HistoryReader_script, body := defBody s_HistoryReader_script, scope := defScope s_HistoryReader_script }
def df32 : He5.DefA := { at_ := fun K => He.fAd K ("History", some "__init__"), name := "__init__", qual := "History.__init__", params := defArgs s_History_init, body := defBody s_History_init, scope := defScope s_History_init }
def df33 : He5.DefA := { at_ := fun K => He.fAd K ("HistoryReader", some "__init__"), name := "__init__", qual := "HistoryReader.__init__", params := defArgs s_HistoryReader_init, body := defBody s_HistoryReader_init, scope := defScope s_HistoryReader_init }
def fn17 : List He5.DefA := ([df0, df1, df2, df3, df4, df5, df6, df7, df8, df9, df10, df11] : List He5.DefA) ++ ([df12, df13, df14, df15, df16, df17, df18, df19, df20, df21, df22, df23] : List He5.DefA) ++ ([df24, df25, df26, df27, df28, df29, df30, df31, df32, df33] : List He5.DefA)
def loose17 : List PySem.Str := (["_wall", "ArchiveError", "InvalidNumber", "InvalidScript", "NoSuchVersion", "EncodingError", "patch", "GREATEST_NUMBER", "MOST_DIGITS", "number_octets", "read_number", "KEEP", "DROP", "ADD", "History", "_step_octets", "encode_history", "HistoryReader", "decode_history"] : List PySem.Str) ++ (["_law_cell", "_law_mix", "_law_row", "_law_is_int", "_law_items", "_law_script", "_law_patch", "_law_number", "_law_read", "_law_is_normal", "_law_close", "_law_normal", "_law_history", "_law_positive", "_law_take_step", "_law_take_script", "_law_take_history", "_law_damaged"] : List PySem.Str)
abbrev R17 : PySem.W.OpenRow := PySem.W.OpenLaw.row PySem.Challenge.rw_scanpages_k17_whole_history_reading
abbrev hk17 : PySem.W.Hook := hook17 6 fa17 fn17
def ob17 (s : PySem.W.SharedT) : Al17 := obs17G 6 fa17 fn17 (HandSHeadRun.getT s)
theorem ob17_eq (s : PySem.W.SharedT) : ob17 s = hk17.obs s.abs := obs17G_eq (HandSHeadRun.getT_eq s)
set_option maxHeartbeats 0 in
theorem run17 (w : World) : HandSHeadRun.RunEq R17 (PySem.W.view R17.prog [42]) hk17 ob17 3000 loose17 w := by
  intro os
  kernel_rfl
section
variable {K : PySem.W.Frag} {h : Heap} {mg : Str → Option Value}
theorem df_of (X : K.In h) (G : h.Ns mainGlobals mg) {x : Str} {st : Stmt} {fd : FuncData} (g : (He.Fa.glo x).ok K = true) (F : FunD K x x (defArgs st) (defBody st) (defScope st) [] [] (He.fAd K (x, none)) fd) : Df K mg x st := ⟨_, fd, He.glo_ok X G g, He5.fun_of F⟩
theorem dm_of {C m qual : Str} {st : Stmt} {fd : FuncData} (g : (He.Fa.meth C m).ok K = true) (F : FunD K m qual (defArgs st) (defBody st) (defScope st) [] [] (He.fAd K (C, some m)) fd) : DfM K (He.ga K C) m qual st := ⟨_, fd, He.meth_ok g, He5.fun_of F⟩
theorem di_of {C qual : Str} {st : Stmt} {fd : FuncData} (g : (He.Fa.mkr C).ok K = true) (F : FunD K "__init__" qual (defArgs st) (defBody st) (defScope st) [] [] (He.fAd K (C, some "__init__")) fd) : DfI K (He.ga K C) qual st := ⟨_, fd, He.mkr_ok g, He5.fun_of F⟩
theorem txt17 (X : K.In h) (G : h.Ns mainGlobals mg) (c : obs17 fa17 fn17 K = val17 fn17) : Txt17 K mg (cE K) (fE K) (He.ga K "History") (He.ga K "HistoryReader") := by
  have ca : He5.SaysA fa17 fn17 K := congrArg (fun z : Al17 => z.1) c
  have ce : fnE K (fE K) = valE17 := congrArg (fun z : Al17 => z.2.1) c
  have cb : encB K = true := congrArg (fun z : Al17 => z.2.2) c
  obtain ⟨fd0, F0⟩ := ca.def_ 0 (d := df0) rfl
  obtain ⟨fd1, F1⟩ := ca.def_ 1 (d := df1) rfl
  obtain ⟨fd2, F2⟩ := ca.def_ 2 (d := df2) rfl
  obtain ⟨fd3, F3⟩ := ca.def_ 3 (d := df3) rfl
  obtain ⟨fd4, F4⟩ := ca.def_ 4 (d := df4) rfl
  obtain ⟨fd5, F5⟩ := ca.def_ 5 (d := df5) rfl
  obtain ⟨fd6, F6⟩ := ca.def_ 6 (d := df6) rfl
  obtain ⟨fd7, F7⟩ := ca.def_ 7 (d := df7) rfl
  obtain ⟨fd8, F8⟩ := ca.def_ 8 (d := df8) rfl
  obtain ⟨fd9, F9⟩ := ca.def_ 9 (d := df9) rfl
  obtain ⟨fd10, F10⟩ := ca.def_ 10 (d := df10) rfl
  obtain ⟨fd11, F11⟩ := ca.def_ 11 (d := df11) rfl
  obtain ⟨fd12, F12⟩ := ca.def_ 12 (d := df12) rfl
  obtain ⟨fd13, F13⟩ := ca.def_ 13 (d := df13) rfl
  obtain ⟨fd14, F14⟩ := ca.def_ 14 (d := df14) rfl
  obtain ⟨fd15, F15⟩ := ca.def_ 15 (d := df15) rfl
  obtain ⟨fd16, F16⟩ := ca.def_ 16 (d := df16) rfl
  obtain ⟨fd17, F17⟩ := ca.def_ 17 (d := df17) rfl
  obtain ⟨fd18, F18⟩ := ca.def_ 18 (d := df18) rfl
  obtain ⟨fd19, F19⟩ := ca.def_ 19 (d := df19) rfl
  obtain ⟨fd20, F20⟩ := ca.def_ 20 (d := df20) rfl
  obtain ⟨fd21, F21⟩ := ca.def_ 21 (d := df21) rfl
  obtain ⟨fd22, F22⟩ := ca.def_ 22 (d := df22) rfl
  obtain ⟨fd23, F23⟩ := ca.def_ 23 (d := df23) rfl
  obtain ⟨fd24, F24⟩ := ca.def_ 24 (d := df24) rfl
  obtain ⟨fd25, F25⟩ := ca.def_ 25 (d := df25) rfl
  obtain ⟨fd26, F26⟩ := ca.def_ 26 (d := df26) rfl
  obtain ⟨fd27, F27⟩ := ca.def_ 27 (d := df27) rfl
  obtain ⟨fd28, F28⟩ := ca.def_ 28 (d := df28) rfl
  obtain ⟨fd29, F29⟩ := ca.def_ 29 (d := df29) rfl
  obtain ⟨fd30, F30⟩ := ca.def_ 30 (d := df30) rfl
  obtain ⟨fd31, F31⟩ := ca.def_ 31 (d := df31) rfl
  obtain ⟨fd32, F32⟩ := ca.def_ 32 (d := df32) rfl
  obtain ⟨fd33, F33⟩ := ca.def_ 33 (d := df33) rfl
  exact {
    B := { len_ := He.free_ok X G (ca.fact 27 (f := .free "len") rfl), abs_ := He.free_ok X G (ca.fact 28 (f := .free "abs") rfl), min_ := He.free_ok X G (ca.fact 29 (f := .free "min") rfl), int_ := He.free_ok X G (ca.fact 30 (f := .free "int") rfl), bool_ := He.free_ok X G (ca.fact 31 (f := .free "bool") rfl), list_ := He.free_ok X G (ca.fact 32 (f := .free "list") rfl), tuple_ := He.free_ok X G (ca.fact 33 (f := .free "tuple") rfl), range_ := He.free_ok X G (ca.fact 34 (f := .free "range") rfl), isinstance_ := He.free_ok X G (ca.fact 35 (f := .free "isinstance") rfl), KEEP := He.int_ok X G (ca.fact 37 (f := .int "KEEP" 0) rfl), DROP := He.int_ok X G (ca.fact 38 (f := .int "DROP" 1) rfl), ADD := He.int_ok X G (ca.fact 39 (f := .int "ADD" 2) rfl), GREATEST_NUMBER := He.int_ok X G (ca.fact 40 (f := .int "GREATEST_NUMBER" 34359738367) rfl), MOST_DIGITS := He.int_ok X G (ca.fact 41 (f := .int "MOST_DIGITS" 5) rfl) }
    TE := enc_txt (He.glo_ok X G (ca.fact 26 (f := .glo "EncodingError") rfl)) (He.free_ok X G (ca.fact 36 (f := .free "super") rfl)) ce cb
    hC := ⟨He.cls_ok (ca.fact 42 (f := .cls "History") rfl), He.noat_ok (ca.fact 46 (f := .noat "History" "first") rfl), He.noat_ok (ca.fact 47 (f := .noat "History" "scripts") rfl)⟩
    rC := ⟨He.cls_ok (ca.fact 44 (f := .cls "HistoryReader") rfl), He.noat_ok (ca.fact 48 (f := .noat "HistoryReader" "_octets") rfl), He.noat_ok (ca.fact 49 (f := .noat "HistoryReader" "at") rfl)⟩
    gH := He.glo_ok X G (ca.fact 24 (f := .glo "History") rfl)
    gR := He.glo_ok X G (ca.fact 25 (f := .glo "HistoryReader") rfl)
    d_patch := df_of (st := s_patch) X G (ca.fact 0 (f := .glo "patch") rfl) F0
    d_number_octets := df_of (st := s_number_octets) X G (ca.fact 1 (f := .glo "number_octets") rfl) F1
    d_read_number := df_of (st := s_read_number) X G (ca.fact 2 (f := .glo "read_number") rfl) F2
    d_step_octets := df_of (st := s_step_octets) X G (ca.fact 3 (f := .glo "_step_octets") rfl) F3
    d_encode_history := df_of (st := s_encode_history) X G (ca.fact 4 (f := .glo "encode_history") rfl) F4
    d_decode_history := df_of (st := s_decode_history) X G (ca.fact 5 (f := .glo "decode_history") rfl) F5
    d_law_cell := df_of (st := s_law_cell) X G (ca.fact 6 (f := .glo "_law_cell") rfl) F6
    d_law_mix := df_of (st := s_law_mix) X G (ca.fact 7 (f := .glo "_law_mix") rfl) F7
    d_law_row := df_of (st := s_law_row) X G (ca.fact 8 (f := .glo "_law_row") rfl) F8
    d_law_is_int := df_of (st := s_law_is_int) X G (ca.fact 9 (f := .glo "_law_is_int") rfl) F9
    d_law_items := df_of (st := s_law_items) X G (ca.fact 10 (f := .glo "_law_items") rfl) F10
    d_law_script := df_of (st := s_law_script) X G (ca.fact 11 (f := .glo "_law_script") rfl) F11
    d_law_patch := df_of (st := s_law_patch) X G (ca.fact 12 (f := .glo "_law_patch") rfl) F12
    d_law_number := df_of (st := s_law_number) X G (ca.fact 13 (f := .glo "_law_number") rfl) F13
    d_law_read := df_of (st := s_law_read) X G (ca.fact 14 (f := .glo "_law_read") rfl) F14
    d_law_close := df_of (st := s_law_close) X G (ca.fact 15 (f := .glo "_law_close") rfl) F15
    d_law_normal := df_of (st := s_law_normal) X G (ca.fact 16 (f := .glo "_law_normal") rfl) F16
    d_law_history := df_of (st := s_law_history) X G (ca.fact 17 (f := .glo "_law_history") rfl) F17
    d_law_positive := df_of (st := s_law_positive) X G (ca.fact 18 (f := .glo "_law_positive") rfl) F18
    d_law_take_step := df_of (st := s_law_take_step) X G (ca.fact 19 (f := .glo "_law_take_step") rfl) F19
    d_law_take_script := df_of (st := s_law_take_script) X G (ca.fact 20 (f := .glo "_law_take_script") rfl) F20
    d_law_take_history := df_of (st := s_law_take_history) X G (ca.fact 21 (f := .glo "_law_take_history") rfl) F21
    d_law_damaged := df_of (st := s_law_damaged) X G (ca.fact 22 (f := .glo "_law_damaged") rfl) F22
    m_History_len := dm_of (st := s_History_len) (ca.fact 50 (f := .meth "History" "__len__") rfl) F24
    m_History_extend_by := dm_of (st := s_History_extend_by) (ca.fact 51 (f := .meth "History" "extend_by") rfl) F25
    m_History_version := dm_of (st := s_History_version) (ca.fact 52 (f := .meth "History" "version") rfl) F26
    m_HistoryReader_number := dm_of (st := s_HistoryReader_number) (ca.fact 53 (f := .meth "HistoryReader" "number") rfl) F27
    m_HistoryReader_positive := dm_of (st := s_HistoryReader_positive) (ca.fact 54 (f := .meth "HistoryReader" "positive") rfl) F28
    m_HistoryReader_block := dm_of (st := s_HistoryReader_block) (ca.fact 55 (f := .meth "HistoryReader" "block") rfl) F29
    m_HistoryReader_step := dm_of (st := s_HistoryReaderstep) (ca.fact 56 (f := .meth "HistoryReader" "_step") rfl) F30
    m_HistoryReader_script := dm_of (st := s_HistoryReader_script) (ca.fact 57 (f := .meth "HistoryReader" "script") rfl) F31
    i_History := di_of (st := s_History_init) (ca.fact 43 (f := .mkr "History") rfl) F32
    i_HistoryReader := di_of (st := s_HistoryReader_init) (ca.fact 45 (f := .mkr "HistoryReader") rfl) F33 }
theorem facts17 {w : World} {f : Addr} (X : K.In h) (G : h.Ns mainGlobals mg) (hfa : mg ("law" : Str) = some (.ref f)) (c : obs17 fa17 fn17 K = val17 fn17) :
    ∃ fd : FuncData, (∀ (s : Shared) (v : Value), BindsTo s fd ⟨[v], []⟩ [("_law_script_here", v)]) ∧ ∀ base : Heap, K.In base → base.Ns mainGlobals mg → FnOk prog17 w K mg base CX0 7 f fd ["_law_script_here"] (spLaw K) := by
  have ca : He5.SaysA fa17 fn17 K := congrArg (fun z : Al17 => z.1) c
  obtain ⟨fd, F⟩ := ca.def_ 23 (d := df23) rfl
  have e := hfa.symm.trans (He.glo_ok X G (ca.fact 23 (f := .glo "law") rfl))
  cases e
  have b := FunD.bindsA (ps := ["_law_script_here"]) F fun _ _ _ _ _ _ us hl => match us, hl with | [_], _ => rfl
  exact ⟨fd, fun s v => b s [v] rfl, fun base _ _ => all_law (txt17 X G c) (He5.fun_of (st := s_law) F)⟩
end
end K17
open PySem PySem.W PySem.Calls PyProof.Rows
theorem PySem.Challenge.cw_scanpages_k17_whole_history_reading_holds : PySem.Challenge.rw_scanpages_k17_whole_history_reading.Holds := by
  w_on; o_law
  refine HandSHeadRun.head_any (r := OpenLaw.row PySem.Challenge.rw_scanpages_k17_whole_history_reading) (q := view (OpenLaw.row PySem.Challenge.rw_scanpages_k17_whole_history_reading).prog [42]) (H := K17.hk17) (ob := K17.ob17) (M := 3000) (loose := K17.loose17) (d := HandSHeadRun.topDef (OpenLaw.row PySem.Challenge.rw_scanpages_k17_whole_history_reading).prog 42) (kwd := []) K17.ob17_eq
    (by kernel_rfl) (fun s => by kernel_rfl) K17.run17 (by kernel_rfl) (by kernel_rfl) (by kernel_rfl) (by rfl) (by first | assumption | decide +kernel) (by decide +kernel) ⟨rfl, rfl, rfl, rfl, rfl, by decide +kernel⟩ ?hw ?hc
  case hw => w_witness2
  case hc =>
    refine L2.walk_ofE (l := PySem.Challenge.rw_scanpages_k17_whole_history_reading) (n := 63) (k := 7) (x := "_law_script_here") (CX := L2.CX0) rfl (by decide) (by kernel_rfl) ⟨rfl, by decide, by decide⟩ ?F (fun _ _ _ _ z => z)
    intro w mg fa h Y G hmg0
    obtain ⟨K, KX, c⟩ := Y
    have hmg : mg ("law" : PySem.Str) = some (.ref fa) := by
      have e : (HandSHeadRun.topDef (OpenLaw.row PySem.Challenge.rw_scanpages_k17_whole_history_reading).prog 42).name = ("law" : PySem.Str) := by kernel_rfl
      rw [← e]
      exact hmg0
    obtain ⟨fd, hb, hF⟩ := K17.facts17 (w := w) KX G hmg c
    exact ⟨K, fd, K17.spLaw K, KX, hb, fun H a ns hl _ hS => ⟨a, ns, rfl, hS, fun _ => rfl⟩, hF⟩
